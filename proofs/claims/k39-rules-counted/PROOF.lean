import PyProof.Rows.All
import Wide.All
import OpenK.AllK
import Wide.FinOn
import HandS.ForMost
import HandS.Defaults
import HandS.Property
import HandS.EndBits
import HandS.Wide
import HandS.WideBits
import HandS.More
import HandS.IsInst
import HandS.Deep
import HandS.Conv
import HandS.List
import PyProof.ReprRoads
import PyProof.CallFns
import HandS.NoneIn
import HandS.Codes
import PySem.Challenge.RW_forcedties_k39_whole_rules_counted
set_option Elab.async false
set_option linter.all false
set_option maxRecDepth 100000
set_option maxHeartbeats 4000000

namespace DL
open PySem PySem.Spec PyProof.Rows L2
/-! # Promises of defs that are called while nothing is being shown (no repr is under way) -/
structure RoomG (k : Nat) (A : Around) : Prop where
  room : Room k A
  gd : A.guards = some []
theorem RoomG.mono {j k : Nat} {A : Around} (r : RoomG k A) (h : j ≤ k) : RoomG j A := ⟨r.room.mono h, r.gd⟩
theorem RoomG.deeper {k : Nat} {A : Around} (r : RoomG (k + 1) A) (env : Env) : RoomG k (A.deeper env) := ⟨r.room.deeper env, r.gd⟩
theorem RoomG.in1 {k : Nat} {A : Around} (r : RoomG (k + 1) A) : RoomG k A.in1 := ⟨r.room.in1, r.gd⟩
theorem make_guards {A : Around} {C : Addr} {us : List Value} {kw : List (Str × Value)} : (A.under (.builtin "type.__call__" ⟨.ref C :: us, kw⟩)).guards = A.guards := by
  cases h : A.guards <;> simp [Around.under, Code.guards, Code.isGuard, guardIds, pushGuards, h]
theorem RoomG.make {k : Nat} {A : Around} (r : RoomG (k + 1) A) (C : Addr) (us : List Value) (kw : List (Str × Value)) : RoomG k (A.under (.builtin "type.__call__" ⟨.ref C :: us, kw⟩)) := ⟨r.room.make C us kw, by rw [make_guards]; exact r.gd⟩
theorem RoomG.units {k : Nat} {A : Around} (r : RoomG k A) : A.units + 64 < cLine := r.room.units
structure FnG (P : Program) (w : World) (K : PySem.W.Frag) (mg : Str → Option Value) (base : Heap) (k : Nat) (f : Addr) (fd : FuncData) (ps : List Str) (sp : Sp) : Prop where
  len : ∀ vs H Q E, sp vs H Q E → vs.length = ps.length
  run : ∀ (A : Around) (outer : List Env) (s : Shared) (H : Hp) (args : Args) (us : List Value) (vs : List V) (Q : VK) (E : XK), RoomG k A → Env0 P w K mg base A outer s H →
    BindsTo s fd args (ps.zip us) → Vals vs us → sp vs H Q E → codeAny (model P w) A (.call (.ref f) args) (CR CX0 outer P w H s Q E) s
section
variable {P : Program} {w : World} {K : PySem.W.Frag} {mg : Str → Option Value} {base : Heap} {j k : Nat} {f : Addr} {fd : FuncData} {ps : List Str} {sp sp' : Sp}
theorem FnG.mono (F : FnG P w K mg base j f fd ps sp) (h : j ≤ k) : FnG P w K mg base k f fd ps sp := ⟨F.len, fun A o s H ar us vs Q E r => F.run A o s H ar us vs Q E (r.mono h)⟩
theorem FnG.imp (F : FnG P w K mg base k f fd ps sp) (h : ∀ vs H Q E, sp' vs H Q E → sp vs H Q E) : FnG P w K mg base k f fd ps sp' :=
  ⟨fun vs H Q E q => F.len vs H Q E (h _ _ _ _ q), fun A o s H ar us vs Q E r e0 b v q => F.run A o s H ar us vs Q E r e0 b v (h _ _ _ _ q)⟩
end
/-- what stands behind a call that ends well -/
theorem behind {X : Cx} {pins : List (Addr × Obj)} {σ : L2.St} {H : Hp} {s s' : Shared} {Q : VK} {E : XK} {r : Except Value Flow} (I : Inv X pins σ H s) (h : CR CX0 X.stack X.prog X.w H s Q E r s') : ∃ u, r = .ok (.ret u) ∧ EP X pins σ Q u s' := by
  cases r with
  | error er => exact False.elim h
  | ok fl =>
    cases fl <;> first | exact False.elim h | skip
    rename_i u
    exact ⟨u, rfl, I.after h⟩
section
variable {X : Cx} {k : Nat} {f C : Addr} {fd : FuncData} {ps : List Str} {sp : Sp} {dvs : List V} {ds : List Value} {E : XK} {x m : Str} {p pos apos : Pos} {e o : Expr} {es : List Expr} {ta : TE} {t tk : TA} {kws : List Keyword} {ks : List Str} {n : Nat} {g : List Value → List Value → List Value} {gV : List V → List V → List V}
theorem runG {pins : List (Addr × Obj)} {σ : L2.St} {H : Hp} {s : Shared} {Q : VK} {ar : Args} {us : List Value} {vs : List V} (F : FnG X.prog X.w X.K X.mg X.base k f fd ps sp) (hr : RoomG k X.A) (I : Inv X pins σ H s)
    (hb : BindsTo s fd ar (ps.zip us)) (rv : Vals vs us) (h : sp vs H Q E) : wpAny (model X.prog X.w) X.A (call (.ref f) ar.pos ar.kw) (EP X pins σ Q) X.xe s := by
  refine wpAny_call (codeAny_mono (F.run X.A X.stack s H ar us vs Q E hr I.env0 hb rv h) fun r s' q => ?_)
  obtain ⟨u, rfl, z⟩ := behind I q
  exact z
theorem runGb {pins : List (Addr × Obj)} {σ : L2.St} {H : Hp} {s : Shared} {Q : VK} {us : List Value} {vs : List V} (F : FnG X.prog X.w X.K X.mg X.base k f fd ps sp) (hr : RoomG k X.A) (hb : Binds X.K fd ps ds) (hd : Vals dvs ds)
    (I : Inv X pins σ H s) (rv : Vals vs us) (h : sp (vs ++ dvs) H Q E) : wpAny (model X.prog X.w) X.A (call (.ref f) us) (EP X pins σ Q) X.xe s :=
  runG (ar := ⟨us, []⟩) F hr I (hb s us I.kIn (by rw [← (rv.append hd).length]; exact F.len _ _ _ _ h)) (rv.append hd) h
theorem runGk {pins : List (Addr × Obj)} {σ : L2.St} {H : Hp} {s : Shared} {Q : VK} {us ws : List Value} {vs zs : List V} (F : FnG X.prog X.w X.K X.mg X.base k f fd ps sp) (hr : RoomG k X.A) (hb : KBn X.K fd ps n ks g gV)
    (I : Inv X pins σ H s) (rv : Vals vs us) (rz : Vals zs ws) (l1 : vs.length = n) (l2 : zs.length = ks.length) (h : sp (gV vs zs) H Q E) : wpAny (model X.prog X.w) X.A (call (.ref f) us (ks.zip ws)) (EP X pins σ Q) X.xe s :=
  runG (ar := ⟨us, ks.zip ws⟩) F hr I (hb.to s us ws I.kIn (rv.length.symm.trans l1) (rz.length.symm.trans l2)) (hb.rel rv rz) h
/-! calls by position -/
theorem pe_callG (F : FnG X.prog X.w X.K X.mg X.base k f fd ps sp) (hr : RoomG k X.A) (hg : Gl X x) (hm : X.mg x = some (.ref f)) (hk : PySem.W.keepIn X.K (.ref f) = true) (hb : Binds X.K fd ps ds) (hd : Vals dvs ds)
    (ha : PA X (e :: es) t) (hdb : (x == ("__debug__" : Str)) = false := by decide) (hst : starEach (e :: es) X.env = (false, eval e X.env) :: starEach es X.env := by rfl) (hpl : (backTo pos (starEach es X.env)).any (·.1) = false := by rfl) :
    PE X (.Call (.Name x p) (e :: es) [] pos) (tCall sp dvs E t) :=
  ⟨fun pins s σ H Q I h => wpAny_Call_Name_kw (ld_glob I hg hm (PySem.W.callWith_K (h₀ := X.base) I.ok.mod.kin hk
    (thn (ha.run pos pins s σ H _ I h) fun us s1 ⟨vs, H1, I1, rv, q⟩ => ⟨I1.kIn, runGb F hr hb hd I1 rv q⟩) hst hpl) hdb)⟩
theorem pe_callG0 (F : FnG X.prog X.w X.K X.mg X.base k f fd ps sp) (hr : RoomG k X.A) (hg : Gl X x) (hm : X.mg x = some (.ref f)) (hk : PySem.W.keepIn X.K (.ref f) = true) (hb : Binds X.K fd ps ds) (hd : Vals dvs ds)
    (hdb : (x == ("__debug__" : Str)) = false := by decide) : PE X (.Call (.Name x p) [] [] pos) (tCall sp dvs E tNil) :=
  ⟨fun pins s σ H Q I h => wpAny_Call_Name_kw (ld_glob I hg hm (PySem.W.callWith_K0 I.kIn hk (runGb (us := []) F hr hb hd I .nil h)) hdb)⟩
theorem pe_methG {pl : Sem Bool} (he : PE X o ta) (c : Cls X.K C) (hm : Meth X.K C m f) (F : FnG X.prog X.w X.K X.mg X.base k f fd ps sp) (hr : RoomG k X.A) (hb : Binds X.K fd ps ds) (hd : Vals dvs ds) (ha : PA X (e :: es) t)
    (hst : starEach (e :: es) X.env = (false, eval e X.env) :: starEach es X.env := by rfl) (hpl : (backTo pos (starEach es X.env)).any (·.1) = false := by rfl)
    (ht : eval (.Call (.Attribute o m apos) (e :: es) [] pos) X.env = (eval o X.env >>= fun ov => standAt apos.atName >>= fun _ => holding [ov] (getMethod ov m pl) >>= fun q =>
      callWith pos q.1 q.2 (backTo pos (starEach (e :: es) X.env)) (backToKw pos (keywordEach [] X.env))) := by rfl) :
    PE X (.Call (.Attribute o m apos) (e :: es) [] pos) (tMeth C m sp dvs E ta t) := by
  refine ⟨fun pins s σ H Q I h => PySem.W.methodCall_KW (pl := pl) (thn (he.run pins s σ H _ I h) fun u s1 ⟨y, H1, I1, ry, a, dx, fs, ex, ea, l, q⟩ => ?_) ht⟩
  subst ex
  have ry : u = Value.ref a := ry
  subst ry
  exact getmeth_ok I1 ea c hm l (PySem.W.callWith_K (first := [.ref a]) (h₀ := X.base) I.ok.mod.kin hm.kp (thn (ha.run pos pins s1 σ H1 _ I1 q)
    fun us s2 ⟨vs, H2, I2, rv, q2⟩ => ⟨I2.kIn, runGb (us := .ref a :: us) (vs := .ref a :: vs) F hr hb hd I2 (.cons rfl rv) q2⟩) hst hpl)
theorem pe_methG0 {pl : Sem Bool} (he : PE X o ta) (c : Cls X.K C) (hm : Meth X.K C m f) (F : FnG X.prog X.w X.K X.mg X.base k f fd ps sp) (hr : RoomG k X.A) (hb : Binds X.K fd ps ds) (hd : Vals dvs ds)
    (ht : eval (.Call (.Attribute o m apos) [] [] pos) X.env = (eval o X.env >>= fun ov => standAt apos.atName >>= fun _ => holding [ov] (getMethod ov m pl) >>= fun q =>
      callWith pos q.1 q.2 (backTo pos (starEach [] X.env)) (backToKw pos (keywordEach [] X.env))) := by rfl) : PE X (.Call (.Attribute o m apos) [] [] pos) (tMeth C m sp dvs E ta tNil) := by
  refine ⟨fun pins s σ H Q I h => PySem.W.methodCall_KW (pl := pl) (thn (he.run pins s σ H _ I h) fun u s1 ⟨y, H1, I1, ry, a, dx, fs, ex, ea, l, q⟩ => ?_) ht⟩
  subst ex
  have ry : u = Value.ref a := ry
  subst ry
  exact getmeth_ok I1 ea c hm l (PySem.W.callWith_K0 (first := [.ref a]) I1.kIn hm.kp (runGb (us := [.ref a]) (vs := [.ref a]) F hr hb hd I1 (.cons rfl .nil) q))
/-! calls by name alone -/
def tMethK (C : Addr) (m : Str) (n : Nat) (sp : Sp) (gV : List V → List V → List V) (E : XK) (ta : TE) (tk : TA) : TE := fun σ H Q => ta σ H fun x H1 => ∃ a dx fs, x = .ref a ∧ H1 a = some (.ins C dx fs) ∧ fs.lookup m = none ∧
  tk σ H1 fun zs H2 => zs.length = n ∧ sp (gV [x] zs) H2 Q E
theorem pe_methGK {pl : Sem Bool} (he : PE X o ta) (c : Cls X.K C) (hm : Meth X.K C m f) (F : FnG X.prog X.w X.K X.mg X.base k f fd ps sp) (hr : RoomG k X.A) (hb : KBn X.K fd ps 1 ks g gV) (hkw : PK X kws tk)
    (hall : (backToKw pos (keywordEach kws X.env)).all (·.1.isSome) = true := by rfl) (hks : (backToKw pos (keywordEach kws X.env)).filterMap (·.1) = ks := by rfl)
    (hpl : ((backTo pos (starEach [] X.env)).any (·.1) || (backToKw pos (keywordEach kws X.env)).any (·.1.isNone)) = false := by rfl)
    (ht : eval (.Call (.Attribute o m apos) [] kws pos) X.env = (eval o X.env >>= fun ov => standAt apos.atName >>= fun _ => holding [ov] (getMethod ov m pl) >>= fun q =>
      callWith pos q.1 q.2 (backTo pos (starEach [] X.env)) (backToKw pos (keywordEach kws X.env))) := by rfl) : PE X (.Call (.Attribute o m apos) [] kws pos) (tMethK C m ks.length sp gV E ta tk) := by
  refine ⟨fun pins s σ H Q I h => PySem.W.methodCall_KW (pl := pl) (thn (he.run pins s σ H _ I h) fun u s1 ⟨y, H1, I1, ry, a, dx, fs, ex, ea, l, q⟩ => ?_) ht⟩
  subst ex
  have ry : u = Value.ref a := ry
  subst ry
  refine getmeth_ok I1 ea c hm l (PySem.W.callWith_KW0 (first := [.ref a]) (h₀ := X.base) I.ok.mod.kin hm.kp hall (thn (hkw.run pos pins s1 σ H1 _ I1 q) fun ws s2 ⟨zs, H2, I2, rz, lz, q2⟩ => ⟨I2.kIn, ?_⟩) hpl)
  rw [hks]
  exact runGk (us := [.ref a]) (vs := [.ref a]) F hr hb I2 (.cons rfl .nil) rz rfl lz q2
def tCallK0 (n : Nat) (sp : Sp) (gV : List V → List V → List V) (E : XK) (tk : TA) : TE := fun σ H Q => tk σ H fun zs H2 => zs.length = n ∧ sp (gV [] zs) H2 Q E
theorem pe_callGK (F : FnG X.prog X.w X.K X.mg X.base k f fd ps sp) (hr : RoomG k X.A) (hg : Gl X x) (hm : X.mg x = some (.ref f)) (hk : PySem.W.keepIn X.K (.ref f) = true) (hb : KBn X.K fd ps 0 ks g gV) (hkw : PK X kws tk)
    (hall : (backToKw pos (keywordEach kws X.env)).all (·.1.isSome) = true := by rfl) (hks : (backToKw pos (keywordEach kws X.env)).filterMap (·.1) = ks := by rfl) (hdb : (x == ("__debug__" : Str)) = false := by decide)
    (hpl : ((backTo pos (starEach [] X.env)).any (·.1) || (backToKw pos (keywordEach kws X.env)).any (·.1.isNone)) = false := by rfl) : PE X (.Call (.Name x p) [] kws pos) (tCallK0 ks.length sp gV E tk) := by
  refine ⟨fun pins s σ H Q I h => wpAny_Call_Name_kw (ld_glob I hg hm (PySem.W.callWith_KW0 (h₀ := X.base) I.ok.mod.kin hk hall (thn (hkw.run pos pins s σ H _ I h) fun ws s2 ⟨zs, H2, I2, rz, lz, q2⟩ => ⟨I2.kIn, ?_⟩) hpl) hdb)⟩
  rw [hks]
  exact runGk (us := []) (vs := []) F hr hb I2 .nil rz rfl lz q2
/-! new objects -/
theorem runMk {pins : List (Addr × Obj)} {σ : L2.St} {H : Hp} {s : Shared} {Q : VK} {us ws zs' : List Value} {kn : List Str} (M : Mk X.K C f) (F : FnG X.prog X.w X.K X.mg X.base k f fd ps sp) (hr : RoomG (k + 1) X.A) (I : Inv X pins σ H s)
    (hb : ∀ s' : Shared, X.K.In s'.heap → BindsTo s' fd ⟨.ref (s.heap.objs.size + 1) :: us, kn.zip ws⟩ (ps.zip (.ref (s.heap.objs.size + 1) :: zs'))) {zv : List V} (rv : Vals zv zs')
    (h : ∀ y dx, H y = none → H dx = none → dx ≠ y → sp (.ref y :: zv) (upd (upd H dx (.own y)) y (.ins C dx [])) (fun v H2 => v = .non ∧ Q (.ref y) H2) E) :
    wpAny (model X.prog X.w) X.A (call (.ref C) us (kn.zip ws)) (EP X pins σ Q) X.xe s := by
  have hq := h (s.heap.objs.size + 1) s.heap.objs.size (I.hok.fresh (Nat.le_succ _)) (I.hok.fresh (Nat.le_refl _)) (Nat.ne_of_lt (Nat.lt_succ_self _))
  have J := Inv.made (C := C) I
  refine wpAny_call (make_map (f := f) I.kIn M.makes M.init (beq_iff_eq.mp M.fn) (codeAny_mono (F.run _ X.stack _ _ _ _ (V.ref (s.heap.objs.size + 1) :: zv) _ E (hr.make C us (kn.zip ws)) (J.env0.make C us (kn.zip ws)) (hb _ J.kIn) (.cons rfl rv) hq) fun r s' z => ?_))
  obtain ⟨u, rfl, v, H', I3, ru, ev, q3⟩ := behind J z
  subst ev
  exact ⟨ru, V.ref (s.heap.objs.size + 1), H', I3, rfl, q3⟩
theorem pe_makeG (M : Mk X.K C f) (F : FnG X.prog X.w X.K X.mg X.base k f fd ps sp) (hr : RoomG (k + 1) X.A) (hg : Gl X x) (hm : X.mg x = some (.ref C)) (hb : Binds X.K fd ps ds) (hd : Vals dvs ds)
    (ha : PA X (e :: es) t) (hdb : (x == ("__debug__" : Str)) = false := by decide) (hst : starEach (e :: es) X.env = (false, eval e X.env) :: starEach es X.env := by rfl) (hpl : (backTo pos (starEach es X.env)).any (·.1) = false := by rfl) :
    PE X (.Call (.Name x p) (e :: es) [] pos) (tMake C sp dvs E t) := by
  refine ⟨fun pins s σ H Q I h => wpAny_Call_Name_kw (ld_glob I hg hm (PySem.W.callWith_K (h₀ := X.base) I.ok.mod.kin M.kp (thn (ha.run pos pins s σ H _ I h) fun us s1 ⟨vs, H1, I1, rv, q⟩ => ⟨I1.kIn, ?_⟩) hst hpl) hdb)⟩
  have q0 := q (s1.heap.objs.size + 1) s1.heap.objs.size (I1.hok.fresh (Nat.le_succ _)) (I1.hok.fresh (Nat.le_refl _)) (Nat.ne_of_lt (Nat.lt_succ_self _))
  have hl := F.len _ _ _ _ q0
  refine runMk (kn := []) (ws := []) M F hr I1 (fun s' kin => hb s' (Value.ref (s1.heap.objs.size + 1) :: us) kin ?_) (rv.append hd) q
  rw [← hl, List.cons_append, List.length_cons, List.length_cons, (rv.append hd).length]
def tMakeK0 (C : Addr) (n : Nat) (sp : Sp) (gV : List V → List V → List V) (E : XK) (tk : TA) : TE := fun σ H Q => tk σ H fun zs H1 => zs.length = n ∧ ∀ y dx, H1 y = none → H1 dx = none → dx ≠ y →
  sp (gV [.ref y] zs) (upd (upd H1 dx (.own y)) y (.ins C dx [])) (fun v H2 => v = .non ∧ Q (.ref y) H2) E
end
/-! ## the body of a def -/
section
variable {P : Program} {w : World} {K : PySem.W.Frag} {mg : Str → Option Value} {base : Heap}
theorem fnG_of {k : Nat} {f : Addr} {nm qual : Str} {prm : Arguments} {body : List Stmt} {scope : Scope} {dV kV doc pm cdv ct oc : Value} {an od : Option Addr} {osl : Array (Option Value)} {N ps : List Str} {sp : Sp}
    (lk : K.lookup f = some ⟨oc, od, .func (PySem.W.fnOf nm qual prm body scope dV kV doc pm an cdv ct), osl⟩) (hcd : PySem.W.codeIn K cdv qual = true) (S : FnScope N ps scope) (len : ∀ vs H Q E, sp vs H Q E → vs.length = ps.length)
    (hbody : ∀ (A : Around) (outer : List Env) (s : Shared) (H : Hp) (vs : List V) (Q : VK) (E : XK), RoomG k (A.deeper (envOfC qual scope s.heap.objs.size f cdv)) → sp vs H Q E →
      ∃ t, PSs (cxOf CX0 P w K mg base N qual scope f cdv A outer s H E).nox body t ∧ t { nx := fun _ H' => Q .non H', rt := Q } (start N vs) H) : FnG P w K mg base (k + 1) f (PySem.W.fnOf nm qual prm body scope dV kV doc pm an cdv ct) ps sp := by
  refine ⟨len, fun A outer s H ar us vs Q E hr e0 hb rv hsp => ?_⟩
  have old := fun b o e => (e0.bs b o e).1
  have kin : K.In s.heap := e0.mod.kin.keeps old
  refine codeAny_call_function hr.room.depth (kin _ _ lk) rfl S.co S.gen rfl (PySem.W.codeRec_of kin hcd) (hb _ _ _ _ (wpAny_newFunctionEnv_cells S.kind (fun y hy => ?_) fun env he s1 nw => ?_))
  · rcases S.par y.1 (List.of_mem_zip (b := y.2) hy).1 with q | q
    · exact .inl q
    · exact .inr ⟨q, PySem.W.cellsFrom_some _ _ _ (.inl q)⟩
  · subst he
    refine ⟨(e0.mod.nolimit.keeps old).keeps nw.toInCall.keep, codeAny_func ?_⟩
    obtain ⟨t, ht, hq⟩ := hbody A outer s H vs Q E (hr.deeper _) hsp
    refine wpAny_mono (ht.nox.run [] s1 (start N vs) H _ (inv_start S hr.room.hd e0 (len _ _ _ _ hsp) rv nw) hq) (fun fl s' z => ?_) fun _ _ z => z
    cases fl with
    | ret u => obtain ⟨v, _, G, J, ru, q⟩ := z; exact ⟨v, G, J.os, J.bare, J.base, J.hok, ru, q⟩
    | next => obtain ⟨_, G, J, q⟩ := z; exact ⟨.non, G, J.os, J.bare, J.base, J.hok, rfl, q⟩
    | brk => obtain ⟨_, _, _, q⟩ := z; exact q.elim
    | cont => obtain ⟨_, _, _, q⟩ := z; exact q.elim
theorem funG {x qual : Str} {st : Stmt} {f : Addr} {fd : FuncData} {N ps : List Str} {k : Nat} {sp : Sp} (F : Fun K x qual st f fd) (S : FnScope N ps (defScope st)) (len : ∀ vs H Q E, sp vs H Q E → vs.length = ps.length)
    (hbody : ∀ (cdv : Value) (A : Around) (outer : List Env) (s : Shared) (H : Hp) (vs : List V) (Q : VK) (E : XK), RoomG k (A.deeper (envOfC qual (defScope st) s.heap.objs.size f cdv)) → sp vs H Q E →
      ∃ t, PSs (cxOf CX0 P w K mg base N qual (defScope st) f cdv A outer s H E).nox (defBody st) t ∧ t { nx := fun _ H' => Q .non H', rt := Q } (start N vs) H) : FnG P w K mg base (k + 1) f fd ps sp := by
  obtain ⟨oc, od, kV, doc, pm, an, cdv, ct, osl, rfl, lk, hcd⟩ := F.ex
  exact fnG_of lk hcd S len (hbody cdv)
theorem funDG {x qual : Str} {prm : Arguments} {body : List Stmt} {scope : Scope} {dvs : List V} {kws : List (Str × V)} {f : Addr} {fd : FuncData} {N ps : List Str} {k : Nat} {sp : Sp} (F : FunD K x qual prm body scope dvs kws f fd) (S : FnScope N ps scope)
    (len : ∀ vs H Q E, sp vs H Q E → vs.length = ps.length)
    (hbody : ∀ (cdv : Value) (A : Around) (outer : List Env) (s : Shared) (H : Hp) (vs : List V) (Q : VK) (E : XK), RoomG k (A.deeper (envOfC qual scope s.heap.objs.size f cdv)) → sp vs H Q E →
      ∃ t, PSs (cxOf CX0 P w K mg base N qual scope f cdv A outer s H E).nox body t ∧ t { nx := fun _ H' => Q .non H', rt := Q } (start N vs) H) : FnG P w K mg base (k + 1) f fd ps sp := by
  obtain ⟨oc, od, dV, kV, doc, pm, an, cdv, ct, osl, rfl, lk, hcd, _, _⟩ := F.ex
  exact fnG_of lk hcd S len (hbody cdv)
end
/-! ## the law's end -/
section
variable {P : Program} {w : World} {K : PySem.W.Frag} {mg mb : Str → Option Value} {k : Nat} {fa a : Addr} {fd : FuncData} {x : Str} {sp : Sp} {s : Shared} {vs : List Value} {ns : List Int}
/-- from a tracked heap that holds the script at most -/
theorem lawG_core {G : Hp} (kin : K.In s.heap) (nsg : s.heap.Ns mainGlobals mg) (nsb : s.heap.Ns builtinsNs mb) (boot : ∀ y : Str, y ≠ "__name__" → mb y = bootBuiltins y) (lim : s.heap.NoLimit) (gn : s.gens = #[])
    (ha : s.heap.get? a = some { cls := .type "list", data := .seq vs.toArray }) (hr : Room k callerA) (F : ∀ base : Heap, K.In base → base.Ns mainGlobals mg → FnG P w K mg base k fa fd [x] sp) (bind : ∀ (z : Shared) (u : Value), BindsTo z fd ⟨[u], []⟩ [(x, u)])
    (only : Only G) (hok : HOk P w G s.heap) (at_ : ∀ b, G b ≠ none → b = a) (nk : G a ≠ none → K.lookup a = none) (hsp : sp [.ref a] G (fun v _ => v = .bl true) fun _ _ _ => False) :
    codeAny (model P w) callerA (.call (.ref fa) ⟨[.ref a], []⟩) (fun r z => r = .ok (.ret (.bool true)) ∧ OldK s.heap z.heap ∧ z.os = s.os ∧ AllBare z.gens) s := by
  have hid : ∀ {b : Addr} {o : Obj}, s.heap.get? b = some o → (b = a → False) → (hidT s.heap G).get? b = some o := fun {b o} e ne => hidT_get e (by
    cases q : G b with
    | none => rfl
    | some _ => exact (ne (at_ b (by rw [q]; simp))).elim)
  have nsd : ∀ {b : Addr} {m : Str → Option Value}, s.heap.Ns b m → (hidT s.heap G).Ns b m := fun {b m} ⟨o, es, ep, e, d, r⟩ => ⟨o, es, ep, hid e (fun q => by
    subst q
    rw [ha] at e
    cases e
    cases d), d, r⟩
  have kb : K.In (hidT s.heap G) := fun b o e => hidT_get (kin b o e) (by
    cases q : G b with
    | none => rfl
    | some _ =>
      have q1 := at_ b (by rw [q]; simp)
      subst q1
      rw [nk (by rw [q]; simp)] at e
      cases e)
  obtain ⟨mc, l1, l2⟩ := lim
  have none0 : ∀ b : Addr, b ∈ frs [] → False := fun b h => by cases h
  refine codeAny_mono ((F _ kb (nsd nsg)).run callerA [] s G ⟨[.ref a], []⟩ [.ref a] [.ref a] _ _ ⟨hr, rfl⟩ ⟨rfl, ⟨kb, nsd nsg, ⟨mb, nsd nsb, boot⟩, ⟨mc, nsd l1, l2⟩⟩, fun b o e => of_hidT e, Nat.le_of_eq (hidT_size _ _), trivial, fun b h => (none0 b h).elim, hok, .of_eq gn⟩
    (bind s (.ref a)) (.cons rfl .nil) hsp) fun r z h => ?_
  cases r with
  | error er => exact False.elim h
  | ok fl =>
    cases fl <;> first | exact False.elim h | skip
    rename_i u
    obtain ⟨v, G', os, bare, un, hok', ru, q⟩ := h
    have q : v = .bl true := q
    subst q
    have ru : u = Value.bool true := ru
    subst ru
    refine ⟨rfl, OldK.of_keep fun b o e => ?_, os, bare⟩
    cases q : G b with
    | none => exact un.keep b o e q (none0 b) (fun h => by cases h)
    | some c =>
      rcases only b with y | ⟨ob, xs, y⟩
      · rw [q] at y
        cases y
      · have e1 := (hok b _ y).1
        rw [e] at e1
        cases e1
        exact (hok' b _ (un.frzs b _ _ y)).1
theorem lawG (kin : K.In s.heap) (nsg : s.heap.Ns mainGlobals mg) (nsb : s.heap.Ns builtinsNs mb) (boot : ∀ y : Str, y ≠ "__name__" → mb y = bootBuiltins y) (lim : s.heap.NoLimit) (gn : s.gens = #[])
    (ha : s.heap.get? a = some { cls := .type "list", data := .seq vs.toArray }) (hi : IntsAre vs ns) (hl : ns.length ≤ sizeLine) (hr : Room k callerA) (F : ∀ base : Heap, K.In base → base.Ns mainGlobals mg → FnG P w K mg base k fa fd [x] sp)
    (bind : ∀ (z : Shared) (u : Value), BindsTo z fd ⟨[u], []⟩ [(x, u)]) (hsp : ∀ G : Hp, SqL K G a (ns.map V.int) → sp [.ref a] G (fun v _ => v = .bl true) fun _ _ _ => False) :
    codeAny (model P w) callerA (.call (.ref fa) ⟨[.ref a], []⟩) (fun r z => r = .ok (.ret (.bool true)) ∧ OldK s.heap z.heap ∧ z.os = s.os ∧ AllBare z.gens) s := by
  cases hk : K.lookup a with
  | some o =>
    have e := kin a o hk
    rw [ha] at e
    cases e
    exact lawG_core (G := fun _ => none) kin nsg nsb boot lim gn ha hr F bind (fun _ => .inl rfl) (fun _ _ y => by cases y) (fun _ y => absurd rfl y) (fun y => absurd rfl y)
      (hsp _ (.inr ⟨_, vs.toArray, _, hk, rfl, rfl, rfl, by rw [List.size_toArray, hi.length]; exact hl, by simpa using vals_ints hi⟩))
  | none =>
    have at_ : ∀ b, (fun b => if b = a then some (HO.frz { cls := .type "list", data := .seq vs.toArray } (.lst (ns.map V.int))) else none) b ≠ none → b = a := fun b y => Decidable.byContradiction fun ne => y (if_neg ne)
    refine lawG_core (G := fun b => if b = a then some (.frz { cls := .type "list", data := .seq vs.toArray } (.lst (ns.map V.int))) else none) kin nsg nsb boot lim gn ha hr F bind (fun b => ?_) (fun b u y => ?_) at_ (fun _ => hk) (hsp _ (.inl (.inr ⟨_, if_pos rfl⟩)))
    · by_cases hb : b = a
      · exact .inr ⟨_, _, if_pos hb⟩
      · exact .inl (if_neg hb)
    · have hb : b = a := at_ b (by rw [y]; simp)
      subst hb
      have y2 := (if_pos rfl).symm.trans y
      cases y2
      exact ⟨ha, by rw [List.length_map]; exact hl, vs, _, vals_ints hi, ha⟩
end
theorem walkG {l : PySem.W.OpenLaw} {n k : Nat} {q : Program} {loose : List Str} {XP : (Str → Option Value) → Heap → Prop} {YP : World → Heap → Prop} {d : DefRec} {K : Params → PySem.W.Frag} {sp : PySem.W.Frag → Sp} {x : Str}
    (hn : l.most = some n) (hn2 : n ≤ sizeLine) (hdf : d.params.defaults = []) (hr : Room k callerA) (hY : ∀ (w : World) (h : Heap), YP w h → (K w.params).In h)
    (F : ∀ (w : World) (mg : Str → Option Value) (fa : Addr) (h : Heap), (K w.params).In h → h.Ns mainGlobals mg → mg d.name = some (.ref fa) →
      ∃ fd : FuncData, (∀ (z : Shared) (u : Value), BindsTo z fd ⟨[u], []⟩ [(x, u)]) ∧ ∀ base : Heap, (K w.params).In base → base.Ns mainGlobals mg → FnG l.prog w (K w.params) mg base k fa fd [x] (sp (K w.params)))
    (hsp : ∀ (K : PySem.W.Frag) (G : Hp) (a : Addr) (ns : List Int), ns.length ≤ n → SqL K G a (ns.map V.int) → sp K [.ref a] G (fun v _ => v = .bl true) fun _ _ _ => False) :
    PySem.W.WalkO q loose XP YP l.row.toRowW d [] (fun f vs => PySem.call f vs) := by
  refine Att.attach_call hn hdf fun w s₀ s₁ mg mb fa o pm cd doc a vs ns G Y ho hd hcd hmg hobj hints hlen hg => ?_
  obtain ⟨fd, hb, hF⟩ := F w mg fa _ (hY w _ Y) G.T.g hmg
  exact lawG (hY w _ Y) G.T.g G.T.b G.T.builtins G.T.nolimit hg hobj hints (Nat.le_trans hlen hn2) hr hF hb fun H hS => hsp _ H a ns hlen hS
end DL

namespace DL
open PySem L2

/-! # The data layer: plain data over the hand layer's heap -/
inductive D where
  | non
  | bl (b : Bool)
  | int (i : Int)
  | str (x : Str)
  | tup (ds : List D)
  | lst (ds : List D)
  | dct (ks : List Key) (ds : List D)
  | scr (ns : List Int)
  | ref (i : Nat)
  | obj (c : Str) (fs : List Str) (ds : List D)

inductive Cell where
  | lst (ds : List D)
  | dct (kvs : List (Key × D))
  | ins (c : Str) (fs : List Str) (ds : List D)

abbrev Sto := List Cell
abbrev DEnv := List (Option D)
abbrev FE := DEnv → Sto → Option (D × Sto)
abbrev FA := DEnv → Sto → Option (List D × Sto)
abbrev FT := DEnv → Sto → Option (Bool × Sto)
abbrev FD := List D → Sto → Option (D × Sto)
inductive Fl where
  | nx (env : DEnv)
  | rt (d : D)
  | bk (env : DEnv)
  | ct (env : DEnv)
abbrev FS := DEnv → Sto → Option (Fl × Sto)

abbrev CT := Str → Option Addr

section
variable (K : PySem.W.Frag) (ct : CT)
mutual
def Rep (m : List Addr) (F : Hp) : D → V → Prop
  | .non, v => v = .non
  | .bl b, v => v = .bl b
  | .int i, v => v = .int i
  | .str x, v => v = .str x
  | .tup ds, v => ∃ a vs, v = .ref a ∧ SqT K F a vs ∧ Reps m F ds vs
  | .lst ds, v => ∃ a vs, v = .ref a ∧ F a = some (.lst vs) ∧ Reps m F ds vs
  | .dct ks ds, v => ∃ a vs, v = .ref a ∧ F a = some (.dK (ks.zip vs)) ∧ ks.length = vs.length ∧ Reps m F ds vs
  | .scr ns, v => ∃ a, v = .ref a ∧ SqL K F a (ns.map V.int)
  | .ref i, v => ∃ a, m[i]? = some a ∧ v = .ref a
  | .obj c fs ds, v => ∃ a C dx vs, v = .ref a ∧ ct c = some C ∧ F a = some (.ins C dx (fs.zip vs)) ∧ fs.length = vs.length ∧ Reps m F ds vs
def Reps (m : List Addr) (F : Hp) : List D → List V → Prop
  | [], vs => vs = []
  | d :: ds, vs => ∃ v r, vs = v :: r ∧ Rep m F d v ∧ Reps m F ds r
end
def CellR (m : List Addr) (F : Hp) (o : Option HO) : Cell → Prop
  | .lst ds => ∃ vs, o = some (.lst vs) ∧ Reps K ct m F ds vs
  | .dct kvs => ∃ us, o = some (.dK us) ∧ Paired (fun (p : Key × D) (q : Key × V) => p.1 = q.1 ∧ Rep K ct m F p.2 q.2) kvs us
  | .ins c fs ds => ∃ C dx vs, o = some (.ins C dx (fs.zip vs)) ∧ ct c = some C ∧ fs.length = vs.length ∧ Reps K ct m F ds vs
structure Sim (m : List Addr) (F : Hp) (S : Sto) (H : Hp) : Prop where
  same : Same F H
  len : m.length = S.length
  nd : m.Nodup
  off : ∀ a ∈ m, F a = none
  cell : ∀ (i : Nat) (a : Addr) (c : Cell), m[i]? = some a → S[i]? = some c → CellR K ct m F (H a) c
def EnvR (m : List Addr) (F : Hp) (env : DEnv) (σ : St) : Prop :=
  env.length = σ.length ∧ ∀ (i : Nat) (d : D), env[i]? = some (some d) → ∃ v, σ[i]? = some (some v) ∧ Rep K ct m F d v
end
/-- what an evaluation may do to the heap -/
structure Ext (m : List Addr) (F H : Hp) (m' : List Addr) (F' H' : Hp) : Prop where
  pre : ∀ (i : Nat) (a : Addr), m[i]? = some a → m'[i]? = some a
  same : Same F F'
  keep : ∀ b o, H b = some o → b ∉ m → H' b = some o
  new : ∀ a ∈ m', a ∈ m ∨ H a = none
  fnew : ∀ b o, F' b = some o → F b = some o ∨ H b = none
  grow : ∀ b o, H b = some o → ∃ o', H' b = some o'

theorem nodup_inj {α : Type} {a : α} : ∀ {l : List α} {i j : Nat}, l.Nodup → l[i]? = some a → l[j]? = some a → i = j
  | [], _, _, _, h, _ => by simp at h
  | x :: l, 0, 0, _, _, _ => rfl
  | x :: l, 0, j + 1, n, h, q => by
    simp at h q
    exact absurd (List.mem_iff_getElem?.mpr ⟨j, q⟩) (h ▸ (List.nodup_cons.mp n).1)
  | x :: l, i + 1, 0, n, h, q => by
    simp at h q
    exact absurd (List.mem_iff_getElem?.mpr ⟨i, h⟩) (q ▸ (List.nodup_cons.mp n).1)
  | x :: l, i + 1, j + 1, n, h, q => by
    have := nodup_inj (i := i) (j := j) (List.nodup_cons.mp n).2 (by simpa using h) (by simpa using q)
    omega
theorem Ext.refl (m : List Addr) (F H : Hp) : Ext m F H m F H := ⟨fun _ _ h => h, Same.refl _, fun _ _ h _ => h, fun _ h => .inl h, fun _ _ h => .inl h, fun _ o h => ⟨o, h⟩⟩
theorem Ext.mem {m m' : List Addr} {F H F' H' : Hp} (e : Ext m F H m' F' H') {a : Addr} (h : a ∈ m) : a ∈ m' := by
  obtain ⟨i, hi⟩ := List.mem_iff_getElem?.mp h
  exact List.mem_iff_getElem?.mpr ⟨i, e.pre i a hi⟩
theorem Ext.trans {m m1 m2 : List Addr} {F F1 F2 H H1 H2 : Hp} (a : Ext m F H m1 F1 H1) (b : Ext m1 F1 H1 m2 F2 H2) : Ext m F H m2 F2 H2 where
  pre := fun i x h => b.pre i x (a.pre i x h)
  same := a.same.trans b.same
  keep := fun c o h n => b.keep c o (a.keep c o h n) fun hm => by
    rcases a.new c hm with q | q
    · exact n q
    · rw [h] at q; cases q
  new := fun x hx => by
    rcases b.new x hx with q | q
    · exact a.new x q
    · cases e : H x with
      | none => exact .inr rfl
      | some o =>
        obtain ⟨o', h⟩ := a.grow x o e
        rw [h] at q; cases q
  fnew := fun x o hx => by
    rcases b.fnew x o hx with q | q
    · exact a.fnew x o q
    · cases e : H x with
      | none => exact .inr rfl
      | some o =>
        obtain ⟨o', h⟩ := a.grow x o e
        rw [h] at q; cases q
  grow := fun x o h => by
    obtain ⟨o1, h1⟩ := a.grow x o h
    exact b.grow x o1 h1

section
variable {K : PySem.W.Frag} {ct : CT}
theorem sqT_mono {F F' : Hp} {a : Addr} {vs : List V} (e : Same F F') (h : SqT K F a vs) : SqT K F' a vs := by
  rcases h with (h | ⟨o, h⟩) | h
  · exact .inl (.inl (e _ _ h))
  · exact .inl (.inr ⟨o, e _ _ h⟩)
  · exact .inr h
mutual
theorem Rep.mono' {m m' : List Addr} {F F' : Hp} (hp : ∀ (i : Nat) (a : Addr), m[i]? = some a → m'[i]? = some a) (e : Same F F') : ∀ (d : D) (v : V), Rep K ct m F d v → Rep K ct m' F' d v
  | .non, _, h => h
  | .bl _, _, h => h
  | .int _, _, h => h
  | .str _, _, h => h
  | .tup ds, _, h => by
    obtain ⟨a, vs, e1, e2, e3⟩ := h
    exact ⟨a, vs, e1, sqT_mono e e2, Reps.mono' hp e ds vs e3⟩
  | .lst ds, _, h => by
    obtain ⟨a, vs, e1, e2, e3⟩ := h
    exact ⟨a, vs, e1, e _ _ e2, Reps.mono' hp e ds vs e3⟩
  | .dct ks ds, _, h => by
    obtain ⟨a, vs, e1, e2, e4, e3⟩ := h
    exact ⟨a, vs, e1, e _ _ e2, e4, Reps.mono' hp e ds vs e3⟩
  | .scr _, _, h => by
    obtain ⟨a, e1, e2⟩ := h
    exact ⟨a, e1, e.seq e2⟩
  | .ref i, _, h => by
    obtain ⟨a, e1, e2⟩ := h
    exact ⟨a, hp i a e1, e2⟩
  | .obj c fs ds, _, h => by
    obtain ⟨a, C, dx, vs, e1, e2, e4, e5, e3⟩ := h
    exact ⟨a, C, dx, vs, e1, e2, e _ _ e4, e5, Reps.mono' hp e ds vs e3⟩
theorem Reps.mono' {m m' : List Addr} {F F' : Hp} (hp : ∀ (i : Nat) (a : Addr), m[i]? = some a → m'[i]? = some a) (e : Same F F') : ∀ (ds : List D) (vs : List V), Reps K ct m F ds vs → Reps K ct m' F' ds vs
  | [], _, h => h
  | d :: ds, _, h => by
    obtain ⟨v, r, e1, e2, e3⟩ := h
    exact ⟨v, r, e1, Rep.mono' hp e d v e2, Reps.mono' hp e ds r e3⟩
end
variable {m m' : List Addr} {F F' H H' : Hp} {S S' : Sto} {env : DEnv} {σ : St} {d : D} {v : V} {ds : List D} {vs : List V}
theorem Rep.mono (h : Rep K ct m F d v) (e : Ext m F H m' F' H') : Rep K ct m' F' d v := Rep.mono' e.pre e.same d v h
theorem Reps.mono (h : Reps K ct m F ds vs) (e : Ext m F H m' F' H') : Reps K ct m' F' ds vs := Reps.mono' e.pre e.same ds vs h
theorem EnvR.mono (h : EnvR K ct m F env σ) (e : Ext m F H m' F' H') : EnvR K ct m' F' env σ :=
  ⟨h.1, fun i d q => let ⟨v, h1, h2⟩ := h.2 i d q; ⟨v, h1, h2.mono e⟩⟩
theorem CellR.mono {o : Option HO} {c : Cell} (h : CellR K ct m F o c) (e : Ext m F H m' F' H') : CellR K ct m' F' o c := by
  cases c with
  | lst ds => obtain ⟨vs, e1, e2⟩ := h; exact ⟨vs, e1, e2.mono e⟩
  | dct kvs => obtain ⟨vs, e1, e2⟩ := h; exact ⟨vs, e1, Paired.mapP e2 fun p q z => ⟨z.1, z.2.mono e⟩⟩
  | ins c fs ds => obtain ⟨C, dx, vs, e1, e4, e3, e2⟩ := h; exact ⟨C, dx, vs, e1, e4, e3, e2.mono e⟩
theorem CellR.isSome {o : Option HO} {c : Cell} (h : CellR K ct m F o c) : ∃ u, o = some u := by
  cases c with
  | lst ds => obtain ⟨vs, e1, _⟩ := h; exact ⟨_, e1⟩
  | dct kvs => obtain ⟨vs, e1, _⟩ := h; exact ⟨_, e1⟩
  | ins c fs ds => obtain ⟨C, dx, vs, e1, _⟩ := h; exact ⟨_, e1⟩
theorem Sim.at (s : Sim K ct m F S H) {i : Nat} {a : Addr} (h : m[i]? = some a) : ∃ c, S[i]? = some c ∧ CellR K ct m F (H a) c := by
  have hi : i < S.length := by
    rw [← s.len]
    exact (List.getElem?_eq_some_iff.mp h).1
  exact ⟨S[i], List.getElem?_eq_getElem hi, s.cell i a S[i] h (List.getElem?_eq_getElem hi)⟩
theorem Sim.there (s : Sim K ct m F S H) {a : Addr} (h : a ∈ m) : ∃ o, H a = some o := by
  obtain ⟨i, hi⟩ := List.mem_iff_getElem?.mp h
  obtain ⟨c, _, hc⟩ := s.at hi
  exact hc.isSome
/-- a new frozen object -/
theorem Sim.frozen (s : Sim K ct m F S H) {p : Addr} (hp : H p = none) (o : HO) : Sim K ct m (upd F p o) S (upd H p o) ∧ Ext m F H m (upd F p o) (upd H p o) := by
  have nm : p ∉ m := fun h => by
    obtain ⟨o, q⟩ := s.there h
    rw [hp] at q; cases q
  have x : Ext m F H m (upd F p o) (upd H p o) := by
    refine ⟨fun _ _ h => h, fun b u h => ?_, fun b u h _ => ?_, fun a h => .inl h, fun b u h => ?_, fun b u h => ?_⟩
    · rw [upd_ne (ne_of_none (s.same _ _ h) hp)]; exact h
    · rw [upd_ne (ne_of_none h hp)]; exact h
    · by_cases hb : b = p
      · rw [hb]; exact .inr hp
      · rw [upd_ne hb] at h; exact .inl h
    · exact ⟨u, by rw [upd_ne (ne_of_none h hp)]; exact h⟩
  refine ⟨⟨fun b u h => ?_, s.len, s.nd, fun a h => ?_, fun i a c h1 h2 => ?_⟩, x⟩
  · by_cases hb : b = p
    · rw [hb, upd_same] at h; rw [hb, upd_same]; exact h
    · rw [upd_ne hb] at h; rw [upd_ne hb]; exact s.same _ _ h
  · have na : a ≠ p := fun e => nm (e ▸ h)
    rw [upd_ne na]; exact s.off a h
  · have hm : a ∈ m := List.mem_iff_getElem?.mpr ⟨i, h1⟩
    have na : a ≠ p := fun e => nm (e ▸ hm)
    rw [upd_ne na]
    exact (s.cell i a c h1 h2).mono x
/-- a new cell -/
theorem Sim.fresh (s : Sim K ct m F S H) {p : Addr} (hp : H p = none) {o : HO} {c : Cell} (hc : CellR K ct m F (some o) c) : Sim K ct (m ++ [p]) F (S ++ [c]) (upd H p o) ∧ Ext m F H (m ++ [p]) F (upd H p o) := by
  have nm : p ∉ m := fun h => by
    obtain ⟨o, q⟩ := s.there h
    rw [hp] at q; cases q
  have x : Ext m F H (m ++ [p]) F (upd H p o) := by
    refine ⟨fun i a h => ?_, Same.refl _, fun b u h _ => ?_, fun a h => ?_, fun b u h => .inl h, fun b u h => ?_⟩
    · rw [List.getElem?_append_left (List.getElem?_eq_some_iff.mp h).1]; exact h
    · rw [upd_ne (ne_of_none h hp)]; exact h
    · rcases List.mem_append.mp h with q | q
      · exact .inl q
      · rw [List.mem_singleton.mp q]; exact .inr hp
    · exact ⟨u, by rw [upd_ne (ne_of_none h hp)]; exact h⟩
  refine ⟨⟨fun b u h => ?_, by simp [s.len], ?_, fun a h => ?_, fun i a c' h1 h2 => ?_⟩, x⟩
  · rw [upd_ne (ne_of_none (s.same _ _ h) hp)]; exact s.same _ _ h
  · rw [List.nodup_append]
    exact ⟨s.nd, by simp, fun a ha b hb e => nm (by rw [List.mem_singleton.mp hb] at e; exact e ▸ ha)⟩
  · rcases List.mem_append.mp h with q | q
    · exact s.off a q
    · rw [List.mem_singleton.mp q]
      cases e : F p with
      | none => rfl
      | some o => rw [s.same _ _ e] at hp; cases hp
  · by_cases hi : i < m.length
    · rw [List.getElem?_append_left hi] at h1
      rw [List.getElem?_append_left (s.len ▸ hi)] at h2
      have hm : a ∈ m := List.mem_iff_getElem?.mpr ⟨i, h1⟩
      have na : a ≠ p := fun e => nm (e ▸ hm)
      rw [upd_ne na]
      exact (s.cell i a c' h1 h2).mono x
    · rw [List.getElem?_append_right (by omega)] at h1
      rw [List.getElem?_append_right (by have := s.len; omega)] at h2
      have e0 : i - m.length = 0 := by
        have := (List.getElem?_eq_some_iff.mp h1).1
        simp at this; omega
      rw [e0] at h1
      rw [← s.len, e0] at h2
      simp at h1 h2
      subst h1 h2
      rw [upd_same]
      exact hc.mono x
/-- a cell is changed -/
theorem Sim.change (s : Sim K ct m F S H) {i : Nat} {p : Addr} (hi : m[i]? = some p) {o : HO} {c : Cell} (hc : CellR K ct m F (some o) c) : Sim K ct m F (S.set i c) (upd H p o) ∧ Ext m F H m F (upd H p o) := by
  have hm : p ∈ m := List.mem_iff_getElem?.mpr ⟨i, hi⟩
  have x : Ext m F H m F (upd H p o) := by
    refine ⟨fun _ _ h => h, Same.refl _, fun b u h n => ?_, fun a h => .inl h, fun _ _ h => .inl h, fun b u h => ?_⟩
    · have nb : b ≠ p := fun e => n (e ▸ hm)
      rw [upd_ne nb]; exact h
    · by_cases hb : b = p
      · rw [hb, upd_same]; exact ⟨o, rfl⟩
      · rw [upd_ne hb]; exact ⟨u, h⟩
  refine ⟨⟨fun b u h => ?_, by simp [s.len], s.nd, s.off, fun j a c' h1 h2 => ?_⟩, x⟩
  · have nb : b ≠ p := fun e => by
      subst e
      rw [s.off b hm] at h; cases h
    rw [upd_ne nb]; exact s.same _ _ h
  · have hil : i < m.length := (List.getElem?_eq_some_iff.mp hi).1
    by_cases hj : j = i
    · subst hj
      rw [hi] at h1
      cases h1
      rw [List.getElem?_set_self (s.len ▸ hil)] at h2
      cases h2
      rw [upd_same]
      exact hc
    · rw [List.getElem?_set_ne (fun e => hj e.symm)] at h2
      have na : a ≠ p := fun e => by
        subst e
        have hjl : j < m.length := (List.getElem?_eq_some_iff.mp h1).1
        exact hj (nodup_inj s.nd h1 hi)
      rw [upd_ne na]
      exact s.cell j a c' h1 h2
theorem Reps.length : ∀ {ds : List D} {vs : List V}, Reps K ct m F ds vs → ds.length = vs.length
  | [], _, h => by have h : _ = _ := h; subst h; rfl
  | d :: ds, _, h => by
    obtain ⟨v, r, e1, _, e3⟩ := h
    subst e1
    simp [Reps.length e3]
theorem Reps.get : ∀ {ds : List D} {vs : List V} {i : Nat} {d : D}, Reps K ct m F ds vs → ds[i]? = some d → ∃ v, vs[i]? = some v ∧ Rep K ct m F d v
  | [], _, _, _, _, h => by simp at h
  | d :: ds, _, 0, _, hr, h => by
    obtain ⟨v, r, e1, e2, _⟩ := hr
    subst e1
    simp at h
    subst h
    exact ⟨v, rfl, e2⟩
  | d :: ds, _, i + 1, _, hr, h => by
    obtain ⟨v, r, e1, _, e3⟩ := hr
    subst e1
    exact Reps.get (i := i) e3 (by simpa using h)
theorem Reps.getV {i : Nat} (h : Reps K ct m F ds vs) (e : vs[i]? = some v) : ∃ d, ds[i]? = some d ∧ Rep K ct m F d v := by
  have hi : i < ds.length := by
    rw [h.length]
    exact (List.getElem?_eq_some_iff.mp e).1
  obtain ⟨v', q1, q2⟩ := h.get (List.getElem?_eq_getElem hi)
  rw [e] at q1
  cases q1
  exact ⟨_, List.getElem?_eq_getElem hi, q2⟩
theorem Reps.snoc : ∀ {ds : List D} {vs : List V} {d : D} {v : V}, Reps K ct m F ds vs → Rep K ct m F d v → Reps K ct m F (ds ++ [d]) (vs ++ [v])
  | [], _, d, v, h, q => by
    have h : _ = _ := h
    subst h
    exact ⟨v, [], rfl, q, rfl⟩
  | e :: ds, _, d, v, h, q => by
    obtain ⟨x, r, e1, e2, e3⟩ := h
    subst e1
    exact ⟨x, r ++ [v], rfl, e2, e3.snoc q⟩
theorem Reps.append : ∀ {ds es : List D} {vs us : List V}, Reps K ct m F ds vs → Reps K ct m F es us → Reps K ct m F (ds ++ es) (vs ++ us)
  | [], _, _, _, h, q => by
    have h : _ = _ := h
    subst h
    exact q
  | e :: ds, _, _, _, h, q => by
    obtain ⟨x, r, e1, e2, e3⟩ := h
    subst e1
    exact ⟨x, _, rfl, e2, e3.append q⟩
theorem Reps.set : ∀ {ds : List D} {vs : List V} {d : D} {v : V} (i : Nat), Reps K ct m F ds vs → Rep K ct m F d v → Reps K ct m F (ds.set i d) (vs.set i v)
  | [], _, d, v, i, h, q => by
    have h : _ = _ := h
    subst h
    cases i <;> exact rfl
  | e :: ds, _, d, v, 0, h, q => by
    obtain ⟨x, r, e1, e2, e3⟩ := h
    subst e1
    exact ⟨v, r, rfl, q, e3⟩
  | e :: ds, _, d, v, i + 1, h, q => by
    obtain ⟨x, r, e1, e2, e3⟩ := h
    subst e1
    exact ⟨x, _, rfl, e2, e3.set i q⟩
theorem Reps.take : ∀ {ds : List D} {vs : List V} (n : Nat), Reps K ct m F ds vs → Reps K ct m F (ds.take n) (vs.take n)
  | _, _, 0, _ => by simp [Reps]
  | [], _, n + 1, h => by
    have h : _ = _ := h
    subst h
    exact rfl
  | d :: ds, _, n + 1, h => by
    obtain ⟨x, r, e1, e2, e3⟩ := h
    subst e1
    exact ⟨x, _, rfl, e2, e3.take n⟩
theorem Reps.drop : ∀ {ds : List D} {vs : List V} (n : Nat), Reps K ct m F ds vs → Reps K ct m F (ds.drop n) (vs.drop n)
  | _, _, 0, h => h
  | [], _, n + 1, h => by
    have h : _ = _ := h
    subst h
    exact rfl
  | d :: ds, _, n + 1, h => by
    obtain ⟨x, r, e1, e2, e3⟩ := h
    subst e1
    exact e3.drop n
theorem Reps.mk1 (h : Rep K ct m F d v) : Reps K ct m F [d] [v] := ⟨v, [], rfl, h, rfl⟩
theorem Reps.ints (ns : List Int) : Reps K ct m F (ns.map D.int) (ns.map V.int) := by
  induction ns with
  | nil => exact rfl
  | cons n ns ih => exact ⟨_, _, rfl, rfl, ih⟩
theorem EnvR.set (h : EnvR K ct m F env σ) (i : Nat) (q : Rep K ct m F d v) : EnvR K ct m F (env.set i (some d)) (σ.set i (some v)) := by
  refine ⟨by simp [h.1], fun j e hj => ?_⟩
  by_cases e1 : i = j
  · subst e1
    have hl : i < env.length := by
      have := (List.getElem?_eq_some_iff.mp hj).1
      simpa using this
    rw [List.getElem?_set_self hl] at hj
    cases hj
    rw [List.getElem?_set_self (h.1 ▸ hl)]
    exact ⟨v, rfl, q⟩
  · rw [List.getElem?_set_ne e1] at hj
    rw [List.getElem?_set_ne e1]
    exact h.2 j e hj
end

/-! ## judgements -/
section
variable (ct : CT)
def PostE (K : PySem.W.Frag) (m : List Addr) (F H : Hp) (S' : Sto) (d : D) (Q : VK) : Prop :=
  ∀ m' F' v H', Ext m F H m' F' H' → Sim K ct m' F' S' H' → Rep K ct m' F' d v → Q v H'
def PostA (K : PySem.W.Frag) (m : List Addr) (F H : Hp) (S' : Sto) (ds : List D) (Q : List V → Hp → Prop) : Prop :=
  ∀ m' F' vs H', Ext m F H m' F' H' → Sim K ct m' F' S' H' → Reps K ct m' F' ds vs → Q vs H'
def PostT (K : PySem.W.Frag) (m : List Addr) (F H : Hp) (S' : Sto) (b : Bool) (Q : Bool → Hp → Prop) : Prop :=
  ∀ m' F' H', Ext m F H m' F' H' → Sim K ct m' F' S' H' → Q b H'
def PostS (K : PySem.W.Frag) (m : List Addr) (F H : Hp) (S' : Sto) (fl : Fl) (E : Ends) : Prop :=
  match fl with
  | .nx env' => ∀ m' F' σ' H', Ext m F H m' F' H' → Sim K ct m' F' S' H' → EnvR K ct m' F' env' σ' → E.nx σ' H'
  | .rt d => ∀ m' F' v H', Ext m F H m' F' H' → Sim K ct m' F' S' H' → Rep K ct m' F' d v → E.rt v H'
  | .bk env' => ∀ m' F' σ' H', Ext m F H m' F' H' → Sim K ct m' F' S' H' → EnvR K ct m' F' env' σ' → E.bk σ' H'
  | .ct env' => ∀ m' F' σ' H', Ext m F H m' F' H' → Sim K ct m' F' S' H' → EnvR K ct m' F' env' σ' → E.ct σ' H'
def SE (X : Cx) (e : Expr) (f : FE) : Prop := ∃ t, PE X e t ∧ ∀ m F S σ H env d S' Q, Sim X.K ct m F S H → EnvR X.K ct m F env σ → f env S = some (d, S') → PostE ct X.K m F H S' d Q → t σ H Q
def SA (X : Cx) (es : List Expr) (f : FA) : Prop := ∃ t, PA X es t ∧ ∀ m F S σ H env ds S' Q, Sim X.K ct m F S H → EnvR X.K ct m F env σ → f env S = some (ds, S') → PostA ct X.K m F H S' ds Q → t σ H Q
def ST (X : Cx) (e : Expr) (f : FT) : Prop := ∃ t, PT X e t ∧ ∀ m F S σ H env b S' Q, Sim X.K ct m F S H → EnvR X.K ct m F env σ → f env S = some (b, S') → PostT ct X.K m F H S' b Q → t σ H Q
def SW (X : Cx) (e : Expr) (f : FT) : Prop := ∃ t, PW X e t ∧ ∀ m F S σ H env b S' Q, Sim X.K ct m F S H → EnvR X.K ct m F env σ → f env S = some (b, S') → PostT ct X.K m F H S' b Q → t σ H Q
def SS (X : Cx) (st : Stmt) (f : FS) : Prop := ∃ t, PS X st t ∧ ∀ m F S σ H env fl S' E, Sim X.K ct m F S H → EnvR X.K ct m F env σ → f env S = some (fl, S') → PostS ct X.K m F H S' fl E → t E σ H
def SSs (X : Cx) (sts : List Stmt) (f : FS) : Prop := ∃ t, PSs X sts t ∧ ∀ m F S σ H env fl S' E, Sim X.K ct m F S H → EnvR X.K ct m F env σ → f env S = some (fl, S') → PostS ct X.K m F H S' fl E → t E σ H
/-- a rule of two values, at data -/
def OpD (K : PySem.W.Frag) (r : R2) (g : D → D → Sto → Option (D × Sto)) : Prop := ∀ m F S H x y dx dy d S' Q, Sim K ct m F S H → Rep K ct m F dx x → Rep K ct m F dy y → g dx dy S = some (d, S') → PostE ct K m F H S' d Q → r x y H Q
def CallD (K : PySem.W.Frag) (r : List V → Hp → VK → Prop) (g : FD) : Prop := ∀ m F S H xs ds d S' Q, Sim K ct m F S H → Reps K ct m F ds xs → g ds S = some (d, S') → PostE ct K m F H S' d Q → r xs H Q
end

section
variable {ct : CT} {K : PySem.W.Frag} {m m1 : List Addr} {F F1 H H1 : Hp} {S S' : Sto}
theorem PostE.ext {d : D} {Q : VK} (p : PostE ct K m F H S' d Q) (e : Ext m F H m1 F1 H1) : PostE ct K m1 F1 H1 S' d Q := fun m' F' v H' x s r => p m' F' v H' (e.trans x) s r
theorem PostA.ext {d : List D} {Q : List V → Hp → Prop} (p : PostA ct K m F H S' d Q) (e : Ext m F H m1 F1 H1) : PostA ct K m1 F1 H1 S' d Q := fun m' F' v H' x s r => p m' F' v H' (e.trans x) s r
theorem PostT.ext {d : Bool} {Q : Bool → Hp → Prop} (p : PostT ct K m F H S' d Q) (e : Ext m F H m1 F1 H1) : PostT ct K m1 F1 H1 S' d Q := fun m' F' H' x s => p m' F' H' (e.trans x) s
theorem PostS.ext {fl : Fl} {E : Ends} (p : PostS ct K m F H S' fl E) (e : Ext m F H m1 F1 H1) : PostS ct K m1 F1 H1 S' fl E := by
  cases fl with
  | nx env' => exact fun m' F' σ' H' x s r => p m' F' σ' H' (e.trans x) s r
  | rt d => exact fun m' F' σ' H' x s r => p m' F' σ' H' (e.trans x) s r
  | bk env' => exact fun m' F' σ' H' x s r => p m' F' σ' H' (e.trans x) s r
  | ct env' => exact fun m' F' σ' H' x s r => p m' F' σ' H' (e.trans x) s r
theorem PostE.now {d : D} {v : V} {Q : VK} (p : PostE ct K m F H S d Q) (s : Sim K ct m F S H) (r : Rep K ct m F d v) : Q v H := p m F v H (Ext.refl _ _ _) s r
end
end DL

namespace DL
open PySem L2
section
variable {ct : CT} {X : Cx} {a b c e : Expr} {es : List Expr} {fa fb fc f : FE} {fas : FA} {pos : Pos}
/-! ## names, constants -/
def fVar (i : Nat) : FE := fun env S => match env[i]? with
  | some (some d) => some (d, S)
  | _ => none
def fC (d : D) : FE := fun _ S => some (d, S)
theorem se_var (i : Nat) {x : Str} (hN : X.N[i]? = some x := by rfl) (hv : Vis X.env.scope x := by first | exact Or.inl rfl | exact Or.inr (Or.inl rfl) | exact Or.inr (Or.inr rfl)) (hd : (x == ("__debug__" : Str)) = false := by decide)
    (hcd : (x == ("__classdict__" : Str)) = false := by decide) : SE ct X (.Name x pos) (fVar i) := by
  refine ⟨_, pe_var hN hv hd hcd, fun m F S σ H env d S' Q s r h p => ?_⟩
  unfold fVar at h
  split at h
  · rename_i d' e
    cases h
    obtain ⟨v, h1, h2⟩ := r.2 i _ e
    exact ⟨v, h1, p.now s h2⟩
  · cases h
theorem se_of {t : TE} {d : D} {v : V} (h : PE X e t) (ht : ∀ σ H (Q : VK), Q v H → t σ H Q) (hr : ∀ m F, Rep X.K ct m F d v) : SE ct X e (fC d) :=
  ⟨t, h, fun m F S σ H env d' S' Q s _ q p => by
    cases q
    exact ht σ H Q (p.now s (hr m F))⟩
theorem se_int {i : Int} {j : Nat} : SE ct X (.Constant (.int i) j pos) (fC (.int i)) := se_of pe_int (fun _ _ _ q => q) fun _ _ => rfl
theorem se_bl {i : Bool} {j : Nat} : SE ct X (.Constant (.bool i) j pos) (fC (.bl i)) := se_of pe_bl (fun _ _ _ q => q) fun _ _ => rfl
theorem se_non {j : Nat} : SE ct X (.Constant .none j pos) (fC .non) := se_of pe_non (fun _ _ _ q => q) fun _ _ => rfl
theorem se_str {i : Str} {j : Nat} : SE ct X (.Constant (.str i) j pos) (fC (.str i)) := se_of pe_str (fun _ _ _ q => q) fun _ _ => rfl
theorem se_glob {x : Str} {v : V} {u : Value} {d : D} (hg : Gl X x) (hm : X.mg x = some u) (r : RelV v u) (hr : ∀ m F, Rep X.K ct m F d v) (hd : (x == ("__debug__" : Str)) = false := by decide) : SE ct X (.Name x pos) (fC d) :=
  se_of (pe_glob hg hm r hd) (fun _ _ _ q => q) hr
/-! ## two values in a row -/
def fBin (g : D → D → Sto → Option (D × Sto)) (fa fb : FE) : FE := fun env S => (fa env S).bind fun p => (fb env p.2).bind fun q => g p.1 q.1 q.2
theorem bind_some {α β : Type} {o : Option α} {k : α → Option β} {r : β} (h : o.bind k = some r) : ∃ x, o = some x ∧ k x = some r := by
  cases o with
  | none => cases h
  | some x => exact ⟨x, rfl, h⟩
theorem two {m : List Addr} {F H : Hp} {S S' : Sto} {env : DEnv} {d : D} {σ : St} {Q : VK} {g : D → D → Sto → Option (D × Sto)} {r : R2} {ta tb : TE}
    (ra : ∀ m F S σ H env d S' Q, Sim X.K ct m F S H → EnvR X.K ct m F env σ → fa env S = some (d, S') → PostE ct X.K m F H S' d Q → ta σ H Q)
    (rb : ∀ m F S σ H env d S' Q, Sim X.K ct m F S H → EnvR X.K ct m F env σ → fb env S = some (d, S') → PostE ct X.K m F H S' d Q → tb σ H Q)
    (o : OpD ct X.K r g) (s : Sim X.K ct m F S H) (en : EnvR X.K ct m F env σ) (h : fBin g fa fb env S = some (d, S')) (p : PostE ct X.K m F H S' d Q) : tOp r ta tb σ H Q := by
  obtain ⟨⟨x, S1⟩, h1, h⟩ := bind_some h
  obtain ⟨⟨y, S2⟩, h2, h⟩ := bind_some h
  refine ra m F S σ H env x S1 _ s en h1 fun m1 F1 v1 H1 x1 s1 r1 => ?_
  refine rb m1 F1 S1 σ H1 env y S2 _ s1 (en.mono x1) h2 fun m2 F2 v2 H2 x2 s2 r2 => ?_
  exact o m2 F2 S2 H2 v1 v2 x y d S' Q s2 (r1.mono x2) r2 h ((p.ext x1).ext x2)
theorem se_op {op : Operator} {r : R2} {g : D → D → Sto → Option (D × Sto)} (ho : OpR X (binaryOp op) r) (od : OpD ct X.K r g) (ha : SE ct X a fa) (hb : SE ct X b fb) : SE ct X (.BinOp a op b pos) (fBin g fa fb) := by
  obtain ⟨ta, pa, ra⟩ := ha
  obtain ⟨tb, pb, rb⟩ := hb
  exact ⟨_, pe_op ho pa pb, fun m F S σ H env d S' Q s en h p => two ra rb od s en h p⟩
theorem se_cmp {op : CmpOp} {r : R2} {g : D → D → Sto → Option (D × Sto)} (ho : OpR X (compareOp op) r) (od : OpD ct X.K r g) (ha : SE ct X a fa) (hb : SE ct X b fb) (hm : behindInMarks op b = false) : SE ct X (.Compare a [op] [b] pos) (fBin g fa fb) := by
  obtain ⟨ta, pa, ra⟩ := ha
  obtain ⟨tb, pb, rb⟩ := hb
  exact ⟨_, pe_cmpR ho pa pb hm, fun m F S σ H env d S' Q s en h p => two ra rb od s en h p⟩
theorem se_ix {r : R2} {g : D → D → Sto → Option (D × Sto)} (ho : IxR X r) (od : OpD ct X.K r g) (ha : SE ct X a fa) (hb : SE ct X b fb) (hs : PlainIx b) : SE ct X (.Subscript a b pos) (fBin g fa fb) := by
  obtain ⟨ta, pa, ra⟩ := ha
  obtain ⟨tb, pb, rb⟩ := hb
  exact ⟨_, pe_ix ho pa pb hs, fun m F S σ H env d S' Q s en h p => two ra rb od s en h p⟩
def fUn (g : D → Option D) (fa : FE) : FE := fun env S => (fa env S).bind fun p => (g p.1).map fun d => (d, p.2)
def gNeg : D → Option D
  | .int i => some (.int (-i))
  | _ => none
theorem se_neg (ha : SE ct X a fa) : SE ct X (.UnaryOp .USub a pos) (fUn gNeg fa) := by
  obtain ⟨ta, pa, ra⟩ := ha
  refine ⟨_, pe_un un_neg pa, fun m F S σ H env d S' Q s en h p => ?_⟩
  obtain ⟨⟨x, S1⟩, h1, h⟩ := bind_some h
  refine ra m F S σ H env x S1 _ s en h1 fun m1 F1 v1 H1 x1 s1 r1 => ?_
  cases x with
  | int i =>
    cases h
    have r1 : v1 = .int i := r1
    exact ⟨i, r1, (p.ext x1).now s1 rfl⟩
  | _ => cases h
/-! ## arguments -/
def fNil : FA := fun _ S => some ([], S)
def fCons (f : FE) (fs : FA) : FA := fun env S => (f env S).bind fun p => (fs env p.2).bind fun q => some (p.1 :: q.1, q.2)
theorem sa_nil : SA ct X [] fNil := ⟨_, pa_nil, fun m F S σ H env d S' Q s en h p => by
  cases h
  exact p m F [] H (Ext.refl _ _ _) s rfl⟩
theorem sa_cons (ha : SE ct X e f) (hr : SA ct X es fas) (hs : starEach (e :: es) X.env = (false, eval e X.env) :: starEach es X.env := by rfl) : SA ct X (e :: es) (fCons f fas) := by
  obtain ⟨ta, pa, ra⟩ := ha
  obtain ⟨tb, pb, rb⟩ := hr
  refine ⟨_, pa_cons pa pb hs, fun m F S σ H env d S' Q s en h p => ?_⟩
  obtain ⟨⟨x, S1⟩, h1, h⟩ := bind_some h
  obtain ⟨⟨ys, S2⟩, h2, h⟩ := bind_some h
  cases h
  refine ra m F S σ H env x S1 _ s en h1 fun m1 F1 v1 H1 x1 s1 r1 => ?_
  refine rb m1 F1 S1 σ H1 env ys S2 _ s1 (en.mono x1) h2 fun m2 F2 v2 H2 x2 s2 r2 => ?_
  exact p m2 F2 (v1 :: v2) H2 (x1.trans x2) s2 ⟨v1, v2, rfl, r1.mono x2, r2⟩
/-! ## displays -/
def fTup (fs : FA) : FE := fun env S => (fs env S).bind fun p => if p.1.length ≤ 1000 then some (.tup p.1, p.2) else none
def fLst (fs : FA) : FE := fun env S => (fs env S).bind fun p => if p.1.length ≤ 1000 then some (.lst p.1, p.2) else none
/-- a list that will be changed -/
def fLstM (fs : FA) : FE := fun env S => (fs env S).bind fun p => if p.1.length ≤ 1000 then some (.ref p.2.length, p.2 ++ [.lst p.1]) else none
theorem line_of {n : Nat} (h : n ≤ 1000) : n ≤ sizeLine := Nat.le_trans h (by decide)
theorem se_tup {k : Nat} (ha : SA ct X es fas) : SE ct X (.Tuple es k pos) (fTup fas) := by
  obtain ⟨ta, pa, ra⟩ := ha
  refine ⟨_, pe_tup pa, fun m F S σ H env d S' Q s en h p => ?_⟩
  obtain ⟨⟨xs, S1⟩, h1, h⟩ := bind_some h
  by_cases hl : xs.length ≤ 1000
  · rw [if_pos hl] at h
    cases h
    refine ra m F S σ H env xs S1 _ s en h1 fun m1 F1 vs H1 x1 s1 r1 => ⟨line_of (r1.length ▸ hl), fun q hq => ?_⟩
    obtain ⟨s2, x2⟩ := s1.frozen hq (.tup vs)
    exact p m1 _ (.ref q) _ (x1.trans x2) s2 ⟨q, vs, rfl, SqT.of upd_same, r1.mono x2⟩
  · rw [if_neg hl] at h
    cases h
theorem se_lst (ha : SA ct X es fas) : SE ct X (.List es pos) (fLst fas) := by
  obtain ⟨ta, pa, ra⟩ := ha
  refine ⟨_, pe_lst pa, fun m F S σ H env d S' Q s en h p => ?_⟩
  obtain ⟨⟨xs, S1⟩, h1, h⟩ := bind_some h
  by_cases hl : xs.length ≤ 1000
  · rw [if_pos hl] at h
    cases h
    refine ra m F S σ H env xs S1 _ s en h1 fun m1 F1 vs H1 x1 s1 r1 => ⟨line_of (r1.length ▸ hl), fun q hq => ?_⟩
    obtain ⟨s2, x2⟩ := s1.frozen hq (.lst vs)
    exact p m1 _ (.ref q) _ (x1.trans x2) s2 ⟨q, vs, rfl, upd_same, r1.mono x2⟩
  · rw [if_neg hl] at h
    cases h
theorem se_lstM (ha : SA ct X es fas) : SE ct X (.List es pos) (fLstM fas) := by
  obtain ⟨ta, pa, ra⟩ := ha
  refine ⟨_, pe_lst pa, fun m F S σ H env d S' Q s en h p => ?_⟩
  obtain ⟨⟨xs, S1⟩, h1, h⟩ := bind_some h
  by_cases hl : xs.length ≤ 1000
  · rw [if_pos hl] at h
    cases h
    refine ra m F S σ H env xs S1 _ s en h1 fun m1 F1 vs H1 x1 s1 r1 => ⟨line_of (r1.length ▸ hl), fun q hq => ?_⟩
    obtain ⟨s2, x2⟩ := s1.fresh hq (o := .lst vs) (c := .lst xs) ⟨vs, rfl, r1⟩
    exact p _ _ (.ref q) _ (x1.trans x2) s2 ⟨q, by rw [← s1.len]; simp, rfl⟩
  · rw [if_neg hl] at h
    cases h
/-! ## calls of built-ins -/
def fCall (g : FD) (fas : FA) : FE := fun env S => (fas env S).bind fun p => g p.1 p.2
theorem se_callB {id : String} {x : Str} {p : Pos} {r : List V → Hp → VK → Prop} {g : FD} (hc : CallR X (.builtin id) r) (cd : CallD ct X.K r g) (hg : Gl X x) (hm : X.mg x = none) (hv : bootBuiltins x = some (.builtin id)) (ha : SA ct X (e :: es) fas)
    (hn : x ≠ "__name__" := by decide) (hdb : (x == ("__debug__" : Str)) = false := by decide) (he : starEach (e :: es) X.env = (false, eval e X.env) :: starEach es X.env := by rfl) (hpl : (backTo pos (starEach es X.env)).any (·.1) = false := by rfl) :
    SE ct X (.Call (.Name x p) (e :: es) [] pos) (fCall g fas) := by
  obtain ⟨ta, pa, ra⟩ := ha
  refine ⟨_, pe_callB hc hg hm hv pa hn hdb he hpl, fun m F S σ H env d S' Q s en h p => ?_⟩
  obtain ⟨⟨xs, S1⟩, h1, h⟩ := bind_some h
  exact ra m F S σ H env xs S1 _ s en h1 fun m1 F1 vs H1 x1 s1 r1 => cd m1 F1 S1 H1 vs xs d S' Q s1 r1 h (p.ext x1)
theorem se_callTy {T : String} {x : Str} {p : Pos} {r : List V → Hp → VK → Prop} {g : FD} (hc : CallR X (.type T) r) (cd : CallD ct X.K r g) (hg : Gl X x) (hm : X.mg x = none) (hv : bootBuiltins x = some (.type T)) (ha : SA ct X (e :: es) fas)
    (hn : x ≠ "__name__" := by decide) (hdb : (x == ("__debug__" : Str)) = false := by decide) (he : starEach (e :: es) X.env = (false, eval e X.env) :: starEach es X.env := by rfl) (hpl : (backTo pos (starEach es X.env)).any (·.1) = false := by rfl) :
    SE ct X (.Call (.Name x p) (e :: es) [] pos) (fCall g fas) := by
  obtain ⟨ta, pa, ra⟩ := ha
  refine ⟨_, pe_callTy hc hg hm hv pa hn hdb he hpl, fun m F S σ H env d S' Q s en h p => ?_⟩
  obtain ⟨⟨xs, S1⟩, h1, h⟩ := bind_some h
  exact ra m F S σ H env xs S1 _ s en h1 fun m1 F1 vs H1 x1 s1 r1 => cd m1 F1 S1 H1 vs xs d S' Q s1 r1 h (p.ext x1)
/-! ## and, or, not, if as values -/
def fAnd (fa fb : FE) : FE := fun env S => (fa env S).bind fun p => match p.1 with
  | .bl true => fb env p.2
  | .bl false => some (.bl false, p.2)
  | _ => none
def fOr (fa fb : FE) : FE := fun env S => (fa env S).bind fun p => match p.1 with
  | .bl true => some (.bl true, p.2)
  | .bl false => fb env p.2
  | _ => none
def fNot (fa : FE) : FE := fun env S => (fa env S).bind fun p => match p.1 with
  | .bl b => some (.bl (!b), p.2)
  | _ => none
theorem se_one {op : BoolOp} (h : SE ct X a f) : SE ct X (.BoolOp op [a] pos) f := by
  obtain ⟨ta, pa, ra⟩ := h
  exact ⟨ta, pe_one pa, ra⟩
theorem se_and {rest : List Expr} (ha : SE ct X a fa) (hb : SE ct X (.BoolOp .And (b :: rest) pos) fb) : SE ct X (.BoolOp .And (a :: b :: rest) pos) (fAnd fa fb) := by
  obtain ⟨ta, pa, ra⟩ := ha
  obtain ⟨tb, pb, rb⟩ := hb
  refine ⟨_, pe_and pa pb, fun m F S σ H env d S' Q s en h p => ?_⟩
  obtain ⟨⟨x, S1⟩, h1, h⟩ := bind_some h
  refine ra m F S σ H env x S1 _ s en h1 fun m1 F1 v1 H1 x1 s1 r1 => ?_
  cases x with
  | bl k =>
    have r1 : v1 = .bl k := r1
    refine ⟨k, r1, ?_⟩
    cases k with
    | true => exact iteT (rb m1 F1 S1 σ H1 env d S' _ s1 (en.mono x1) h (p.ext x1))
    | false => cases h; exact iteF ((p.ext x1).now s1 rfl)
  | _ => cases h
theorem se_or {rest : List Expr} (ha : SE ct X a fa) (hb : SE ct X (.BoolOp .Or (b :: rest) pos) fb) : SE ct X (.BoolOp .Or (a :: b :: rest) pos) (fOr fa fb) := by
  obtain ⟨ta, pa, ra⟩ := ha
  obtain ⟨tb, pb, rb⟩ := hb
  refine ⟨_, pe_or pa pb, fun m F S σ H env d S' Q s en h p => ?_⟩
  obtain ⟨⟨x, S1⟩, h1, h⟩ := bind_some h
  refine ra m F S σ H env x S1 _ s en h1 fun m1 F1 v1 H1 x1 s1 r1 => ?_
  cases x with
  | bl k =>
    have r1 : v1 = .bl k := r1
    refine ⟨k, r1, ?_⟩
    cases k with
    | false => exact iteF (rb m1 F1 S1 σ H1 env d S' _ s1 (en.mono x1) h (p.ext x1))
    | true => cases h; exact iteT ((p.ext x1).now s1 rfl)
  | _ => cases h
theorem se_not (ha : SE ct X a fa) : SE ct X (.UnaryOp .Not a pos) (fNot fa) := by
  obtain ⟨ta, pa, ra⟩ := ha
  refine ⟨_, pe_not pa, fun m F S σ H env d S' Q s en h p => ?_⟩
  obtain ⟨⟨x, S1⟩, h1, h⟩ := bind_some h
  refine ra m F S σ H env x S1 _ s en h1 fun m1 F1 v1 H1 x1 s1 r1 => ?_
  cases x with
  | bl k =>
    have r1 : v1 = .bl k := r1
    cases h
    exact ⟨k, r1, (p.ext x1).now s1 rfl⟩
  | _ => cases h
/-! ## tests -/
def fTest (f : FE) : FT := fun env S => (f env S).bind fun p => match p.1 with
  | .bl b => some (b, p.2)
  | _ => none
def tAndD (ta tb : FT) : FT := fun env S => (ta env S).bind fun p => if p.1 = true then tb env p.2 else some (false, p.2)
def tOrD (ta tb : FT) : FT := fun env S => (ta env S).bind fun p => if p.1 = true then some (true, p.2) else tb env p.2
def tNotD (ta : FT) : FT := fun env S => (ta env S).bind fun p => some (!p.1, p.2)
def fIf (t : FT) (fa fb : FE) : FE := fun env S => (t env S).bind fun p => if p.1 = true then fa env p.2 else fb env p.2
variable {ga gb : FT}
theorem st_val (h : SE ct X e f) (he : ∀ whole, isTrue e X.env whole = (do let v ← whole; standAt e.pos; holding [v] (truthy v)) := by intro _; rfl) : ST ct X e (fTest f) := by
  obtain ⟨ta, pa, ra⟩ := h
  refine ⟨_, pt_val pa he, fun m F S σ H env d S' Q s en h p => ?_⟩
  obtain ⟨⟨x, S1⟩, h1, h⟩ := bind_some h
  refine ra m F S σ H env x S1 _ s en h1 fun m1 F1 v1 H1 x1 s1 r1 => ?_
  cases x with
  | bl k =>
    have r1 : v1 = .bl k := r1
    cases h
    exact ⟨_, r1, p m1 F1 H1 x1 s1⟩
  | _ => cases h
theorem st_cmp {op : CmpOp} {r : R2} {g : D → D → Sto → Option (D × Sto)} (ho : OpR X (compareOp op) r) (od : OpD ct X.K r g) (ha : SE ct X a fa) (hb : SE ct X b fb) (hm : behindInMarks op b = false) : ST ct X (.Compare a [op] [b] pos) (fTest (fBin g fa fb)) := by
  obtain ⟨ta, pa, ra⟩ := ha
  obtain ⟨tb, pb, rb⟩ := hb
  refine ⟨_, pt_cmpR ho pa pb hm, fun m F S σ H env d S' Q s en h p => ?_⟩
  obtain ⟨⟨x, S1⟩, h1, h⟩ := bind_some h
  refine two ra rb od s en h1 fun m1 F1 v1 H1 x1 s1 r1 => ?_
  cases x with
  | bl k =>
    have r1 : v1 = .bl k := r1
    cases h
    exact ⟨_, r1, p m1 F1 H1 x1 s1⟩
  | _ => cases h
theorem st_not (h : ST ct X a ga) : ST ct X (.UnaryOp .Not a pos) (tNotD ga) := by
  obtain ⟨ta, pa, ra⟩ := h
  refine ⟨_, pt_not pa, fun m F S σ H env d S' Q s en h p => ?_⟩
  obtain ⟨⟨x, S1⟩, h1, h⟩ := bind_some h
  cases h
  exact ra m F S σ H env x S1 _ s en h1 fun m1 F1 H1 x1 s1 => p m1 F1 H1 x1 s1
theorem SW.st (h : SW ct X e ga) : ST ct X e ga := by
  obtain ⟨t, p, r⟩ := h
  exact ⟨t, p.pt, r⟩
theorem sw_and1 (h : ST ct X a ga) : SW ct X (.BoolOp .And [a] pos) ga := by
  obtain ⟨t, p, r⟩ := h
  exact ⟨t, pw_and1 p, r⟩
theorem sw_or1 (h : ST ct X a ga) : SW ct X (.BoolOp .Or [a] pos) ga := by
  obtain ⟨t, p, r⟩ := h
  exact ⟨t, pw_or1 p, r⟩
theorem sw_and {rest : List Expr} (ha : ST ct X a ga) (hb : SW ct X (.BoolOp .And (b :: rest) pos) gb) : SW ct X (.BoolOp .And (a :: b :: rest) pos) (tAndD ga gb) := by
  obtain ⟨ta, pa, ra⟩ := ha
  obtain ⟨tb, pb, rb⟩ := hb
  refine ⟨_, pw_and pa pb, fun m F S σ H env d S' Q s en h p => ?_⟩
  obtain ⟨⟨x, S1⟩, h1, h⟩ := bind_some h
  refine ra m F S σ H env x S1 _ s en h1 fun m1 F1 H1 x1 s1 => ?_
  cases x with
  | true => exact iteT (rb m1 F1 S1 σ H1 env d S' _ s1 (en.mono x1) h (p.ext x1))
  | false => cases h; exact iteF (p m1 F1 H1 x1 s1)
theorem sw_or {rest : List Expr} (ha : ST ct X a ga) (hb : SW ct X (.BoolOp .Or (b :: rest) pos) gb) : SW ct X (.BoolOp .Or (a :: b :: rest) pos) (tOrD ga gb) := by
  obtain ⟨ta, pa, ra⟩ := ha
  obtain ⟨tb, pb, rb⟩ := hb
  refine ⟨_, pw_or pa pb, fun m F S σ H env d S' Q s en h p => ?_⟩
  obtain ⟨⟨x, S1⟩, h1, h⟩ := bind_some h
  refine ra m F S σ H env x S1 _ s en h1 fun m1 F1 H1 x1 s1 => ?_
  cases x with
  | false => exact iteF (rb m1 F1 S1 σ H1 env d S' _ s1 (en.mono x1) h (p.ext x1))
  | true => cases h; exact iteT (p m1 F1 H1 x1 s1)
theorem se_if (hc : ST ct X c ga) (ha : SE ct X a fa) (hb : SE ct X b fb) : SE ct X (.IfExp c a b pos) (fIf ga fa fb) := by
  obtain ⟨tc, pc, rc⟩ := hc
  obtain ⟨ta, pa, ra⟩ := ha
  obtain ⟨tb, pb, rb⟩ := hb
  refine ⟨_, pe_ifExp pc pa pb, fun m F S σ H env d S' Q s en h p => ?_⟩
  obtain ⟨⟨x, S1⟩, h1, h⟩ := bind_some h
  refine rc m F S σ H env x S1 _ s en h1 fun m1 F1 H1 x1 s1 => ?_
  cases x with
  | true => exact iteT (ra m1 F1 S1 σ H1 env d S' _ s1 (en.mono x1) h (p.ext x1))
  | false => exact iteF (rb m1 F1 S1 σ H1 env d S' _ s1 (en.mono x1) h (p.ext x1))
/-! ## chains -/
def fChain (g g' : D → D → Sto → Option (D × Sto)) (fa fb fc : FE) : FE := fun env S => (fa env S).bind fun p => (fb env p.2).bind fun q => (g p.1 q.1 q.2).bind fun z => match z.1 with
  | .bl true => (fc env z.2).bind fun w => g' q.1 w.1 w.2
  | .bl false => some (.bl false, z.2)
  | _ => none
theorem chain {m : List Addr} {F H : Hp} {S S' : Sto} {env : DEnv} {d : D} {σ : St} {Q : VK} {g g' : D → D → Sto → Option (D × Sto)} {r r' : R2} {ta tb tc : TE}
    (ra : ∀ m F S σ H env d S' Q, Sim X.K ct m F S H → EnvR X.K ct m F env σ → fa env S = some (d, S') → PostE ct X.K m F H S' d Q → ta σ H Q)
    (rb : ∀ m F S σ H env d S' Q, Sim X.K ct m F S H → EnvR X.K ct m F env σ → fb env S = some (d, S') → PostE ct X.K m F H S' d Q → tb σ H Q)
    (rc : ∀ m F S σ H env d S' Q, Sim X.K ct m F S H → EnvR X.K ct m F env σ → fc env S = some (d, S') → PostE ct X.K m F H S' d Q → tc σ H Q)
    (o : OpD ct X.K r g) (o' : OpD ct X.K r' g') (s : Sim X.K ct m F S H) (en : EnvR X.K ct m F env σ) (h : fChain g g' fa fb fc env S = some (d, S')) (p : PostE ct X.K m F H S' d Q) : tChain r r' ta tb tc σ H Q := by
  obtain ⟨⟨x, S1⟩, h1, h⟩ := bind_some h
  obtain ⟨⟨y, S2⟩, h2, h⟩ := bind_some h
  obtain ⟨⟨z, S3⟩, h3, h⟩ := bind_some h
  refine ra m F S σ H env x S1 _ s en h1 fun m1 F1 v1 H1 x1 s1 r1 => ?_
  refine rb m1 F1 S1 σ H1 env y S2 _ s1 (en.mono x1) h2 fun m2 F2 v2 H2 x2 s2 r2 => ?_
  refine o m2 F2 S2 H2 v1 v2 x y z S3 _ s2 (r1.mono x2) r2 h3 fun m3 F3 v3 H3 x3 s3 r3 => ?_
  cases z with
  | bl k =>
    have r3 : v3 = .bl k := r3
    refine ⟨k, r3, ?_⟩
    cases k with
    | true =>
      obtain ⟨⟨w, S4⟩, h4, h⟩ := bind_some h
      refine iteT (rc m3 F3 S3 σ H3 env w S4 _ s3 (((en.mono x1).mono x2).mono x3) h4 fun m4 F4 v4 H4 x4 s4 r4 => ?_)
      exact o' m4 F4 S4 H4 v2 v4 y w d S' Q s4 ((r2.mono x3).mono x4) r4 h ((((p.ext x1).ext x2).ext x3).ext x4)
    | false => cases h; exact iteF ((((p.ext x1).ext x2).ext x3).now s3 rfl)
  | _ => cases h
theorem se_chain {op op' : CmpOp} {r r' : R2} {g g' : D → D → Sto → Option (D × Sto)} (ho : OpR X (compareOp op) r) (od : OpD ct X.K r g) (ho' : OpR X (compareOp op') r') (od' : OpD ct X.K r' g') (ha : SE ct X a fa) (hb : SE ct X b fb) (hc : SE ct X c fc)
    (hm : lastMarks [op, op'] [b, c] = false := by with_unfolding_all rfl) : SE ct X (.Compare a [op, op'] [b, c] pos) (fChain g g' fa fb fc) := by
  obtain ⟨ta, pa, ra⟩ := ha
  obtain ⟨tb, pb, rb⟩ := hb
  obtain ⟨tc, pc, rc⟩ := hc
  exact ⟨_, pe_chain ho ho' pa pb pc hm, fun m F S σ H env d S' Q s en h p => chain ra rb rc od od' s en h p⟩
theorem st_chain {op op' : CmpOp} {r r' : R2} {g g' : D → D → Sto → Option (D × Sto)} (ho : OpR X (compareOp op) r) (od : OpD ct X.K r g) (ho' : OpR X (compareOp op') r') (od' : OpD ct X.K r' g') (ha : SE ct X a fa) (hb : SE ct X b fb) (hc : SE ct X c fc)
    (hm : lastMarks [op, op'] [b, c] = false := by with_unfolding_all rfl) : ST ct X (.Compare a [op, op'] [b, c] pos) (fTest (fChain g g' fa fb fc)) := by
  obtain ⟨ta, pa, ra⟩ := ha
  obtain ⟨tb, pb, rb⟩ := hb
  obtain ⟨tc, pc, rc⟩ := hc
  refine ⟨_, pt_chain ho ho' pa pb pc hm, fun m F S σ H env d S' Q s en h p => ?_⟩
  obtain ⟨⟨x, S1⟩, h1, h⟩ := bind_some h
  refine chain ra rb rc od od' s en h1 fun m1 F1 v1 H1 x1 s1 r1 => ?_
  cases x with
  | bl k =>
    have r1 : v1 = .bl k := r1
    cases h
    exact ⟨_, r1, p m1 F1 H1 x1 s1⟩
  | _ => cases h
end
end DL

namespace DL
open PySem PySem.Spec PyProof.Rows L2
section
variable {ct : CT} {X : Cx} {a b c e : Expr} {es : List Expr} {fa fb fc f : FE} {fas : FA} {ga gb : FT} {pos : Pos} {st : Stmt} {rest : List Stmt} {f1 f2 : FS}
/-! ## statements -/
def sSkip : FS := fun env S => some (.nx env, S)
def sSeq (f1 f2 : FS) : FS := fun env S => (f1 env S).bind fun p => match p.1 with
  | .nx env' => f2 env' p.2
  | fl => some (fl, p.2)
theorem sss_nil : SSs ct X [] sSkip := ⟨_, pss_nil, fun m F S σ H env fl S' E s en h p => by
  cases h
  exact p m F σ H (Ext.refl _ _ _) s en⟩
theorem sss_cons (h1 : SS ct X st f1) (h2 : SSs ct X rest f2) : SSs ct X (st :: rest) (sSeq f1 f2) := by
  obtain ⟨ta, pa, ra⟩ := h1
  obtain ⟨tb, pb, rb⟩ := h2
  refine ⟨_, pss_cons pa pb, fun m F S σ H env fl S' E s en h p => ?_⟩
  obtain ⟨⟨x, S1⟩, h1, h⟩ := bind_some h
  refine ra m F S σ H env x S1 _ s en h1 ?_
  cases x with
  | nx env1 => exact fun m1 F1 σ1 H1 x1 s1 r1 => rb m1 F1 S1 σ1 H1 env1 fl S' E s1 r1 h (p.ext x1)
  | rt d => cases h; exact p
  | bk env1 => cases h; exact p
  | ct env1 => cases h; exact p
theorem sss_one (h1 : SS ct X st f1) : SSs ct X [st] f1 := by
  obtain ⟨ta, pa, ra⟩ := h1
  exact ⟨_, pss_one pa, ra⟩
theorem ss_pass : SS ct X (.Pass pos) sSkip := ⟨_, ps_pass, fun m F S σ H env fl S' E s en h p => by
  cases h
  exact p m F σ H (Ext.refl _ _ _) s en⟩
def sBreak : FS := fun env S => some (.bk env, S)
def sCont : FS := fun env S => some (.ct env, S)
theorem ss_break : SS ct X (.Break pos) sBreak := ⟨_, ps_break, fun m F S σ H env fl S' E s en h p => by
  cases h
  exact p m F σ H (Ext.refl _ _ _) s en⟩
theorem ss_continue : SS ct X (.Continue pos) sCont := ⟨_, ps_continue, fun m F S σ H env fl S' E s en h p => by
  cases h
  exact p m F σ H (Ext.refl _ _ _) s en⟩
/-- what is never reached -/
def sNever : FS := fun _ _ => none
theorem ss_never : SS ct X st sNever := ⟨_, ps_never, fun m F S σ H env fl S' E s en h p => by cases h⟩
theorem sss_never {sts : List Stmt} : SSs ct X sts sNever := ⟨_, pss_never, fun m F S σ H env fl S' E s en h p => by cases h⟩
def sExpr (f : FE) : FS := fun env S => (f env S).bind fun p => some (.nx env, p.2)
def sRet (f : FE) : FS := fun env S => (f env S).bind fun p => some (.rt p.1, p.2)
def sIf (t : FT) (f1 f2 : FS) : FS := fun env S => (t env S).bind fun p => if p.1 = true then f1 env p.2 else f2 env p.2
theorem ss_expr (he : SE ct X e f) (hs : swapsWith e none pos.line X.env = pure false := by rfl) : SS ct X (.Expr e pos) (sExpr f) := by
  obtain ⟨ta, pa, ra⟩ := he
  refine ⟨_, ps_expr pa hs, fun m F S σ H env fl S' E s en h p => ?_⟩
  obtain ⟨⟨x, S1⟩, h1, h⟩ := bind_some h
  cases h
  exact ra m F S σ H env x S1 _ s en h1 fun m1 F1 v1 H1 x1 s1 r1 => p m1 F1 σ H1 x1 s1 (en.mono x1)
theorem ss_ret (he : SE ct X e f) : SS ct X (.Return (some e) pos) (sRet f) := by
  obtain ⟨ta, pa, ra⟩ := he
  refine ⟨_, ps_ret pa, fun m F S σ H env fl S' E s en h p => ?_⟩
  obtain ⟨⟨x, S1⟩, h1, h⟩ := bind_some h
  cases h
  exact ra m F S σ H env x S1 _ s en h1 fun m1 F1 v1 H1 x1 s1 r1 => p m1 F1 v1 H1 x1 s1 r1
theorem ss_if {as bs : List Stmt} (hc : ST ct X c ga) (ha : SSs ct X as f1) (hb : SSs ct X bs f2) : SS ct X (.If c as bs pos) (sIf ga f1 f2) := by
  obtain ⟨tc, pc, rc⟩ := hc
  obtain ⟨ta, pa, ra⟩ := ha
  obtain ⟨tb, pb, rb⟩ := hb
  refine ⟨_, ps_if pc pa pb, fun m F S σ H env fl S' E s en h p => ?_⟩
  obtain ⟨⟨x, S1⟩, h1, h⟩ := bind_some h
  refine rc m F S σ H env x S1 _ s en h1 fun m1 F1 H1 x1 s1 => ?_
  cases x with
  | true => exact iteT (ra m1 F1 S1 σ H1 env fl S' _ s1 (en.mono x1) h (p.ext x1))
  | false => exact iteF (rb m1 F1 S1 σ H1 env fl S' _ s1 (en.mono x1) h (p.ext x1))
/-! ## targets -/
abbrev FG := D → DEnv → Sto → Option (DEnv × Sto)
def SG (ct : CT) (X : Cx) (tg : Expr) (g : FG) : Prop := ∃ t, PG X tg t ∧ ∀ m F S σ H env d v env' S' Q, Sim X.K ct m F S H → EnvR X.K ct m F env σ → Rep X.K ct m F d v → g d env S = some (env', S') →
  (∀ m' F' σ' H', Ext m F H m' F' H' → Sim X.K ct m' F' S' H' → EnvR X.K ct m' F' env' σ' → Q σ' H') → t v σ H Q
abbrev FGs := List D → DEnv → Sto → Option (DEnv × Sto)
def SGs (ct : CT) (X : Cx) (tgs : List Expr) (g : FGs) : Prop := ∃ t, PGs X tgs t ∧ ∀ m F S σ H env ds vs env' S' Q, Sim X.K ct m F S H → EnvR X.K ct m F env σ → Reps X.K ct m F ds vs → g ds env S = some (env', S') →
  (∀ m' F' σ' H', Ext m F H m' F' H' → Sim X.K ct m' F' S' H' → EnvR X.K ct m' F' env' σ' → Q σ' H') → t vs σ H Q
def gN (i : Nat) : FG := fun d env S => some (env.set i (some d), S)
theorem sg_name {i : Nat} {x : Str} (hN : X.N.Nodup) (hi : X.N[i]? = some x) (hx : Loc X.env.scope x) (hf : X.fn x = true ∨ X.env.scope.names.lookup x = some .local := by first | exact .inl rfl | exact .inr rfl | assumption) : SG ct X (.Name x pos) (gN i) :=
  ⟨_, pg_name hN hi hx hf, fun m F S σ H env d v env' S' Q s en r h q => by
    cases h
    exact q m F _ H (Ext.refl _ _ _) s (en.set i r)⟩
def gNil : FGs := fun ds env S => match ds with
  | [] => some (env, S)
  | _ => none
def gCons (g : FG) (gs : FGs) : FGs := fun ds env S => match ds with
  | d :: r => (g d env S).bind fun p => gs r p.1 p.2
  | _ => none
theorem sgs_nil : SGs ct X [] gNil := ⟨_, pgs_nil, fun m F S σ H env ds vs env' S' Q s en r h q => by
  cases ds with
  | nil =>
    cases h
    exact ⟨r, q m F _ H (Ext.refl _ _ _) s en⟩
  | cons _ _ => cases h⟩
theorem sgs_cons {t : Expr} {ts : List Expr} {g : FG} {gs : FGs} (h1 : SG ct X t g) (h2 : SGs ct X ts gs) (hs : (assignEach (t :: ts) X.env).map (·.2) = assign t X.env :: (assignEach ts X.env).map (·.2) := by rfl) : SGs ct X (t :: ts) (gCons g gs) := by
  obtain ⟨ta, pa, ra⟩ := h1
  obtain ⟨tb, pb, rb⟩ := h2
  refine ⟨_, pgs_cons pa pb hs, fun m F S σ H env ds vs env' S' Q s en r h q => ?_⟩
  cases ds with
  | nil => cases h
  | cons d dr =>
    obtain ⟨⟨env1, S1⟩, h1, h⟩ := bind_some h
    obtain ⟨v, vr, e1, r1, r2⟩ := r
    refine ⟨v, vr, e1, ra m F S σ H env d v env1 S1 _ s en r1 h1 fun m1 F1 σ1 H1 x1 s1 en1 => ?_⟩
    exact rb m1 F1 S1 σ1 H1 env1 dr vr env' S' Q s1 en1 (r2.mono x1) h fun m2 F2 σ2 H2 x2 s2 en2 => q m2 F2 σ2 H2 (x1.trans x2) s2 en2
/-- (a, b, ..) = a tuple -/
def gTup (n : Nat) (gs : FGs) : FG := fun d env S => match d with
  | .tup ds => if ds.length = n then gs ds env S else none
  | _ => none
theorem sg_tup {ts : List Expr} {k n : Nat} {gs : FGs} (hc : X.calm = true) (h : SGs ct X ts gs) (hn : (assignEach ts X.env).length = n := by rfl) (hst : (assignEach ts X.env).findIdx? (·.1) = none := by rfl) : SG ct X (.Tuple ts k pos) (gTup n gs) := by
  obtain ⟨ta, pa, ra⟩ := h
  refine ⟨_, pg_tup hc pa hn hst, fun m F S σ H env d v env' S' Q s en r h q => ?_⟩
  cases d with
  | tup ds =>
    obtain ⟨a, vs, e1, e2, e3⟩ := r
    by_cases hl : ds.length = n
    · have h : (if ds.length = n then gs ds env S else none) = some (env', S') := h
      rw [if_pos hl] at h
      exact ⟨a, vs, e1, sqT_mono s.same e2, by rw [← e3.length]; exact hl, ra m F S σ H env ds vs env' S' Q s en e3 h q⟩
    · have h : (if ds.length = n then gs ds env S else none) = some (env', S') := h
      rw [if_neg hl] at h
      cases h
  | _ => cases h
/-- o[i] = .. by a rule -/
def SetD (ct : CT) (K : PySem.W.Frag) (t : TSet) (g : D → D → D → Sto → Option Sto) : Prop := ∀ m F S H o i v d1 d2 d3 S' Q, Sim K ct m F S H → Rep K ct m F d1 o → Rep K ct m F d2 i → Rep K ct m F d3 v → g d1 d2 d3 S = some S' →
  (∀ m' F' H', Ext m F H m' F' H' → Sim K ct m' F' S' H' → Q H') → t o i v H Q
def gSub (g : D → D → D → Sto → Option Sto) (fa fb : FE) : FG := fun d env S => (fa env S).bind fun p => (fb env p.2).bind fun q => (g p.1 q.1 d q.2).map fun S' => (env, S')
theorem sg_sub {t : TSet} {g : D → D → D → Sto → Option Sto} (ho : SE ct X a fa) (hi : SE ct X b fb) (hs : PSet X t) (sd : SetD ct X.K t g)
    (ha : ∀ v, assign (.Subscript a b pos) X.env v = (do
      let ov ← holding [v] (eval a X.env)
      let iv ← holding [v, ov] (eval b X.env)
      standAt pos
      holding [v, ov, iv] (setItem ov iv v)
      release [v, ov, iv] []) := by intro _; rfl) : SG ct X (.Subscript a b pos) (gSub g fa fb) := by
  obtain ⟨ta, pa, ra⟩ := ho
  obtain ⟨tb, pb, rb⟩ := hi
  refine ⟨_, pg_sub pa pb hs ha, fun m F S σ H env d v env' S' Q s en r h q => ?_⟩
  obtain ⟨⟨x, S1⟩, h1, h⟩ := bind_some h
  obtain ⟨⟨y, S2⟩, h2, h⟩ := bind_some h
  cases h3 : g x y d S2 with
  | none => simp only [h3] at h; cases h
  | some S3 =>
    simp only [h3] at h
    cases h
    refine ra m F S σ H env x S1 _ s en h1 fun m1 F1 v1 H1 x1 s1 r1 => ?_
    refine rb m1 F1 S1 σ H1 env y S2 _ s1 (en.mono x1) h2 fun m2 F2 v2 H2 x2 s2 r2 => ?_
    exact sd m2 F2 S2 H2 v1 v2 v x y d _ _ s2 (r1.mono x2) r2 ((r.mono x1).mono x2) h3 fun m3 F3 H3 x3 s3 => q m3 F3 σ H3 ((x1.trans x2).trans x3) s3 (((en.mono x1).mono x2).mono x3)
/-! ## assignments -/
def sAsg (f : FE) (g : FG) : FS := fun env S => (f env S).bind fun p => (g p.1 env p.2).map fun q => (.nx q.1, q.2)
theorem ss_asg {tg : Expr} {g : FG} (he : SE ct X e f) (hg : SG ct X tg g) (hs : swapsWithSole [tg] e pos.line X.env = pure false := by rfl) (hw : swappedStores [tg] e X.env = pure none := by rfl)
    (h1 : (assignEach [tg] X.env).map (·.2) = [assign tg X.env] := by rfl) : SS ct X (.Assign [tg] e pos) (sAsg f g) := by
  obtain ⟨ta, pa, ra⟩ := he
  obtain ⟨tb, pb, rb⟩ := hg
  refine ⟨_, ps_asg pa pb hs hw h1, fun m F S σ H env fl S' E s en h p => ?_⟩
  obtain ⟨⟨x, S1⟩, h1, h⟩ := bind_some h
  cases h3 : g x env S1 with
  | none => simp only [h3] at h; cases h
  | some q3 =>
    obtain ⟨env3, S3⟩ := q3
    simp only [h3] at h
    cases h
    refine ra m F S σ H env x S1 _ s en h1 fun m1 F1 v1 H1 x1 s1 r1 => ?_
    exact rb m1 F1 S1 σ H1 env x v1 env3 _ _ s1 (en.mono x1) r1 h3 fun m2 F2 σ2 H2 x2 s2 en2 => p m2 F2 σ2 H2 (x1.trans x2) s2 en2
theorem ss_set {i : Nat} {x : Str} {pos' : Pos} (hN : X.N.Nodup) (hi : X.N[i]? = some x) (hx : Loc X.env.scope x) (he : SE ct X e f) (hs : swapsWith e (some (.Name x pos')) pos.line X.env = pure false := by rfl) (hf : X.fn x = true ∨ X.env.scope.names.lookup x = some .local := by first | exact .inl rfl | exact .inr rfl | assumption) :
    SS ct X (.Assign [.Name x pos'] e pos) (sAsg f (gN i)) := by
  obtain ⟨ta, pa, ra⟩ := he
  refine ⟨_, ps_set hN hi hx pa hs hf, fun m F S σ H env fl S' E s en h p => ?_⟩
  obtain ⟨⟨x, S1⟩, h1, h⟩ := bind_some h
  cases h
  exact ra m F S σ H env x S1 _ s en h1 fun m1 F1 v1 H1 x1 s1 r1 => p m1 F1 _ H1 x1 s1 ((en.mono x1).set i r1)
/-- a, b = x, y -/
def sPar (i j : Nat) (fas : FA) : FS := fun env S => (fas env S).bind fun p => match p.1 with
  | [v, w] => some (.nx ((env.set i (some v)).set j (some w)), p.2)
  | _ => none
theorem ss_par {i j : Nat} (hp : ∀ ta, PA X [a, b] ta → PS X st (tPar i j ta)) (ha : SA ct X [a, b] fas) : SS ct X st (sPar i j fas) := by
  obtain ⟨ta, pa, ra⟩ := ha
  refine ⟨_, hp ta pa, fun m F S σ H env fl S' E s en h p => ?_⟩
  obtain ⟨⟨xs, S1⟩, h1, h⟩ := bind_some h
  match xs, h with
  | [v, w], h =>
    cases h
    refine ra m F S σ H env _ S1 _ s en h1 fun m1 F1 vs H1 x1 s1 r1 => ?_
    obtain ⟨v1, r1', e1, q1, v2, r2', e2, q2, e3⟩ := r1
    have e3 : r2' = [] := e3
    subst e3 e2 e1
    exact ⟨v1, v2, rfl, p m1 F1 _ H1 x1 s1 (((en.mono x1).set i q1).set j q2)⟩
  | [], h => cases h
  | [_], h => cases h
  | _ :: _ :: _ :: _, h => cases h
/-! ## what is walked -/
def ItOk (ct : CT) (K : PySem.W.Frag) (m0 : List Addr) (F0 H0 : Hp) (items : List D) (J : It) : Prop := ∀ (i : Nat) (m : List Addr) (F : Hp) (S : Sto) (H : Hp), Ext m0 F0 H0 m F H → Sim K ct m F S H →
  (∀ d, items[i]? = some d → J.go i H ∧ ∀ x H', J.yld i H x H' → ∃ F', Ext m F H m F' H' ∧ Sim K ct m F' S H' ∧ Rep K ct m F' d x) ∧ (items.length = i → J.stop i H)
def SI (ct : CT) (X : Cx) (tg iter : Expr) (fi : FA) : Prop := ∃ wi, PI X tg iter wi ∧ ∀ m F S σ H env items S' R, Sim X.K ct m F S H → EnvR X.K ct m F env σ → fi env S = some (items, S') →
  (∀ m' F' J H', Ext m F H m' F' H' → Sim X.K ct m' F' S' H' → ItOk ct X.K m' F' H' items J → R J H') → wi σ H R
def forD (g : FG) (body : FS) : List D → FS
  | [], env, S => some (.nx env, S)
  | x :: xs, env, S => (g x env S).bind fun p => (body p.1 p.2).bind fun q => match q.1 with
    | .nx env' => forD g body xs env' q.2
    | .ct env' => forD g body xs env' q.2
    | .bk env' => some (.nx env', q.2)
    | .rt d => some (.rt d, q.2)
def sFor (fi : FA) (g : FG) (body : FS) : FS := fun env S => (fi env S).bind fun p => forD g body p.1 env p.2
theorem drop_cons {α : Type} : ∀ {l : List α} {i : Nat} {x : α} {r : List α}, l.drop i = x :: r → l[i]? = some x ∧ l.drop (i + 1) = r
  | [], i, x, r, h => by simp at h
  | y :: l, 0, x, r, h => by
    simp at h
    simp [h]
  | y :: l, i + 1, x, r, h => by
    have := drop_cons (l := l) (i := i) (by simpa using h)
    simpa using this
theorem ss_for {tg iter : Expr} {body : List Stmt} {fi : FA} {g : FG} {fb : FS} (hp : PassesOwn (model X.prog X.w) X.A X.env X.xe) (hc : X.calm = true) (hi : SI ct X tg iter fi) (hg : SG ct X tg g) (hb : SSs ct X body fb)
    (hs : ∀ x, foldedSetIterable iter X.env x = pure x := by intro _; rfl) : SS ct X (.For tg iter body [] pos) (sFor fi g fb) := by
  obtain ⟨wi, pi, ri⟩ := hi
  obtain ⟨tg', pg, rg⟩ := hg
  obtain ⟨tb, pb, rb⟩ := hb
  refine ⟨_, ps_for hp hc pi pg pb hs, fun m F S σ H env fl S' E s en h p => ?_⟩
  obtain ⟨⟨items, S1⟩, h1, h⟩ := bind_some h
  refine ri m F S σ H env items S1 _ s en h1 fun m1 F1 J H1 x1 s1 ok => ?_
  refine ⟨fun i k σ' H' => k = items.length - i ∧ i ≤ items.length ∧ ∃ m' F' env' S2, Ext m1 F1 H1 m' F' H' ∧ Sim X.K ct m' F' S2 H' ∧ EnvR X.K ct m' F' env' σ' ∧ forD g fb (items.drop i) env' S2 = some (fl, S'),
    ⟨_, rfl, Nat.zero_le _, m1, F1, env, S1, Ext.refl _ _ _, s1, en.mono x1, h⟩, ?_⟩
  rintro i k σ' H' ⟨rfl, hle, m', F', env', S2, x', s', en', hf⟩
  have okk := ok i m' F' S2 H' x' s'
  cases hd : items.drop i with
  | nil =>
    rw [hd] at hf
    cases hf
    have hl : items.length = i := by
      have := congrArg List.length hd
      simp at this
      omega
    exact .inl ⟨okk.2 hl, p m' F' σ' H' (x1.trans x') s' en'⟩
  | cons d r =>
    rw [hd] at hf
    obtain ⟨q1, q2⟩ := drop_cons hd
    have hlt : i < items.length := (List.getElem?_eq_some_iff.mp q1).1
    obtain ⟨⟨env1, S3⟩, h3, hf⟩ := bind_some hf
    obtain ⟨⟨fl4, S4⟩, h4, hf⟩ := bind_some hf
    obtain ⟨go, yl⟩ := okk.1 d q1
    refine .inr ⟨go, fun σ5 H5 => ∃ m5 F5 env5 S5, Ext m1 F1 H1 m5 F5 H5 ∧ Sim X.K ct m5 F5 S5 H5 ∧ EnvR X.K ct m5 F5 env5 σ5 ∧ forD g fb (items.drop (i + 1)) env5 S5 = some (fl, S'), fun σ5 H5 w => ⟨items.length - (i + 1), by omega, rfl, hlt, w⟩, fun x H5 y => ?_⟩
    obtain ⟨F5, x5, s5, r5⟩ := yl x H5 y
    refine rg m' F5 S2 σ' H5 env' d x env1 S3 _ s5 (en'.mono x5) r5 h3 fun m6 F6 σ6 H6 x6 s6 en6 => ?_
    refine rb m6 F6 S3 σ6 H6 env1 fl4 S4 _ s6 en6 h4 ?_
    have xx : Ext m1 F1 H1 m6 F6 H6 := (x'.trans x5).trans x6
    cases fl4 with
    | nx env7 => exact fun m7 F7 σ7 H7 x7 s7 en7 => ⟨m7, F7, env7, S4, xx.trans x7, s7, en7, by rw [q2]; exact hf⟩
    | ct env7 => exact fun m7 F7 σ7 H7 x7 s7 en7 => ⟨m7, F7, env7, S4, xx.trans x7, s7, en7, by rw [q2]; exact hf⟩
    | bk env7 => cases hf; exact fun m7 F7 σ7 H7 x7 s7 en7 => p m7 F7 σ7 H7 (x1.trans (xx.trans x7)) s7 en7
    | rt d7 => cases hf; exact fun m7 F7 v7 H7 x7 s7 r7 => p m7 F7 v7 H7 (x1.trans (xx.trans x7)) s7 r7
/-! ## while -/
def whileD (t : FT) (body : FS) : Nat → FS
  | 0, _, _ => none
  | n + 1, env, S => (t env S).bind fun p => if p.1 = true then (body env p.2).bind fun q => match q.1 with
      | .nx env' => whileD t body n env' q.2
      | .ct env' => whileD t body n env' q.2
      | .bk env' => some (.nx env', q.2)
      | .rt d => some (.rt d, q.2)
    else some (.nx env, p.2)
theorem ss_while {body : List Stmt} {fb : FS} (n : Nat) (hp : PassesOwn (model X.prog X.w) X.A X.env X.xe) (hc : ST ct X c ga) (hb : SSs ct X body fb) : SS ct X (.While c body [] pos) (whileD ga fb n) := by
  obtain ⟨tc, pc, rc⟩ := hc
  obtain ⟨tb, pb, rb⟩ := hb
  refine ⟨_, ps_while hp pc pb, fun m F S σ H env fl S' E s en h p => ?_⟩
  refine ⟨fun k σ' H' => ∃ m' F' env' S2, Ext m F H m' F' H' ∧ Sim X.K ct m' F' S2 H' ∧ EnvR X.K ct m' F' env' σ' ∧ whileD ga fb k env' S2 = some (fl, S'), ⟨n, m, F, env, S, Ext.refl _ _ _, s, en, h⟩, ?_⟩
  rintro k σ' H' ⟨m', F', env', S2, x', s', en', hf⟩
  cases k with
  | zero => cases hf
  | succ k =>
    obtain ⟨⟨b1, S3⟩, h3, hf⟩ := bind_some hf
    refine rc m' F' S2 σ' H' env' b1 S3 _ s' en' h3 fun m3 F3 H3 x3 s3 => ?_
    cases b1 with
    | true =>
      obtain ⟨⟨fl4, S4⟩, h4, hf⟩ := bind_some (show (fb env' S3).bind _ = _ from hf)
      refine iteT ⟨fun σ5 H5 => ∃ m5 F5 env5 S5, Ext m F H m5 F5 H5 ∧ Sim X.K ct m5 F5 S5 H5 ∧ EnvR X.K ct m5 F5 env5 σ5 ∧ whileD ga fb k env5 S5 = some (fl, S'), fun σ5 H5 w => ⟨k, Nat.lt_succ_self _, w⟩, ?_⟩
      refine rb m3 F3 S3 σ' H3 env' fl4 S4 _ s3 (en'.mono x3) h4 ?_
      cases fl4 with
      | nx env7 => exact fun m7 F7 σ7 H7 x7 s7 en7 => ⟨m7, F7, env7, S4, (x'.trans x3).trans x7, s7, en7, hf⟩
      | ct env7 => exact fun m7 F7 σ7 H7 x7 s7 en7 => ⟨m7, F7, env7, S4, (x'.trans x3).trans x7, s7, en7, hf⟩
      | bk env7 => cases hf; exact fun m7 F7 σ7 H7 x7 s7 en7 => p m7 F7 σ7 H7 ((x'.trans x3).trans x7) s7 en7
      | rt d7 => cases hf; exact fun m7 F7 v7 H7 x7 s7 r7 => p m7 F7 v7 H7 ((x'.trans x3).trans x7) s7 r7
    | false =>
      cases hf
      exact iteF (p m3 F3 σ' H3 (x'.trans x3) s3 (en'.mono x3))
/-! ## the body of a def, calls of defs -/
def runD (n : Nat) (g : FS) : FD := fun ds S => (g (ds.map some ++ List.replicate (n - ds.length) none) S).bind fun p => match p.1 with
  | .rt d => some (d, p.2)
  | .nx _ => some (.non, p.2)
  | _ => none
def spD (K : PySem.W.Frag) (ct : CT) (n : Nat) (g : FD) : Sp := fun vs H Q _ => vs.length = n ∧ ∃ m F S ds d S', Sim K ct m F S H ∧ Reps K ct m F ds vs ∧ g ds S = some (d, S') ∧ PostE ct K m F H S' d Q
end
section
variable {P : Program} {w : World} {K : PySem.W.Frag} {mg : Str → Option Value} {base : Heap} {ct : CT}
theorem def_ok {x qual : Str} {st : Stmt} {f : Addr} {fd : FuncData} {N ps : List Str} {k : Nat} {g : FS} (F : Fun K x qual st f fd) (S : FnScope N ps (defScope st))
    (hbody : ∀ (cdv : Value) (A : Around) (outer : List Env) (s : Shared) (H : Hp) (E : XK), RoomG k (A.deeper (envOfC qual (defScope st) s.heap.objs.size f cdv)) →
      SSs ct (cxOf CX0 P w K mg base N qual (defScope st) f cdv A outer s H E).nox (defBody st) g) : FnG P w K mg base (k + 1) f fd ps (spD K ct ps.length (runD N.length g)) := by
  refine funG F S (fun vs H Q E h => h.1) (fun cdv A outer s H vs Q E hr h => ?_)
  obtain ⟨hl, m, F', S0, ds, d, S', sim, reps, hg, post⟩ := h
  obtain ⟨t, pt, rt⟩ := hbody cdv A outer s H E hr
  refine ⟨t, pt, ?_⟩
  obtain ⟨⟨fl, S1⟩, h1, h2⟩ := bind_some hg
  refine rt m F' S0 _ H _ fl S1 _ sim ?_ h1 ?_
  · have hl2 := reps.length
    refine ⟨by simp [L2.start, hl2], fun i e he => ?_⟩
    by_cases hi : i < ds.length
    · rw [List.getElem?_append_left (by simpa using hi)] at he
      simp at he
      obtain ⟨v, q1, q2⟩ := reps.get (i := i) (d := e) (by simpa using he)
      refine ⟨v, ?_, q2⟩
      unfold L2.start
      rw [List.getElem?_append_left (by simpa [← hl2] using hi)]
      simp [q1]
    · rw [List.getElem?_append_right (by simpa using hi)] at he
      have := List.mem_of_getElem? he
      simp at this
  · cases fl with
    | rt d1 => cases h2; exact fun m' F1 v H' x1 s1 r1 => post m' F1 v H' x1 s1 r1
    | nx env1 => cases h2; exact fun m' F1 σ1 H' x1 s1 r1 => post m' F1 .non H' x1 s1 rfl
    | bk env1 => cases h2
    | ct env1 => cases h2
end
section
variable {ct : CT} {X : Cx} {e : Expr} {es : List Expr} {fas : FA} {x : Str} {p pos : Pos}
theorem se_call {k n : Nat} {f : Addr} {fd : FuncData} {ps : List Str} {g : FD} (F : FnG X.prog X.w X.K X.mg X.base k f fd ps (spD X.K ct n g)) (hr : RoomG k X.A) (hg : Gl X x) (hm : X.mg x = some (.ref f)) (hk : PySem.W.keepIn X.K (.ref f) = true) (hb : Binds X.K fd ps [])
    (ha : SA ct X (e :: es) fas) (hn : ∀ env S ds S', fas env S = some (ds, S') → ds.length = n) (hdb : (x == ("__debug__" : Str)) = false := by decide) (he : starEach (e :: es) X.env = (false, eval e X.env) :: starEach es X.env := by rfl) (hpl : (backTo pos (starEach es X.env)).any (·.1) = false := by rfl) :
    SE ct X (.Call (.Name x p) (e :: es) [] pos) (fCall g fas) := by
  obtain ⟨ta, pa, ra⟩ := ha
  refine ⟨_, pe_callG (E := fun _ _ _ => False) F hr hg hm hk hb .nil pa hdb he hpl, fun m F S σ H env d S' Q s en h p => ?_⟩
  obtain ⟨⟨xs, S1⟩, h1, h⟩ := bind_some h
  refine ra m F S σ H env xs S1 _ s en h1 fun m1 F1 vs H1 x1 s1 r1 => ?_
  rw [List.append_nil]
  exact ⟨by rw [← r1.length]; exact hn _ _ _ _ h1, m1, F1, S1, xs, d, S', s1, r1, h, p.ext x1⟩
theorem fNil_len {env : DEnv} {S S' : Sto} {ds : List D} (h : fNil env S = some (ds, S')) : ds.length = 0 := by cases h; rfl
theorem fCons_len {f : FE} {fs : FA} {n : Nat} (hn : ∀ env S ds S', fs env S = some (ds, S') → ds.length = n) : ∀ env S ds S', fCons f fs env S = some (ds, S') → ds.length = n + 1 := fun env S ds S' h => by
  obtain ⟨⟨x, S1⟩, h1, h⟩ := bind_some h
  obtain ⟨⟨y, S2⟩, h2, h⟩ := bind_some h
  cases h
  simp [hn _ _ _ _ h2]
end
end DL

namespace DL
open PySem PySem.Spec PyProof.Rows L2
theorem line_eq : sizeLine = 16777216 := sizeLine_eq
/-! ## operators at data -/
section
variable {ct : CT} {K : PySem.W.Frag}
/-- an operator of two ints -/
def gI (C : Int → Int → Bool) (k : Int → Int → D) : D → D → Sto → Option (D × Sto)
  | .int i, .int j, S => if C i j = true then some (k i j, S) else none
  | _, _, _ => none
theorem od_I {C : Int → Int → Bool} {C' : Int → Int → Prop} {k : Int → Int → D} {g : Int → Int → V} (hC : ∀ i j, C i j = true → C' i j) (hk : ∀ m F i j, Rep K ct m F (k i j) (g i j)) : OpD ct K (rI C' g) (gI C k) := by
  intro m F S H x y dx dy d S' Q s rx ry h p
  unfold gI at h
  split at h
  · rename_i i j
    split at h
    · rename_i hc
      cases h
      have rx : x = .int i := rx
      have ry : y = .int j := ry
      exact ⟨i, j, rx, ry, hC _ _ hc, p.now s (hk m F i j)⟩
    · cases h
  · cases h
def gI0 (k : Int → Int → D) : D → D → Sto → Option (D × Sto)
  | .int i, .int j, S => some (k i j, S)
  | _, _, _ => none
theorem od_I0 {k : Int → Int → D} {g : Int → Int → V} (hk : ∀ m F i j, Rep K ct m F (k i j) (g i j)) : OpD ct K (rI0 g) (gI0 k) := by
  intro m F S H x y dx dy d S' Q s rx ry h p
  unfold gI0 at h
  split at h
  · rename_i i j
    cases h
    have rx : x = .int i := rx
    have ry : y = .int j := ry
    exact ⟨i, j, rx, ry, p.now s (hk m F i j)⟩
  · cases h
abbrev gSubI := gI0 fun i j => .int (i - j)
theorem od_sub : OpD ct K (rI0 fun i j => .int (i - j)) gSubI := od_I0 fun _ _ _ _ => rfl
def smallI (i : Int) : Bool := decide (i.natAbs.log2 < 400000)
abbrev gMul := gI (fun i j => smallI i && smallI j) fun i j => .int (i * j)
theorem od_mul : OpD ct K (rI CMulW fun i j => .int (i * j)) gMul := od_I (fun i j h => by
  simp only [smallI, Bool.and_eq_true, decide_eq_true_eq] at h
  show i.natAbs.log2 + j.natAbs.log2 < 1000000
  omega) fun _ _ _ _ => rfl
abbrev gFdiv := gI (fun _ j => decide (0 < j) && decide (j.natAbs.log2 < 9000)) fun i j => .int (i / j)
theorem od_fdiv : OpD ct K (rI CDivW fun i j => .int (i / j)) gFdiv := od_I (fun i j h => by
  simp only [Bool.and_eq_true, decide_eq_true_eq] at h
  exact h) fun _ _ _ _ => rfl
abbrev gMod := gI (fun _ j => decide (0 < j)) fun i j => .int (i % j)
theorem od_mod : OpD ct K (rI (fun _ j => 0 < j) fun i j => .int (i % j)) gMod := od_I (fun i j h => of_decide_eq_true h) fun _ _ _ _ => rfl
abbrev gPow := gI (fun i j => decide (0 ≤ j) && decide (j ≤ 1000000) && decide (i.natAbs < 18446744073709551616)) fun i j => .int (i ^ j.toNat)
theorem od_pow : OpD ct K (rI CPow fun i j => .int (i ^ j.toNat)) gPow := od_I (fun i j h => by
  simp only [Bool.and_eq_true, decide_eq_true_eq] at h
  exact ⟨h.1.1, h.1.2, h.2⟩) fun _ _ _ _ => rfl
abbrev gShl := gI (fun i j => decide (0 ≤ j) && decide (j ≤ 1000000) && decide (i.natAbs < 18446744073709551616)) fun i j => .int (i * 2 ^ j.toNat)
theorem od_shl : OpD ct K (rI CPow fun i j => .int (i * 2 ^ j.toNat)) gShl := od_I (fun i j h => by
  simp only [Bool.and_eq_true, decide_eq_true_eq] at h
  exact ⟨h.1.1, h.1.2, h.2⟩) fun _ _ _ _ => rfl
abbrev gShr := gI (fun _ j => decide (0 ≤ j)) fun i j => .int (i / 2 ^ j.toNat)
theorem od_shr : OpD ct K (rI (fun _ j => 0 ≤ j) fun i j => .int (i / 2 ^ j.toNat)) gShr := od_I (fun i j h => of_decide_eq_true h) fun _ _ _ _ => rfl
abbrev gAndI := gI0 fun i j => .int (Builtin.bitAnd i j)
theorem od_and : OpD ct K (rI0 fun i j => .int (Builtin.bitAnd i j)) gAndI := od_I0 fun _ _ _ _ => rfl
abbrev gOrI := gI0 fun i j => .int (Builtin.bitOr i j)
theorem od_or : OpD ct K (rI0 fun i j => .int (Builtin.bitOr i j)) gOrI := od_I0 fun _ _ _ _ => rfl
abbrev gLt := gI0 fun i j => .bl (decide (i < j))
abbrev gLe := gI0 fun i j => .bl (decide (i ≤ j))
abbrev gGt := gI0 fun i j => .bl (decide (j < i))
abbrev gGe := gI0 fun i j => .bl (decide (j ≤ i))
theorem od_lt : OpD ct K (rI0 fun i j => .bl (decide (i < j))) gLt := od_I0 fun _ _ _ _ => rfl
theorem od_le : OpD ct K (rI0 fun i j => .bl (decide (i ≤ j))) gLe := od_I0 fun _ _ _ _ => rfl
theorem od_gt : OpD ct K (rI0 fun i j => .bl (decide (j < i))) gGt := od_I0 fun _ _ _ _ => rfl
theorem od_ge : OpD ct K (rI0 fun i j => .bl (decide (j ≤ i))) gGe := od_I0 fun _ _ _ _ => rfl
/-! + of ints, texts, lists -/
def gAdd : D → D → Sto → Option (D × Sto)
  | .int i, .int j, S => some (.int (i + j), S)
  | .str x, .str y, S => if x.length + y.length ≤ 16777216 then some (.str (x ++ y), S) else none
  | .lst a, .lst b, S => if a.length + b.length ≤ 16777216 then some (.lst (a ++ b), S) else none
  | _, _, _ => none
def rAddAll : R2 := fun x y H Q => rI0 (fun i j => .int (i + j)) x y H Q ∨ ((∃ i j, x = .str i ∧ y = .str j ∧ i.length + j.length ≤ sizeLine ∧ Q (.str (i ++ j)) H) ∨ rCat x y H Q)
theorem op_addAll {X : Cx} : OpR X (binaryOp .Add) rAddAll := op_add.or (op_add_str.or op_cat)
theorem od_add : OpD ct K rAddAll gAdd := by
  intro m F S H x y dx dy d S' Q s rx ry h p
  unfold gAdd at h
  split at h
  · rename_i i j
    cases h
    exact .inl ⟨i, j, rx, ry, p.now s rfl⟩
  · rename_i u v
    split at h
    · rename_i hl
      cases h
      exact .inr (.inl ⟨u, v, rx, ry, by rw [line_eq]; exact hl, p.now s rfl⟩)
    · cases h
  · rename_i as bs
    split at h
    · rename_i hl
      cases h
      obtain ⟨a, vs, e1, e2, e3⟩ := rx
      obtain ⟨b, us, f1, f2, f3⟩ := ry
      refine .inr (.inr ⟨a, b, vs, us, e1, f1, s.same _ _ e2, s.same _ _ f2, by rw [line_eq, ← e3.length, ← f3.length]; exact hl, fun q hq => ?_⟩)
      obtain ⟨s2, x2⟩ := s.frozen hq (.lst (vs ++ us))
      exact p m _ (.ref q) _ x2 s2 ⟨q, _, rfl, upd_same, (e3.append f3).mono x2⟩
    · cases h
  · cases h
/-! == and != -/
mutual
def toP : D → Option PyData
  | .non => some .none
  | .bl b => some (.bool b)
  | .int i => some (.int i)
  | .str x => some (.str x)
  | .tup ds => (toPs ds).map .tuple
  | .lst ds => (toPs ds).map .list
  | .scr ns => some (.list (ns.map .int))
  | _ => none
def toPs : List D → Option (List PyData)
  | [] => some []
  | d :: ds => (toP d).bind fun p => (toPs ds).map fun ps => p :: ps
end
theorem map_some {α β : Type} {o : Option α} {k : α → β} {r : β} (h : o.map k = some r) : ∃ x, o = some x ∧ k x = r := by
  cases o with
  | none => cases h
  | some x => exact ⟨x, rfl, Option.some.inj h⟩
theorem DpAll_ints {H : Hp} (ns : List Int) : DpAll K H (ns.map V.int) (ns.map PyData.int) := by
  induction ns with
  | nil => exact .nil
  | cons n ns ih => exact .cons (.int n) ih
mutual
theorem Rep.dp {m : List Addr} {F H : Hp} (e : Same F H) : ∀ (d : D) (v : V) (p : PyData), Rep K ct m F d v → toP d = some p → Dp K H v p
  | .non, _, _, h, q => by
    have h : _ = _ := h
    subst h
    cases q
    exact .non
  | .bl b, _, _, h, q => by
    have h : _ = _ := h
    subst h
    cases q
    exact .bl b
  | .int b, _, _, h, q => by
    have h : _ = _ := h
    subst h
    cases q
    exact .int b
  | .str b, _, _, h, q => by
    have h : _ = _ := h
    subst h
    cases q
    exact .str b
  | .tup ds, _, _, h, q => by
    obtain ⟨a, vs, e1, e2, e3⟩ := h
    subst e1
    obtain ⟨ps, q1, q2⟩ := map_some (show (toPs ds).map PyData.tuple = _ from q)
    subst q2
    exact .tup (sqT_mono e e2) (Reps.dp e ds vs ps e3 q1)
  | .lst ds, _, _, h, q => by
    obtain ⟨a, vs, e1, e2, e3⟩ := h
    subst e1
    obtain ⟨ps, q1, q2⟩ := map_some (show (toPs ds).map PyData.list = _ from q)
    subst q2
    exact .lst (SqL.of (e _ _ e2)) (Reps.dp e ds vs ps e3 q1)
  | .scr ns, _, _, h, q => by
    obtain ⟨a, e1, e2⟩ := h
    subst e1
    cases q
    exact .lst (e.seq e2) (DpAll_ints ns)
  | .dct _ _, _, _, _, q => by cases q
  | .ref _, _, _, _, q => by cases q
  | .obj _ _ _, _, _, _, q => by cases q
theorem Reps.dp {m : List Addr} {F H : Hp} (e : Same F H) : ∀ (ds : List D) (vs : List V) (ps : List PyData), Reps K ct m F ds vs → toPs ds = some ps → DpAll K H vs ps
  | [], _, _, h, q => by
    have h : _ = _ := h
    subst h
    cases q
    exact .nil
  | d :: ds, _, _, h, q => by
    obtain ⟨v, r, e1, e2, e3⟩ := h
    subst e1
    obtain ⟨p, q1, q⟩ := bind_some (show (toP d).bind _ = _ from q)
    obtain ⟨ps, q2, q3⟩ := map_some q
    subst q3
    exact .cons (Rep.dp e d v p e2 q1) (Reps.dp e ds r ps e3 q2)
end
def eqDeep (neg : Bool) (dx dy : D) : Option D := (toP dx).bind fun p => (toP dy).bind fun q => if SeqAt.shaped p = true ∧ SeqAt.shaped q = true then some (.bl (if neg then !PyData.eqv p q else PyData.eqv p q)) else none
def gEq : D → D → Sto → Option (D × Sto)
  | .int i, .int j, S => some (.bl (decide (i = j)), S)
  | .str i, .str j, S => some (.bl (decide (i = j)), S)
  | .bl i, .bl j, S => some (.bl (decide (i = j)), S)
  | dx, dy, S => (eqDeep false dx dy).map fun d => (d, S)
def gNe : D → D → Sto → Option (D × Sto)
  | .int i, .int j, S => some (.bl (!decide (i = j)), S)
  | .str i, .str j, S => some (.bl (!decide (i = j)), S)
  | .bl i, .bl j, S => some (.bl (!decide (i = j)), S)
  | dx, dy, S => (eqDeep true dx dy).map fun d => (d, S)
def rEqAll (K : PySem.W.Frag) : R2 := fun x y H Q => rEq x y H Q ∨ rEqD K x y H Q
def rNeAll (K : PySem.W.Frag) : R2 := fun x y H Q => rNe x y H Q ∨ rNeD K x y H Q
theorem op_eqAll {X : Cx} {k : Nat} (hr : RoomG k X.A) : OpR X (compareOp .Eq) (rEqAll X.K) := op_eq.or (op_eqD hr.units)
theorem op_neAll {X : Cx} {k : Nat} (hr : RoomG k X.A) : OpR X (compareOp .NotEq) (rNeAll X.K) := op_ne.or (op_neD hr.units)
theorem dec_eq {α : Type} [DecidableEq α] {f : α → V} (hf : ∀ a b, f a = f b → a = b) (i j : α) : decide (f i = f j) = decide (i = j) := by
  by_cases h : i = j
  · subst h; simp
  · rw [decide_eq_false h, decide_eq_false fun q => h (hf _ _ q)]
theorem od_eq : OpD ct K (rEqAll K) gEq := by
  intro m F S H x y dx dy d S' Q s rx ry h p
  unfold gEq at h
  split at h
  · rename_i i j
    cases h
    have rx : x = .int i := rx
    have ry : y = .int j := ry
    subst rx ry
    exact .inl ⟨rfl, by rw [dec_eq (fun _ _ q => V.int.inj q)]; exact p.now s rfl⟩
  · rename_i i j
    cases h
    have rx : x = .str i := rx
    have ry : y = .str j := ry
    subst rx ry
    exact .inl ⟨rfl, by rw [dec_eq (fun _ _ q => V.str.inj q)]; exact p.now s rfl⟩
  · rename_i i j
    cases h
    have rx : x = .bl i := rx
    have ry : y = .bl j := ry
    subst rx ry
    exact .inl ⟨rfl, by rw [dec_eq (fun _ _ q => V.bl.inj q)]; exact p.now s rfl⟩
  · obtain ⟨z, h1, h2⟩ := map_some h
    cases h2
    obtain ⟨u, g1, h⟩ := bind_some h1
    obtain ⟨w, g2, h⟩ := bind_some h
    split at h
    · rename_i hs
      cases h
      exact .inr ⟨u, w, Rep.dp s.same dx x u rx g1, Rep.dp s.same dy y w ry g2, hs.1, hs.2, p.now s rfl⟩
    · cases h
theorem od_ne : OpD ct K (rNeAll K) gNe := by
  intro m F S H x y dx dy d S' Q s rx ry h p
  unfold gNe at h
  split at h
  · rename_i i j
    cases h
    have rx : x = .int i := rx
    have ry : y = .int j := ry
    subst rx ry
    exact .inl ⟨rfl, by rw [dec_eq (fun _ _ q => V.int.inj q)]; exact p.now s rfl⟩
  · rename_i i j
    cases h
    have rx : x = .str i := rx
    have ry : y = .str j := ry
    subst rx ry
    exact .inl ⟨rfl, by rw [dec_eq (fun _ _ q => V.str.inj q)]; exact p.now s rfl⟩
  · rename_i i j
    cases h
    have rx : x = .bl i := rx
    have ry : y = .bl j := ry
    subst rx ry
    exact .inl ⟨rfl, by rw [dec_eq (fun _ _ q => V.bl.inj q)]; exact p.now s rfl⟩
  · obtain ⟨z, h1, h2⟩ := map_some h
    cases h2
    obtain ⟨u, g1, h⟩ := bind_some h1
    obtain ⟨w, g2, h⟩ := bind_some h
    split at h
    · rename_i hs
      cases h
      exact .inr ⟨u, w, Rep.dp s.same dx x u rx g1, Rep.dp s.same dy y w ry g2, hs.1, hs.2, p.now s rfl⟩
    · cases h
/-! is None -/
def isNonD : D → Bool
  | .non => true
  | _ => false
theorem Rep.isNon {m : List Addr} {F : Hp} {d : D} {v : V} (r : Rep K ct m F d v) : decide (v = .non) = isNonD d := by
  cases d with
  | non => have r : v = .non := r; subst r; rfl
  | bl b => have r : v = _ := r; subst r; rfl
  | int b => have r : v = _ := r; subst r; rfl
  | str b => have r : v = _ := r; subst r; rfl
  | tup ds => obtain ⟨a, vs, e1, _⟩ := r; subst e1; rfl
  | lst ds => obtain ⟨a, vs, e1, _⟩ := r; subst e1; rfl
  | dct ks ds => obtain ⟨a, vs, e1, _⟩ := r; subst e1; rfl
  | scr ds => obtain ⟨a, e1, _⟩ := r; subst e1; rfl
  | ref i => obtain ⟨a, _, e1⟩ := r; subst e1; rfl
  | obj c fs ds => obtain ⟨a, C, dx, vs, e1, _⟩ := r; subst e1; rfl
def gIsN : D → D → Sto → Option (D × Sto)
  | x, .non, S => some (.bl (isNonD x), S)
  | _, _, _ => none
def gNotN : D → D → Sto → Option (D × Sto)
  | x, .non, S => some (.bl (!isNonD x), S)
  | _, _, _ => none
theorem od_isN : OpD ct K (fun x y H Q => y = .non ∧ Q (.bl (decide (x = .non))) H) gIsN := by
  intro m F S H x y dx dy d S' Q s rx ry h p
  unfold gIsN at h
  split at h
  · cases h
    exact ⟨ry, by rw [rx.isNon]; exact p.now s rfl⟩
  · cases h
theorem od_notN : OpD ct K (fun x y H Q => y = .non ∧ Q (.bl (!decide (x = .non))) H) gNotN := by
  intro m F S H x y dx dy d S' Q s rx ry h p
  unfold gNotN at h
  split at h
  · cases h
    exact ⟨ry, by rw [rx.isNon]; exact p.now s rfl⟩
  · cases h
/-! in: flat items of a list or a tuple; a text in a text -/
def flatD : D → Bool
  | .non => true
  | .bl _ => true
  | .int _ => true
  | .str _ => true
  | _ => false
def eqF : D → D → Bool
  | .non, .non => true
  | .bl a, .bl b => a == b
  | .bl a, .int b => (if a then 1 else 0) == b
  | .int a, .bl b => a == (if b then 1 else 0)
  | .int a, .int b => a == b
  | .str a, .str b => a == b
  | _, _ => false
def vOf : D → V
  | .bl b => .bl b
  | .int b => .int b
  | .str b => .str b
  | _ => .non
theorem Rep.flat {m : List Addr} {F : Hp} {d : D} {v : V} (r : Rep K ct m F d v) (h : flatD d = true) : v = vOf d ∧ flatV v = true := by
  cases d with
  | non => have r : v = _ := r; subst r; exact ⟨rfl, rfl⟩
  | bl b => have r : v = _ := r; subst r; exact ⟨rfl, rfl⟩
  | int b => have r : v = _ := r; subst r; exact ⟨rfl, rfl⟩
  | str b => have r : v = _ := r; subst r; exact ⟨rfl, rfl⟩
  | _ => cases h
theorem eqV_eqF {a b : D} (ha : flatD a = true) (hb : flatD b = true) : eqV (vOf a) (vOf b) = eqF a b := by
  cases a <;> cases ha <;> cases b <;> cases hb <;> rfl
theorem Reps.flat {m : List Addr} {F : Hp} : ∀ {ds : List D} {vs : List V}, Reps K ct m F ds vs → ds.all flatD = true → vs = ds.map vOf ∧ vs.all flatV = true
  | [], _, r, _ => by have r : _ = _ := r; subst r; exact ⟨rfl, rfl⟩
  | d :: ds, _, r, h => by
    obtain ⟨v, vr, e1, e2, e3⟩ := r
    subst e1
    simp only [List.all_cons, Bool.and_eq_true] at h
    obtain ⟨q1, q2⟩ := e2.flat h.1
    obtain ⟨q3, q4⟩ := Reps.flat e3 h.2
    exact ⟨by rw [q1, q3]; rfl, by simp only [List.all_cons, q2, q4]; rfl⟩
theorem inV_eq {x : D} (hx : flatD x = true) : ∀ ds : List D, ds.all flatD = true → inV (vOf x) (ds.map vOf) = ds.any fun z => eqF z x
  | [], _ => rfl
  | d :: ds, h => by
    simp only [List.all_cons, Bool.and_eq_true] at h
    have ih := inV_eq hx ds h.2
    unfold inV at ih ⊢
    simp only [List.map_cons, List.any_cons, ih, eqV_eqF h.1 hx]
def inSeq (neg : Bool) (x : D) (ds : List D) (S : Sto) : Option (D × Sto) := if flatD x = true ∧ ds.all flatD = true then some (.bl (if neg then !ds.any (fun z => eqF z x) else ds.any fun z => eqF z x), S) else none
def gInB (neg : Bool) : D → D → Sto → Option (D × Sto)
  | x, .tup ds, S => inSeq neg x ds S
  | x, .lst ds, S => inSeq neg x ds S
  | .str x, .str y, S => some (.bl (if neg then !(!(Builtin.Str.occurrences y x 0 y.length 1).isEmpty) else !(Builtin.Str.occurrences y x 0 y.length 1).isEmpty), S)
  | _, _, _ => none
abbrev gIn := gInB false
abbrev gNotIn := gInB true
def rInAll (K : PySem.W.Frag) : R2 := fun x y H Q => rIn K false x y H Q ∨ ∃ i j, x = .str i ∧ y = .str j ∧ Q (.bl (!(Builtin.Str.occurrences j i 0 j.length 1).isEmpty)) H
def rNotInAll (K : PySem.W.Frag) : R2 := fun x y H Q => rIn K true x y H Q ∨ ∃ i j, x = .str i ∧ y = .str j ∧ Q (.bl (!(!(Builtin.Str.occurrences j i 0 j.length 1).isEmpty))) H
theorem op_inAll {X : Cx} : OpR X (compareOp .In) (rInAll X.K) := op_in_seq.or op_in_str
theorem op_notInAll {X : Cx} : OpR X (compareOp .NotIn) (rNotInAll X.K) := op_notIn_seq.or op_notIn_str
theorem in_seq {neg : Bool} {m : List Addr} {F H : Hp} {S S' : Sto} {x y : V} {dx d : D} {ds : List D} {Q : VK} {a : Addr} {vs : List V} (s : Sim K ct m F S H) (rx : Rep K ct m F dx x) (e1 : y = .ref a) (e2 : SqL K H a vs ∨ SqT K H a vs) (e3 : Reps K ct m F ds vs)
    (h : inSeq neg dx ds S = some (d, S')) (p : PostE ct K m F H S' d Q) : rIn K neg x y H Q := by
  unfold inSeq at h
  split at h
  · rename_i hf
    cases h
    obtain ⟨q1, q2⟩ := rx.flat hf.1
    obtain ⟨q3, q4⟩ := e3.flat hf.2
    refine ⟨a, vs, e1, e2, q2, q4, ?_⟩
    rw [q1, q3, inV_eq hf.1 _ hf.2]
    exact p.now s rfl
  · cases h
theorem od_in : OpD ct K (rInAll K) gIn := by
  intro m F S H x y dx dy d S' Q s rx ry h p
  unfold gIn gInB at h
  split at h
  · obtain ⟨a, vs, e1, e2, e3⟩ := ry
    exact .inl (in_seq s rx e1 (.inr (sqT_mono s.same e2)) e3 h p)
  · obtain ⟨a, vs, e1, e2, e3⟩ := ry
    exact .inl (in_seq s rx e1 (.inl (SqL.of (s.same _ _ e2))) e3 h p)
  · cases h
    exact .inr ⟨_, _, rx, ry, p.now s rfl⟩
  · cases h
theorem od_notIn : OpD ct K (rNotInAll K) gNotIn := by
  intro m F S H x y dx dy d S' Q s rx ry h p
  unfold gNotIn gInB at h
  split at h
  · obtain ⟨a, vs, e1, e2, e3⟩ := ry
    exact .inl (in_seq s rx e1 (.inr (sqT_mono s.same e2)) e3 h p)
  · obtain ⟨a, vs, e1, e2, e3⟩ := ry
    exact .inl (in_seq s rx e1 (.inl (SqL.of (s.same _ _ e2))) e3 h p)
  · cases h
    exact .inr ⟨_, _, rx, ry, p.now s rfl⟩
  · cases h
/-! subscripts -/
def gIx : D → D → Sto → Option (D × Sto)
  | .tup ds, .int i, S => (atI ds i).map fun d => (d, S)
  | .lst ds, .int i, S => (atI ds i).map fun d => (d, S)
  | .scr ns, .int i, S => (atI ns i).map fun n => (.int n, S)
  | .str z, .int i, S => if z.length ≤ 16777216 then (atI z.cps.toList i).map fun c => (.str ⟨#[c]⟩, S) else none
  | .ref k, .int i, S => match S[k]? with
    | some (.lst ds) => (atI ds i).map fun d => (d, S)
    | _ => none
  | _, _, _ => none
theorem Reps.atI {m : List Addr} {F : Hp} {ds : List D} {vs : List V} {i : Int} {d : D} (r : Reps K ct m F ds vs) (h : atI ds i = some d) : ∃ v, L2.atI vs i = some v ∧ Rep K ct m F d v := by
  unfold L2.atI at h ⊢
  obtain ⟨j, h1, h2⟩ := bind_some h
  obtain ⟨v, q1, q2⟩ := r.get h2
  exact ⟨v, by rw [← r.length, h1]; exact q1, q2⟩
theorem atI_map {α β : Type} {f : α → β} {xs : List α} {i : Int} {x : α} (h : L2.atI xs i = some x) : L2.atI (xs.map f) i = some (f x) := by
  unfold L2.atI at h ⊢
  obtain ⟨j, h1, h2⟩ := bind_some h
  rw [List.length_map, h1]
  simp [h2]
theorem od_ix : OpD ct K (rIx K) gIx := by
  intro m F S H x y dx dy d S' Q s rx ry h p
  unfold gIx at h
  split at h
  · obtain ⟨a, vs, e1, e2, e3⟩ := rx
    obtain ⟨z, h1, h2⟩ := map_some h
    cases h2
    obtain ⟨v, q1, q2⟩ := e3.atI h1
    exact .inr (.inl ⟨a, vs, _, v, e1, ry, sqT_mono s.same e2, q1, p.now s q2⟩)
  · obtain ⟨a, vs, e1, e2, e3⟩ := rx
    obtain ⟨z, h1, h2⟩ := map_some h
    cases h2
    obtain ⟨v, q1, q2⟩ := e3.atI h1
    exact .inl ⟨a, vs, _, v, e1, ry, SqL.of (s.same _ _ e2), q1, p.now s q2⟩
  · obtain ⟨a, e1, e2⟩ := rx
    obtain ⟨z, h1, h2⟩ := map_some h
    cases h2
    exact .inl ⟨a, _, _, .int z, e1, ry, s.same.seq e2, atI_map h1, p.now s rfl⟩
  · split at h
    · rename_i hl
      obtain ⟨z, h1, h2⟩ := map_some h
      cases h2
      exact .inr (.inr ⟨_, _, z, rx, ry, by rw [line_eq]; exact hl, h1, p.now s rfl⟩)
    · cases h
  · split at h
    · rename_i ds hk
      obtain ⟨a, e1, e2⟩ := rx
      obtain ⟨z, h1, h2⟩ := map_some h
      cases h2
      obtain ⟨vs, q1, q2⟩ := s.cell _ a _ e1 hk
      obtain ⟨v, q3, q4⟩ := q2.atI h1
      exact .inl ⟨a, vs, _, v, e2, ry, SqL.of q1, q3, p.now s q4⟩
    · cases h
  · cases h
/-! o[i] = v of a cell -/
def gSetL : D → D → D → Sto → Option Sto
  | .ref k, .int i, v, S => match S[k]? with
    | some (.lst ds) => (ixN ds.length i).map fun j => S.set k (.lst (ds.set j v))
    | _ => none
  | _, _, _, _ => none
theorem sd_list : SetD ct K rSetL gSetL := by
  intro m F S H o i v d1 d2 d3 S' Q s r1 r2 r3 h q
  unfold gSetL at h
  split at h
  · split at h
    · rename_i ds hk
      obtain ⟨j, h1, h2⟩ := map_some h
      subst h2
      obtain ⟨a, e1, e2⟩ := r1
      obtain ⟨vs, q1, q2⟩ := s.cell _ a _ e1 hk
      obtain ⟨s2, x2⟩ := s.change e1 (o := .lst (vs.set j v)) (c := .lst (ds.set j d3)) ⟨_, rfl, q2.set j r3⟩
      exact ⟨a, vs, _, j, e2, r2, q1, by rw [← q2.length]; exact h1, q _ _ _ x2 s2⟩
    · cases h
  · cases h
end
end DL

namespace DL
open PySem PySem.Spec PyProof.Rows L2
section
variable {ct : CT} {K : PySem.W.Frag}
/-! ## built-ins at data -/
def cAbs : FD
  | [.int i], S => some (.int (if i < 0 then -i else i), S)
  | _, _ => none
theorem reps1 {m : List Addr} {F : Hp} {d : D} {xs : List V} (r : Reps K ct m F [d] xs) : ∃ v, xs = [v] ∧ Rep K ct m F d v := by
  obtain ⟨v, r', e1, e2, e3⟩ := r
  have e3 : r' = [] := e3
  subst e3
  exact ⟨v, e1, e2⟩
theorem reps2 {m : List Addr} {F : Hp} {d e : D} {xs : List V} (r : Reps K ct m F [d, e] xs) : ∃ v u, xs = [v, u] ∧ Rep K ct m F d v ∧ Rep K ct m F e u := by
  obtain ⟨v, r', e1, e2, e3⟩ := r
  obtain ⟨u, e4, e5⟩ := reps1 e3
  subst e4
  exact ⟨v, u, e1, e2, e5⟩
theorem cd_abs : CallD ct K (fun xs H Q => ∃ i, xs = [.int i] ∧ Q (.int (if i < 0 then -i else i)) H) cAbs := by
  intro m F S H xs ds d S' Q s r h p
  unfold cAbs at h
  split at h
  · cases h
    obtain ⟨v, e1, e2⟩ := reps1 r
    have e2 : v = _ := e2
    subst e2
    exact ⟨_, e1, p.now s rfl⟩
  · cases h
def cMax2 : FD
  | [.int i, .int j], S => some (.int (if j > i then j else i), S)
  | _, _ => none
def cMin2 : FD
  | [.int i, .int j], S => some (.int (if j < i then j else i), S)
  | _, _ => none
theorem cd_max2 : CallD ct K (fun xs H Q => ∃ i j, xs = [.int i, .int j] ∧ Q (.int (if j > i then j else i)) H) cMax2 := by
  intro m F S H xs ds d S' Q s r h p
  unfold cMax2 at h
  split at h
  · cases h
    obtain ⟨v, u, e1, e2, e3⟩ := reps2 r
    have e2 : v = _ := e2
    have e3 : u = _ := e3
    subst e2 e3
    exact ⟨_, _, e1, p.now s rfl⟩
  · cases h
theorem cd_min2 : CallD ct K (fun xs H Q => ∃ i j, xs = [.int i, .int j] ∧ Q (.int (if j < i then j else i)) H) cMin2 := by
  intro m F S H xs ds d S' Q s r h p
  unfold cMin2 at h
  split at h
  · cases h
    obtain ⟨v, u, e1, e2, e3⟩ := reps2 r
    have e2 : v = _ := e2
    have e3 : u = _ := e3
    subst e2 e3
    exact ⟨_, _, e1, p.now s rfl⟩
  · cases h
/-- int(n), int(flag), int(text) -/
def cInt : FD
  | [.int i], S => some (.int i, S)
  | [.bl b], S => some (.int (if b then 1 else 0), S)
  | [.str x], S => if x.length ≤ 640 then (PySem.intText? x).map fun n => (.int n, S) else none
  | _, _ => none
def rInt : List V → Hp → VK → Prop := fun xs H Q => ((∃ i, xs = [.int i] ∧ Q (.int i) H) ∨ ∃ k, xs = [.bl k] ∧ Q (.int (if k then 1 else 0)) H) ∨ ∃ a n, xs = [.str a] ∧ PySem.intText? a = some n ∧ a.length ≤ 640 ∧ Q (.int n) H
theorem call_intAll {X : Cx} : CallR X (.type "int") rInt := call_int1.or call_int_str
theorem cd_int : CallD ct K rInt cInt := by
  intro m F S H xs ds d S' Q s r h p
  unfold cInt at h
  split at h
  · cases h
    obtain ⟨v, e1, e2⟩ := reps1 r
    have e2 : v = _ := e2
    subst e2
    exact .inl (.inl ⟨_, e1, p.now s rfl⟩)
  · cases h
    obtain ⟨v, e1, e2⟩ := reps1 r
    have e2 : v = _ := e2
    subst e2
    exact .inl (.inr ⟨_, e1, p.now s rfl⟩)
  · split at h
    · rename_i hl
      obtain ⟨n, h1, h2⟩ := map_some h
      cases h2
      obtain ⟨v, e1, e2⟩ := reps1 r
      have e2 : v = _ := e2
      subst e2
      exact .inr ⟨_, n, e1, h1, hl, p.now s rfl⟩
    · cases h
  · cases h
def cStr : FD
  | [.int i], S => if i.natAbs.log2 < 1920 then some (.str (toString i), S) else none
  | _, _ => none
theorem cd_str : CallD ct K (fun xs H Q => ∃ i : Int, xs = [.int i] ∧ i.natAbs.log2 < 1920 ∧ Q (.str (toString i)) H) cStr := by
  intro m F S H xs ds d S' Q s r h p
  unfold cStr at h
  split at h
  · split at h
    · rename_i hl
      cases h
      obtain ⟨v, e1, e2⟩ := reps1 r
      have e2 : v = _ := e2
      subst e2
      exact ⟨_, e1, hl, p.now s rfl⟩
    · cases h
  · cases h
def cLen : FD
  | [.str x], S => if x.length ≤ 16777216 then some (.int x.length, S) else none
  | [.tup ds], S => some (.int ds.length, S)
  | [.lst ds], S => some (.int ds.length, S)
  | [.scr ns], S => some (.int ns.length, S)
  | [.ref k], S => match S[k]? with
    | some (.lst ds) => some (.int ds.length, S)
    | _ => none
  | _, _ => none
def rLenAll (K : PySem.W.Frag) : List V → Hp → VK → Prop := fun xs H Q => (∃ p ys, xs = [.ref p] ∧ (SqL K H p ys ∨ SqT K H p ys) ∧ Q (.int ys.length) H) ∨ ∃ z, xs = [.str z] ∧ z.length ≤ sizeLine ∧ Q (.int z.length) H
theorem call_lenAll {X : Cx} : CallR X (.builtin "len") (rLenAll X.K) := call_len_seq.or call_len_str
theorem cd_len : CallD ct K (rLenAll K) cLen := by
  intro m F S H xs ds d S' Q s r h p
  unfold cLen at h
  split at h
  · split at h
    · rename_i hl
      cases h
      obtain ⟨v, e1, e2⟩ := reps1 r
      have e2 : v = _ := e2
      subst e2
      exact .inr ⟨_, e1, by rw [line_eq]; exact hl, p.now s rfl⟩
    · cases h
  · cases h
    obtain ⟨v, e1, a, vs, e2, e3, e4⟩ := reps1 r
    subst e2
    exact .inl ⟨a, vs, e1, .inr (sqT_mono s.same e3), by rw [← e4.length]; exact p.now s rfl⟩
  · cases h
    obtain ⟨v, e1, a, vs, e2, e3, e4⟩ := reps1 r
    subst e2
    exact .inl ⟨a, vs, e1, .inl (SqL.of (s.same _ _ e3)), by rw [← e4.length]; exact p.now s rfl⟩
  · cases h
    obtain ⟨v, e1, a, e2, e3⟩ := reps1 r
    subst e2
    exact .inl ⟨a, _, e1, .inl (s.same.seq e3), by rw [List.length_map]; exact p.now s rfl⟩
  · split at h
    · rename_i es hk
      cases h
      obtain ⟨v, e1, a, e2, e3⟩ := reps1 r
      subst e3
      obtain ⟨vs, q1, q2⟩ := s.cell _ a _ e2 hk
      exact .inl ⟨a, vs, e1, .inl (SqL.of q1), by rw [← q2.length]; exact p.now s rfl⟩
    · cases h
  · cases h
/-- any, all of a list of bools -/
def asBools : List D → Option (List Bool)
  | [] => some []
  | .bl b :: ds => (asBools ds).map fun bs => b :: bs
  | _ => none
theorem Reps.bools {m : List Addr} {F : Hp} : ∀ {ds : List D} {vs : List V} {bs : List Bool}, Reps K ct m F ds vs → asBools ds = some bs → vs = bs.map V.bl
  | [], _, _, r, h => by
    have r : _ = _ := r
    subst r
    cases h
    rfl
  | .bl b :: ds, _, _, r, h => by
    obtain ⟨v, vr, e1, e2, e3⟩ := r
    obtain ⟨cs, h1, h2⟩ := map_some (show (asBools ds).map _ = _ from h)
    have e2 : v = _ := e2
    subst e1 h2 e2
    rw [Reps.bools e3 h1]
    rfl
  | .non :: ds, _, _, r, h => by cases h
  | .int _ :: ds, _, _, r, h => by cases h
  | .str _ :: ds, _, _, r, h => by cases h
  | .tup _ :: ds, _, _, r, h => by cases h
  | .lst _ :: ds, _, _, r, h => by cases h
  | .dct _ _ :: ds, _, _, r, h => by cases h
  | .scr _ :: ds, _, _, r, h => by cases h
  | .ref _ :: ds, _, _, r, h => by cases h
  | .obj _ _ _ :: ds, _, _, r, h => by cases h
def cAny : FD
  | [.lst ds], S => (asBools ds).map fun bs => (.bl (bs.any id), S)
  | _, _ => none
def cAll : FD
  | [.lst ds], S => (asBools ds).map fun bs => (.bl (bs.all id), S)
  | _, _ => none
theorem cd_any : CallD ct K (rAny K) cAny := by
  intro m F S H xs ds d S' Q s r h p
  unfold cAny at h
  split at h
  · obtain ⟨bs, h1, h2⟩ := map_some h
    cases h2
    obtain ⟨v, e1, a, vs, e2, e3, e4⟩ := reps1 r
    subst e2
    have e5 := e4.bools h1
    subst e5
    exact ⟨a, bs, e1, SqL.of (s.same _ _ e3), p.now s rfl⟩
  · cases h
theorem cd_all : CallD ct K (rAll K) cAll := by
  intro m F S H xs ds d S' Q s r h p
  unfold cAll at h
  split at h
  · obtain ⟨bs, h1, h2⟩ := map_some h
    cases h2
    obtain ⟨v, e1, a, vs, e2, e3, e4⟩ := reps1 r
    subst e2
    have e5 := e4.bools h1
    subst e5
    exact ⟨a, bs, e1, SqL.of (s.same _ _ e3), p.now s rfl⟩
  · cases h
/-- ints of a list -/
def asInts : List D → Option (List Int)
  | [] => some []
  | .int b :: ds => (asInts ds).map fun bs => b :: bs
  | _ => none
theorem Reps.asInts {m : List Addr} {F : Hp} : ∀ {ds : List D} {vs : List V} {bs : List Int}, Reps K ct m F ds vs → asInts ds = some bs → vs = bs.map V.int
  | [], _, _, r, h => by
    have r : _ = _ := r
    subst r
    cases h
    rfl
  | .int b :: ds, _, _, r, h => by
    obtain ⟨v, vr, e1, e2, e3⟩ := r
    obtain ⟨cs, h1, h2⟩ := map_some (show (DL.asInts ds).map _ = _ from h)
    have e2 : v = _ := e2
    subst e1 h2 e2
    rw [Reps.asInts e3 h1]
    rfl
  | .non :: ds, _, _, r, h => by cases h
  | .bl _ :: ds, _, _, r, h => by cases h
  | .str _ :: ds, _, _, r, h => by cases h
  | .tup _ :: ds, _, _, r, h => by cases h
  | .lst _ :: ds, _, _, r, h => by cases h
  | .dct _ _ :: ds, _, _, r, h => by cases h
  | .scr _ :: ds, _, _, r, h => by cases h
  | .ref _ :: ds, _, _, r, h => by cases h
  | .obj _ _ _ :: ds, _, _, r, h => by cases h
def cSum : FD
  | [.lst ds], S => (asInts ds).map fun bs => (.int bs.sum, S)
  | _, _ => none
theorem cd_sum : CallD ct K (rSum K) cSum := by
  intro m F S H xs ds d S' Q s r h p
  unfold cSum at h
  split at h
  · obtain ⟨bs, h1, h2⟩ := map_some h
    cases h2
    obtain ⟨v, e1, a, vs, e2, e3, e4⟩ := reps1 r
    subst e2
    have e5 := e4.asInts h1
    subst e5
    exact ⟨a, bs, e1, SqL.of (s.same _ _ e3), p.now s rfl⟩
  · cases h
/-- list(xs), list(t) -/
def cList : FD
  | [.lst ds], S => some (.lst ds, S)
  | [.tup ds], S => some (.lst ds, S)
  | _, _ => none
theorem cd_list : CallD ct K (fun xs H Q => ∃ p ys, xs = [.ref p] ∧ (SqL K H p ys ∨ SqT K H p ys) ∧ ∀ l, H l = none → Q (.ref l) (upd H l (.lst ys))) cList := by
  intro m F S H xs ds d S' Q s r h p
  unfold cList at h
  split at h
  · cases h
    obtain ⟨v, e1, a, vs, e2, e3, e4⟩ := reps1 r
    subst e2
    refine ⟨a, vs, e1, .inl (SqL.of (s.same _ _ e3)), fun q hq => ?_⟩
    obtain ⟨s2, x2⟩ := s.frozen hq (.lst vs)
    exact p m _ (.ref q) _ x2 s2 ⟨q, _, rfl, upd_same, e4.mono x2⟩
  · cases h
    obtain ⟨v, e1, a, vs, e2, e3, e4⟩ := reps1 r
    subst e2
    refine ⟨a, vs, e1, .inr (sqT_mono s.same e3), fun q hq => ?_⟩
    obtain ⟨s2, x2⟩ := s.frozen hq (.lst vs)
    exact p m _ (.ref q) _ x2 s2 ⟨q, _, rfl, upd_same, e4.mono x2⟩
  · cases h
/-- tuple(xs) -/
def cTuple : FD
  | [.lst ds], S => some (.tup ds, S)
  | [.tup ds], S => some (.tup ds, S)
  | _, _ => none
theorem cd_tuple : CallD ct K (fun xs H Q => ∃ p ys, xs = [.ref p] ∧ ((SqL K H p ys ∧ ∀ l, H l = none → Q (.ref l) (upd H l (.tup ys))) ∨ (SqT K H p ys ∧ Q (.ref p) H))) cTuple := by
  intro m F S H xs ds d S' Q s r h p
  unfold cTuple at h
  split at h
  · cases h
    obtain ⟨v, e1, a, vs, e2, e3, e4⟩ := reps1 r
    subst e2
    refine ⟨a, vs, e1, .inl ⟨SqL.of (s.same _ _ e3), fun q hq => ?_⟩⟩
    obtain ⟨s2, x2⟩ := s.frozen hq (.tup vs)
    exact p m _ (.ref q) _ x2 s2 ⟨q, _, rfl, SqT.of upd_same, e4.mono x2⟩
  · cases h
    obtain ⟨v, e1, a, vs, e2, e3, e4⟩ := reps1 r
    subst e2
    exact ⟨a, vs, e1, .inr ⟨sqT_mono s.same e3, p.now s ⟨a, vs, rfl, e3, e4⟩⟩⟩
  · cases h
end
/-! ## isinstance with a built-in class -/
section
variable {ct : CT} {X : Cx} {e : Expr} {f : FE}
def isiT : String → D → Option Bool
  | "int", .int _ => some true
  | "int", .bl _ => some true
  | "int", .non => some false
  | "int", .str _ => some false
  | "int", .tup _ => some false
  | "int", .lst _ => some false
  | "int", .dct _ _ => some false
  | "bool", .bl _ => some true
  | "bool", .int _ => some false
  | "bool", .non => some false
  | "bool", .str _ => some false
  | "bool", .tup _ => some false
  | "bool", .lst _ => some false
  | "bool", .dct _ _ => some false
  | "str", .str _ => some true
  | "str", .int _ => some false
  | "str", .bl _ => some false
  | "str", .non => some false
  | "str", .tup _ => some false
  | "str", .lst _ => some false
  | "str", .dct _ _ => some false
  | "tuple", .tup _ => some true
  | "tuple", .int _ => some false
  | "tuple", .bl _ => some false
  | "tuple", .non => some false
  | "tuple", .str _ => some false
  | "tuple", .lst _ => some false
  | "tuple", .dct _ _ => some false
  | _, _ => none
def tyN : D → String
  | .non => "NoneType"
  | .bl _ => "bool"
  | .int _ => "int"
  | .str _ => "str"
  | .tup _ => "tuple"
  | .lst _ => "list"
  | .dct _ _ => "dict"
  | _ => ""
theorem tyX_of {K : PySem.W.Frag} {m : List Addr} {F H : Hp} (e : Same F H) {d : D} {v : V} (r : Rep K ct m F d v) (h : tyN d ≠ "") : TyX K H v (.type (tyN d)) := by
  cases d with
  | non => have r : v = _ := r; subst r; exact .base .non
  | bl b => have r : v = _ := r; subst r; exact .base (.bl b)
  | int b => have r : v = _ := r; subst r; exact .base (.int b)
  | str b => have r : v = _ := r; subst r; exact .base (.str b)
  | tup ds =>
    obtain ⟨a, vs, e1, e2, _⟩ := r
    subst e1
    rcases sqT_mono e e2 with (q | ⟨o, q⟩) | ⟨o, its, n, q1, q2, _⟩
    · exact .base (.tup q)
    · exact .fTuple q
    · exact .kTuple q1 q2
  | lst ds =>
    obtain ⟨a, vs, e1, e2, _⟩ := r
    subst e1
    exact .base (.lst (e _ _ e2))
  | dct ks ds =>
    obtain ⟨a, vs, e1, e2, _⟩ := r
    subst e1
    exact .base (.dK (e _ _ e2))
  | scr _ => exact absurd rfl h
  | ref _ => exact absurd rfl h
  | obj _ _ _ => exact absurd rfl h
theorem isiT_kit {T : String} {d : D} {b : Bool} (h : isiT T d = some b) : kitB (tyN d) T = some b ∧ tyN d ≠ "" := by
  unfold isiT at h
  split at h <;> first
    | (cases h; refine ⟨?_, ?_⟩ <;> (dsimp only [tyN]; decide +kernel))
    | cases h
def fIsi (T : String) (f : FE) : FE := fun env S => (f env S).bind fun p => (isiT T p.1).map fun b => (.bl b, p.2)
theorem se_isi {T : String} {x : Str} {p q pos : Pos} (hg : Gl X "isinstance") (hm : X.mg "isinstance" = none) (he : SE ct X e f) (hg2 : Gl X x) (hm2 : X.mg x = none) (hv2 : bootBuiltins x = some (.type T)) (hn2 : x ≠ "__name__" := by decide) (hd2 : (x == ("__debug__" : Str)) = false := by decide)
    (hs : starEach [e, .Name x q] X.env = (false, eval e X.env) :: starEach [.Name x q] X.env := by rfl) (hs2 : starEach [.Name x q] X.env = (false, eval (.Name x q) X.env) :: starEach [] X.env := by rfl)
    (hpl : (backTo pos (starEach [.Name x q] X.env)).any (·.1) = false := by rfl) : SE ct X (.Call (.Name "isinstance" p) [e, .Name x q] [] pos) (fIsi T f) := by
  obtain ⟨ta, pa, ra⟩ := he
  refine ⟨_, pe_callB call_isi hg hm (by decide +kernel) (pa_cons pa (pa_cons (pe_bltn (v := .ty T) hg2 hm2 hv2 rfl hn2 hd2) pa_nil hs2) hs) (by decide) (by decide) hs hpl, fun m F S σ H env d S' Q s en h p => ?_⟩
  obtain ⟨⟨z, S1⟩, h1, h⟩ := bind_some h
  obtain ⟨b, h2, h3⟩ := map_some h
  cases h3
  refine ra m F S σ H env z S1 _ s en h1 fun m1 F1 v1 H1 x1 s1 r1 => ?_
  obtain ⟨k1, k2⟩ := isiT_kit h2
  exact ⟨v1, .ty T, .type (tyN z), .type T, b, rfl, .ty T, tyX_of s1.same r1 k2, kit_ty k1, (p.ext x1).now s1 rfl⟩
end
/-! ## slices -/
section
variable {ct : CT} {X : Cx} {a b c e : Expr} {es : List Expr} {fa fb fc f : FE}
abbrev FO := DEnv → Sto → Option (Option Int × Sto)
def SO (ct : CT) (X : Cx) (e : Option Expr) (f : FO) : Prop := ∃ t, PO X e t ∧ ∀ m F S σ H env o S' Q, Sim X.K ct m F S H → EnvR X.K ct m F env σ → f env S = some (o, S') → (∀ m' F' H', Ext m F H m' F' H' → Sim X.K ct m' F' S' H' → Q o H') → t σ H Q
def oNone : FO := fun _ S => some (none, S)
def oSome (f : FE) : FO := fun env S => (f env S).bind fun p => match p.1 with
  | .int i => some (some i, p.2)
  | _ => none
theorem so_none : SO ct X none oNone := ⟨_, po_none, fun m F S σ H env o S' Q s en h q => by
  cases h
  exact q m F H (Ext.refl _ _ _) s⟩
theorem so_some (h : SE ct X e f) : SO ct X (some e) (oSome f) := by
  obtain ⟨ta, pa, ra⟩ := h
  refine ⟨_, po_some pa, fun m F S σ H env o S' Q s en h q => ?_⟩
  obtain ⟨⟨z, S1⟩, h1, h⟩ := bind_some h
  refine ra m F S σ H env z S1 _ s en h1 fun m1 F1 v1 H1 x1 s1 r1 => ?_
  cases z with
  | int i => cases h; exact ⟨i, r1, q m1 F1 H1 x1 s1⟩
  | _ => cases h
def cutD {α : Type} (xs : List α) (lo hi : Option Int) : List α := (xs.drop (HT.sIx xs.length 0 lo)).take (HT.sIx xs.length xs.length hi - HT.sIx xs.length 0 lo)
def gSl : D → Option Int → Option Int → Sto → Option (D × Sto)
  | .lst ds, lo, hi, S => some (.lst (cutD ds lo hi), S)
  | .scr ns, lo, hi, S => some (.lst ((cutD ns lo hi).map .int), S)
  | .tup ds, lo, hi, S => if HT.sIx ds.length 0 lo = 0 ∧ HT.sIx ds.length ds.length hi = ds.length then none else some (.tup (cutD ds lo hi), S)
  | .str z, lo, hi, S => if z.length ≤ 16777216 then some (.str (cutS z lo hi), S) else none
  | _, _, _, _ => none
def rSlAll (K : PySem.W.Frag) : V → Option Int → Option Int → Hp → VK → Prop := fun x lo hi H Q => rSlL K x lo hi H Q ∨ (rSlT K x lo hi H Q ∨ rSlS x lo hi H Q)
theorem sl_all : SlR X (rSlAll X.K) := sl_list.or (sl_tup.or sl_str)
def fSl (fa : FE) (lo hi : FO) : FE := fun env S => (fa env S).bind fun p => (lo env p.2).bind fun q => (hi env q.2).bind fun r => gSl p.1 q.1 r.1 r.2
theorem cutD_reps {K : PySem.W.Frag} {m : List Addr} {F : Hp} {ds : List D} {vs : List V} (r : Reps K ct m F ds vs) (lo hi : Option Int) : Reps K ct m F (cutD ds lo hi) (cutV vs lo hi) := by
  unfold cutD cutV
  rw [← r.length]
  exact (r.drop _).take _
theorem se_slice {lo hi : Option Expr} {fl fh : FO} {p2 pos : Pos} (he : SE ct X a fa) (hl : SO ct X lo fl) (hh : SO ct X hi fh) : SE ct X (.Subscript a (.Slice lo hi none p2) pos) (fSl fa fl fh) := by
  obtain ⟨ta, pa, ra⟩ := he
  obtain ⟨tb, pb, rb⟩ := hl
  obtain ⟨tc, pc, rc⟩ := hh
  refine ⟨_, pe_slice sl_all pa pb pc, fun m F S σ H env d S' Q s en h p => ?_⟩
  obtain ⟨⟨z, S1⟩, h1, h⟩ := bind_some h
  obtain ⟨⟨i, S2⟩, h2, h⟩ := bind_some h
  obtain ⟨⟨j, S3⟩, h3, h⟩ := bind_some h
  refine ra m F S σ H env z S1 _ s en h1 fun m1 F1 v1 H1 x1 s1 r1 => ?_
  refine rb m1 F1 S1 σ H1 env i S2 _ s1 (en.mono x1) h2 fun m2 F2 H2 x2 s2 => ?_
  refine rc m2 F2 S2 σ H2 env j S3 _ s2 ((en.mono x1).mono x2) h3 fun m3 F3 H3 x3 s3 => ?_
  have p3 := ((p.ext x1).ext x2).ext x3
  have r3 := (r1.mono x2).mono x3
  cases z with
  | lst ds =>
    cases h
    obtain ⟨q, vs, e1, e2, e3⟩ := r3
    refine .inl ⟨q, vs, e1, SqL.of (s3.same _ _ e2), fun w hw => ?_⟩
    obtain ⟨s4, x4⟩ := s3.frozen hw (.lst (cutV vs i j))
    exact p3 _ _ (.ref w) _ x4 s4 ⟨w, _, rfl, upd_same, (cutD_reps e3 i j).mono x4⟩
  | scr ns =>
    cases h
    obtain ⟨q, e1, e2⟩ := r3
    refine .inl ⟨q, _, e1, s3.same.seq e2, fun w hw => ?_⟩
    obtain ⟨s4, x4⟩ := s3.frozen hw (.lst (cutV (ns.map V.int) i j))
    refine p3 _ _ (.ref w) _ x4 s4 ⟨w, _, rfl, upd_same, ?_⟩
    have := cutD_reps (K := X.K) (ct := ct) (m := m3) (F := upd F3 w (.lst (cutV (ns.map V.int) i j))) (Reps.ints ns) i j
    have e : cutD (ns.map D.int) i j = (cutD ns i j).map D.int := by
      unfold cutD
      rw [List.length_map, List.map_take, List.map_drop]
    rw [e] at this
    exact this
  | tup ds =>
    have h : (if HT.sIx ds.length 0 i = 0 ∧ HT.sIx ds.length ds.length j = ds.length then none else some (D.tup (cutD ds i j), S3)) = some (d, S') := h
    split at h
    · cases h
    · rename_i hw
      cases h
      obtain ⟨q, vs, e1, e2, e3⟩ := r3
      refine .inr (.inl ⟨q, vs, e1, sqT_mono s3.same e2, by rw [← e3.length]; exact hw, fun w hw => ?_⟩)
      obtain ⟨s4, x4⟩ := s3.frozen hw (.tup (cutV vs i j))
      exact p3 _ _ (.ref w) _ x4 s4 ⟨w, _, rfl, SqT.of upd_same, (cutD_reps e3 i j).mono x4⟩
  | str z =>
    have h : (if z.length ≤ 16777216 then some (D.str (cutS z i j), S3) else none) = some (d, S') := h
    split at h
    · rename_i hl
      cases h
      exact .inr (.inr ⟨_, r3, by rw [line_eq]; exact hl, p3.now s3 rfl⟩)
    · cases h
  | _ => cases h
end
/-! ## what is walked -/
section
variable {ct : CT} {X : Cx} {tg a b c e : Expr} {es : List Expr} {fa fb fc f : FE} {fas : FA}
/-- a list -/
def iLst (f : FE) : FA := fun env S => (f env S).bind fun p => match p.1 with
  | .lst ds => some (ds, p.2)
  | _ => none
theorem si_list (h : SE ct X e f) : SI ct X tg e (iLst f) := by
  obtain ⟨ta, pa, ra⟩ := h
  refine ⟨_, pi_list pa, fun m F S σ H env items S' R s en h p => ?_⟩
  obtain ⟨⟨z, S1⟩, h1, h⟩ := bind_some h
  refine ra m F S σ H env z S1 _ s en h1 fun m1 F1 v1 H1 x1 s1 r1 => ?_
  cases z with
  | lst ds =>
    cases h
    obtain ⟨q, vs, e1, e2, e3⟩ := r1
    refine ⟨q, e1, ⟨vs, SqL.of (s1.same _ _ e2)⟩, p m1 F1 _ H1 x1 s1 fun i m2 F2 S2 H2 x2 s2 => ?_⟩
    have hq : SqL X.K H2 q vs := SqL.of (s2.same _ _ (x2.same _ _ e2))
    refine ⟨fun d hd => ?_, fun hl => ⟨vs, hq, by rw [← e3.length]; omega⟩⟩
    obtain ⟨v, g1, g2⟩ := e3.get hd
    refine ⟨⟨vs, v, hq, g1⟩, fun x H' y => ?_⟩
    obtain ⟨y1, y2⟩ := y
    subst y1
    have := y2 vs hq
    rw [g1] at this
    cases this
    exact ⟨F2, Ext.refl _ _ _, s2, g2.mono x2⟩
  | _ => cases h
/-- a tuple -/
def iTup (f : FE) : FA := fun env S => (f env S).bind fun p => match p.1 with
  | .tup ds => some (ds, p.2)
  | _ => none
theorem si_tup (h : SE ct X e f) : SI ct X tg e (iTup f) := by
  obtain ⟨ta, pa, ra⟩ := h
  refine ⟨_, pi_tup pa, fun m F S σ H env items S' R s en h p => ?_⟩
  obtain ⟨⟨z, S1⟩, h1, h⟩ := bind_some h
  refine ra m F S σ H env z S1 _ s en h1 fun m1 F1 v1 H1 x1 s1 r1 => ?_
  cases z with
  | tup ds =>
    cases h
    obtain ⟨q, vs, e1, e2, e3⟩ := r1
    refine ⟨q, e1, ⟨vs, sqT_mono s1.same e2⟩, p m1 F1 _ H1 x1 s1 fun i m2 F2 S2 H2 x2 s2 => ?_⟩
    have hq : SqT X.K H2 q vs := sqT_mono s2.same (sqT_mono x2.same e2)
    refine ⟨fun d hd => ?_, fun hl => ⟨vs, hq, by rw [← e3.length]; omega⟩⟩
    obtain ⟨v, g1, g2⟩ := e3.get hd
    refine ⟨⟨vs, v, hq, g1⟩, fun x H' y => ?_⟩
    obtain ⟨y1, y2⟩ := y
    subst y1
    have := y2 vs hq
    rw [g1] at this
    cases this
    exact ⟨F2, Ext.refl _ _ _, s2, g2.mono x2⟩
  | _ => cases h
/-- range(n), range(a, b) -/
def rangeD (lo hi : Int) : List D := (List.range (hi - lo).toNat).map fun (k : Nat) => D.int (lo + k)
def okR (i : Int) : Bool := decide (-4611686018427387904 ≤ i) && decide (i < 4611686018427387904)
def iRange1 (fas : FA) : FA := fun env S => (fas env S).bind fun p => match p.1 with
  | [.int j] => if okR j = true then some (rangeD 0 j, p.2) else none
  | _ => none
def iRange2 (fas : FA) : FA := fun env S => (fas env S).bind fun p => match p.1 with
  | [.int i, .int j] => if okR i = true ∧ okR j = true then some (rangeD i j, p.2) else none
  | _ => none
theorem itr_ok {K : PySem.W.Frag} {m0 : List Addr} {F0 H0 : Hp} (lo hi : Int) {n : Nat} (hn : n = (hi - lo).toNat) : ItOk ct K m0 F0 H0 (rangeD lo hi) (Itr lo n) := by
  subst hn
  intro i m F S H x s
  have hl : (rangeD lo hi).length = (hi - lo).toNat := by simp [rangeD]
  refine ⟨fun d hd => ?_, fun h => ?_⟩
  · have hi : i < (rangeD lo hi).length := (List.getElem?_eq_some_iff.mp hd).1
    rw [hl] at hi
    refine ⟨hi, fun v H' y => ?_⟩
    obtain ⟨y1, y2⟩ := y
    subst y1 y2
    refine ⟨F, Ext.refl _ _ _, s, ?_⟩
    have e : d = .int (lo + i) := by
      unfold rangeD at hd
      rw [List.getElem?_map, List.getElem?_range hi] at hd
      cases hd
      rfl
    subst e
    rfl
  · rw [hl] at h
    show _ ≤ i
    omega
theorem okR_ok {i : Int} (h : okR i = true) : -(2 ^ 62) ≤ i ∧ i < 2 ^ 62 := by
  simp only [okR, Bool.and_eq_true, decide_eq_true_eq] at h
  exact h
theorem si_range1 {p pos : Pos} (hg : Gl X "range") (hm : X.mg "range" = none) (h : SA ct X [a] fas) (hs : starEach [a] X.env = [(false, eval a X.env)] := by rfl) : SI ct X tg (.Call (.Name "range" p) [a] [] pos) (iRange1 fas) := by
  obtain ⟨ta, pa, ra⟩ := h
  refine ⟨_, pi_range1 hg hm pa hs, fun m F S σ H env items S' R s en h p => ?_⟩
  obtain ⟨⟨zs, S1⟩, h1, h⟩ := bind_some h
  refine ra m F S σ H env zs S1 _ s en h1 fun m1 F1 vs H1 x1 s1 r1 => ?_
  split at h
  · rename_i j hz
    have hz : zs = _ := hz
    subst hz
    split at h
    · rename_i hj
      cases h
      obtain ⟨v, e1, e2⟩ := reps1 r1
      have e2 : v = _ := e2
      subst e2
      exact ⟨j, e1, (okR_ok hj).1, (okR_ok hj).2, p m1 F1 _ H1 x1 s1 (itr_ok 0 j (by simp))⟩
    · cases h
  · cases h
theorem si_range2 {p pos : Pos} (hg : Gl X "range") (hm : X.mg "range" = none) (h : SA ct X [a, b] fas) (hs : starEach [a, b] X.env = [(false, eval a X.env), (false, eval b X.env)] := by rfl) (hs2 : starEach [b] X.env = [(false, eval b X.env)] := by rfl) : SI ct X tg (.Call (.Name "range" p) [a, b] [] pos) (iRange2 fas) := by
  obtain ⟨ta, pa, ra⟩ := h
  refine ⟨_, pi_range2 hg hm pa hs hs2, fun m F S σ H env items S' R s en h p => ?_⟩
  obtain ⟨⟨zs, S1⟩, h1, h⟩ := bind_some h
  refine ra m F S σ H env zs S1 _ s en h1 fun m1 F1 vs H1 x1 s1 r1 => ?_
  split at h
  · rename_i i j hz
    have hz : zs = _ := hz
    subst hz
    split at h
    · rename_i hj
      cases h
      obtain ⟨v, u, e1, e2, e3⟩ := reps2 r1
      have e2 : v = _ := e2
      have e3 : u = _ := e3
      subst e2 e3
      exact ⟨i, j, e1, ⟨(okR_ok hj.1).1, (okR_ok hj.1).2, (okR_ok hj.2).1, (okR_ok hj.2).2⟩, p m1 F1 _ H1 x1 s1 (itr_ok i j rfl)⟩
    · cases h
  · cases h
/-- the signs of a text -/
def iStrD (f : FE) : FA := fun env S => (f env S).bind fun p => match p.1 with
  | .str x => some (x.cps.toList.map fun c => D.str ⟨#[c]⟩, p.2)
  | _ => none
theorem si_str (h : SE ct X e f) : SI ct X tg e (iStrD f) := by
  obtain ⟨ta, pa, ra⟩ := h
  refine ⟨_, pi_str pa, fun m F S σ H env items S' R s en h p => ?_⟩
  obtain ⟨⟨z, S1⟩, h1, h⟩ := bind_some h
  refine ra m F S σ H env z S1 _ s en h1 fun m1 F1 v1 H1 x1 s1 r1 => ?_
  cases z with
  | str x =>
    cases h
    refine ⟨x, r1, p m1 F1 _ H1 x1 s1 fun i m2 F2 S2 H2 x2 s2 => ?_⟩
    refine ⟨fun d hd => ?_, fun hl => ?_⟩
    · rw [List.getElem?_map] at hd
      obtain ⟨c, hc, e⟩ := map_some hd
      subst e
      have hc' : x.cps[i]? = some c := by simpa using hc
      refine ⟨by
        have := (List.getElem?_eq_some_iff.mp hc).1
        show i < x.cps.size
        simpa using this, fun v H' y => ?_⟩
      obtain ⟨y1, c', y2, y3⟩ := y
      subst y1 y3
      rw [hc'] at y2
      cases y2
      exact ⟨F2, Ext.refl _ _ _, s2, rfl⟩
    · show _ ≤ i
      simp at hl
      omega
  | _ => cases h
end
end DL

namespace DL
open PySem PySem.Spec PyProof.Rows L2
/-! ## one reading for each denotation -/
def tE (ct : CT) (K : PySem.W.Frag) (f : FE) : TE := fun σ H Q => ∃ m F S env d S', Sim K ct m F S H ∧ EnvR K ct m F env σ ∧ f env S = some (d, S') ∧ PostE ct K m F H S' d Q
def tT (ct : CT) (K : PySem.W.Frag) (f : FT) : TT := fun σ H Q => ∃ m F S env b S', Sim K ct m F S H ∧ EnvR K ct m F env σ ∧ f env S = some (b, S') ∧ PostT ct K m F H S' b Q
theorem SE.pe {ct : CT} {X : Cx} {e : Expr} {f : FE} (h : SE ct X e f) : PE X e (tE ct X.K f) := by
  obtain ⟨t, p, r⟩ := h
  exact ⟨fun pins s σ H Q I ⟨m, F, S, env, d, S', s1, en, h1, p1⟩ => p.run pins s σ H Q I (r m F S σ H env d S' Q s1 en h1 p1)⟩
def STs (ct : CT) (X : Cx) (ifs : List Expr) (f : FT) : Prop := ∃ t, PTs X ifs t ∧ ∀ m F S σ H env b S' Q, Sim X.K ct m F S H → EnvR X.K ct m F env σ → f env S = some (b, S') → PostT ct X.K m F H S' b Q → t σ H Q
theorem STs.pt {ct : CT} {X : Cx} {es : List Expr} {f : FT} (h : STs ct X es f) : PTs X es (tT ct X.K f) := by
  obtain ⟨t, p, r⟩ := h
  exact ⟨fun pins s σ H Q I ⟨m, F, S, env, d, S', s1, en, h1, p1⟩ => p.run pins s σ H Q I (r m F S σ H env d S' Q s1 en h1 p1)⟩
def tYesD : FT := fun _ S => some (true, S)
theorem sts_nil {ct : CT} {X : Cx} : STs ct X [] tYesD := ⟨_, pts_nil, fun m F S σ H env b S' Q s en h p => by
  cases h
  exact p m F H (Ext.refl _ _ _) s⟩
theorem sts_one {ct : CT} {X : Cx} {e : Expr} {f : FT} (h : ST ct X e f) : STs ct X [e] f := by
  obtain ⟨t, p, r⟩ := h
  exact ⟨t, pts_one p, r⟩
/-! ## targets of a comprehension -/
def SGw (ct : CT) (X : Cx) (vs : List Nat) (tg : Expr) (g : FG) : Prop := ∃ t, PG X tg t ∧ ∀ m F S σ H env d v env' S' Q, Sim X.K ct m F S H → EnvR X.K ct m F env σ → Rep X.K ct m F d v → g d env S = some (env', S') →
  (∀ m' F' σ' H', Ext m F H m' F' H' → Sim X.K ct m' F' S' H' → EnvR X.K ct m' F' env' σ' → wipe σ' vs = wipe σ vs → Q σ' H') → t v σ H Q
def SGws (ct : CT) (X : Cx) (vs : List Nat) (tgs : List Expr) (g : FGs) : Prop := ∃ t, PGs X tgs t ∧ ∀ m F S σ H env ds us env' S' Q, Sim X.K ct m F S H → EnvR X.K ct m F env σ → Reps X.K ct m F ds us → g ds env S = some (env', S') →
  (∀ m' F' σ' H', Ext m F H m' F' H' → Sim X.K ct m' F' S' H' → EnvR X.K ct m' F' env' σ' → wipe σ' vs = wipe σ vs → Q σ' H') → t us σ H Q
def tGw (ct : CT) (K : PySem.W.Frag) (vs : List Nat) (g : FG) : TG := fun v σ H Q => ∃ m F S env d env' S', Sim K ct m F S H ∧ EnvR K ct m F env σ ∧ Rep K ct m F d v ∧ g d env S = some (env', S') ∧
  (∀ m' F' σ' H', Ext m F H m' F' H' → Sim K ct m' F' S' H' → EnvR K ct m' F' env' σ' → wipe σ' vs = wipe σ vs → Q σ' H')
theorem SGw.pg {ct : CT} {X : Cx} {vs : List Nat} {tg : Expr} {g : FG} (h : SGw ct X vs tg g) : PG X tg (tGw ct X.K vs g) := by
  obtain ⟨t, p, r⟩ := h
  exact ⟨fun pins s σ H v u Q I rv ⟨m, F, S, env, d, env', S', s1, en, rp, h1, p1⟩ => p.run pins s σ H v u Q I rv (r m F S σ H env d v env' S' Q s1 en rp h1 p1)⟩
theorem set_comm' {α : Type} (l : List α) {i j : Nat} (h : i ≠ j) (a b : α) : (l.set i a).set j b = (l.set j b).set i a := List.set_comm a b h
theorem wipe_out_set {σ : L2.St} {i : Nat} {x : Option V} : ∀ {vs : List Nat}, i ∉ vs → wipe (σ.set i x) vs = (wipe σ vs).set i x
  | [], _ => rfl
  | v :: vs, h => by
    have h1 : i ≠ v := fun e => h (by simp [e])
    have h2 : i ∉ vs := fun e => h (by simp [e])
    unfold wipe
    rw [wipe_out_set h2, set_comm' _ h1]
theorem wipe_set {σ : L2.St} {i : Nat} {x : Option V} : ∀ {vs : List Nat}, i ∈ vs → wipe (σ.set i x) vs = wipe σ vs
  | [], h => by cases h
  | v :: vs, h => by
    unfold wipe
    by_cases hi : i ∈ vs
    · rw [wipe_set hi]
    · have e : i = v := by simpa [hi] using h
      subst e
      rw [wipe_out_set hi, List.set_set]
theorem wipe_idem_sub {σ : L2.St} {us : List Nat} : ∀ {vs : List Nat}, (∀ v ∈ vs, v ∈ us) → wipe (wipe σ vs) us = wipe σ us
  | [], _ => rfl
  | v :: vs, h => by
    show wipe ((wipe σ vs).set v none) us = wipe σ us
    rw [wipe_set (h v (by simp)), wipe_idem_sub fun w hw => h w (by simp [hw])]
theorem wipe_idem {σ : L2.St} {vs : List Nat} : wipe (wipe σ vs) vs = wipe σ vs := wipe_idem_sub fun _ h => h
def wipeD (env : DEnv) : List Nat → DEnv
  | [] => env
  | v :: vs => (wipeD env vs).set v none
theorem EnvR.unset {K : PySem.W.Frag} {ct : CT} {m : List Addr} {F : Hp} {env : DEnv} {σ : L2.St} (h : EnvR K ct m F env σ) (i : Nat) : EnvR K ct m F (env.set i none) (σ.set i none) := by
  refine ⟨by simp [h.1], fun j e hj => ?_⟩
  by_cases e1 : i = j
  · subst e1
    have hl : i < env.length := by
      have := (List.getElem?_eq_some_iff.mp hj).1
      simpa using this
    rw [List.getElem?_set_self hl] at hj
    cases hj
  · rw [List.getElem?_set_ne e1] at hj
    rw [List.getElem?_set_ne e1]
    exact h.2 j e hj
theorem EnvR.wipe {K : PySem.W.Frag} {ct : CT} {m : List Addr} {F : Hp} {env : DEnv} {σ : L2.St} (h : EnvR K ct m F env σ) : ∀ vs : List Nat, EnvR K ct m F (wipeD env vs) (L2.wipe σ vs)
  | [] => h
  | v :: vs => (EnvR.wipe h vs).unset v
section
variable {ct : CT} {X : Cx} {pos : Pos}
theorem sgw_name {vs : List Nat} {i : Nat} {x : Str} (hN : X.N.Nodup) (hi : X.N[i]? = some x) (hx : Loc X.env.scope x) (hv : i ∈ vs) (hf : X.fn x = true ∨ X.env.scope.names.lookup x = some .local := by first | exact .inl rfl | exact .inr rfl | assumption) : SGw ct X vs (.Name x pos) (gN i) :=
  ⟨_, pg_name hN hi hx hf, fun m F S σ H env d v env' S' Q s en r h q => by
    cases h
    exact q m F _ H (Ext.refl _ _ _) s (en.set i r) (wipe_set hv)⟩
theorem sgws_nil {vs : List Nat} : SGws ct X vs [] gNil := ⟨_, pgs_nil, fun m F S σ H env ds us env' S' Q s en r h q => by
  cases ds with
  | nil =>
    cases h
    exact ⟨r, q m F _ H (Ext.refl _ _ _) s en rfl⟩
  | cons _ _ => cases h⟩
theorem sgws_cons {vs : List Nat} {t : Expr} {ts : List Expr} {g : FG} {gs : FGs} (h1 : SGw ct X vs t g) (h2 : SGws ct X vs ts gs) (hs : (assignEach (t :: ts) X.env).map (·.2) = assign t X.env :: (assignEach ts X.env).map (·.2) := by rfl) : SGws ct X vs (t :: ts) (gCons g gs) := by
  obtain ⟨ta, pa, ra⟩ := h1
  obtain ⟨tb, pb, rb⟩ := h2
  refine ⟨_, pgs_cons pa pb hs, fun m F S σ H env ds us env' S' Q s en r h q => ?_⟩
  cases ds with
  | nil => cases h
  | cons d dr =>
    obtain ⟨⟨env1, S1⟩, h1, h⟩ := bind_some h
    obtain ⟨v, vr, e1, r1, r2⟩ := r
    refine ⟨v, vr, e1, ra m F S σ H env d v env1 S1 _ s en r1 h1 fun m1 F1 σ1 H1 x1 s1 en1 w1 => ?_⟩
    exact rb m1 F1 S1 σ1 H1 env1 dr vr env' S' Q s1 en1 (r2.mono x1) h fun m2 F2 σ2 H2 x2 s2 en2 w2 => q m2 F2 σ2 H2 (x1.trans x2) s2 en2 (w2.trans w1)
theorem sgw_tup {vs : List Nat} {ts : List Expr} {k n : Nat} {gs : FGs} (hc : X.calm = true) (h : SGws ct X vs ts gs) (hn : (assignEach ts X.env).length = n := by rfl) (hst : (assignEach ts X.env).findIdx? (·.1) = none := by rfl) : SGw ct X vs (.Tuple ts k pos) (gTup n gs) := by
  obtain ⟨ta, pa, ra⟩ := h
  refine ⟨_, pg_tup hc pa hn hst, fun m F S σ H env d v env' S' Q s en r h q => ?_⟩
  cases d with
  | tup ds =>
    obtain ⟨a, us, e1, e2, e3⟩ := r
    by_cases hl : ds.length = n
    · have h : (if ds.length = n then gs ds env S else none) = some (env', S') := h
      rw [if_pos hl] at h
      exact ⟨a, us, e1, sqT_mono s.same e2, by rw [← e3.length]; exact hl, ra m F S σ H env ds us env' S' Q s en e3 h q⟩
    · have h : (if ds.length = n then gs ds env S else none) = some (env', S') := h
      rw [if_neg hl] at h
      cases h
  | _ => cases h
end
/-! ## hidden objects -/
section
variable {K : PySem.W.Frag} {ct : CT} {m m' m0 : List Addr} {F F' H H' F0 H0 : Hp} {S : Sto} {L : Addr} {o u : HO}
theorem Ext.hid (x : Ext m F H m' F' H') (h : H L = some o) (n : L ∉ m) (f : F L = none) : H' L = some o ∧ L ∉ m' ∧ F' L = none := by
  refine ⟨x.keep _ _ h n, fun hm => ?_, ?_⟩
  · rcases x.new _ hm with q | q
    · exact n q
    · rw [h] at q; cases q
  · cases e : F' L with
    | none => rfl
    | some z =>
      rcases x.fnew _ _ e with q | q
      · rw [f] at q; cases q
      · rw [h] at q; cases q
theorem Sim.hidden (s : Sim K ct m F S H) (n : L ∉ m) (f : F L = none) (o : HO) : Sim K ct m F S (upd H L o) := by
  refine ⟨fun b z h => ?_, s.len, s.nd, s.off, fun i a c h1 h2 => ?_⟩
  · have nb : b ≠ L := fun e => by rw [e, f] at h; cases h
    rw [upd_ne nb]; exact s.same _ _ h
  · have hm : a ∈ m := List.mem_iff_getElem?.mpr ⟨i, h1⟩
    have na : a ≠ L := fun e => n (e ▸ hm)
    rw [upd_ne na]; exact s.cell i a c h1 h2
theorem Ext.put (x : Ext m0 F0 H0 m F H) (h : H0 L = none) (o : HO) : Ext m0 F0 H0 m F (upd H L o) := by
  refine ⟨x.pre, x.same, fun b z q n => ?_, x.new, x.fnew, fun b z q => ?_⟩
  · rw [upd_ne (ne_of_none q h)]; exact x.keep b z q n
  · rw [upd_ne (ne_of_none q h)]; exact x.grow b z q
theorem CellR.mono' {o : Option HO} {c : Cell} (h : CellR K ct m F o c) (hp : ∀ (i : Nat) (a : Addr), m[i]? = some a → m'[i]? = some a) (e : Same F F') : CellR K ct m' F' o c := by
  cases c with
  | lst ds => obtain ⟨vs, e1, e2⟩ := h; exact ⟨vs, e1, Reps.mono' hp e _ _ e2⟩
  | dct kvs => obtain ⟨vs, e1, e2⟩ := h; exact ⟨vs, e1, Paired.mapP e2 fun p q z => ⟨z.1, Rep.mono' hp e _ _ z.2⟩⟩
  | ins c fs ds => obtain ⟨C, dx, vs, e1, e4, e3, e2⟩ := h; exact ⟨C, dx, vs, e1, e4, e3, Reps.mono' hp e _ _ e2⟩
theorem same_upd (f : F L = none) (o : HO) : Same F (upd F L o) := fun b z q => by
  have nb : b ≠ L := fun e => by rw [e, f] at q; cases q
  rw [upd_ne nb]; exact q
theorem Sim.freeze (s : Sim K ct m F S H) (n : L ∉ m) (f : F L = none) (h : H L = some o) : Sim K ct m (upd F L o) S H := by
  refine ⟨fun b z q => ?_, s.len, s.nd, fun a ha => ?_, fun i a c h1 h2 => (s.cell i a c h1 h2).mono' (fun _ _ q => q) (same_upd f o)⟩
  · by_cases hb : b = L
    · rw [hb, upd_same] at q; rw [hb, h]; exact q
    · rw [upd_ne hb] at q; exact s.same _ _ q
  · have na : a ≠ L := fun e => n (e ▸ ha)
    rw [upd_ne na]; exact s.off a ha
theorem Ext.freeze (x : Ext m0 F0 H0 m F H) (h : H0 L = none) (f : F L = none) (o : HO) : Ext m0 F0 H0 m (upd F L o) H := by
  refine ⟨x.pre, x.same.trans (same_upd f o), x.keep, x.new, fun b z q => ?_, x.grow⟩
  by_cases hb : b = L
  · rw [hb]; exact .inr h
  · rw [upd_ne hb] at q; exact x.fnew b z q
end
/-! ## list comprehensions -/
def lcD (g : FG) (t : FT) (f : FE) (env : DEnv) : List D → Sto → Option (List D × Sto)
  | [], S => some ([], S)
  | x :: xs, S => (g x env S).bind fun p => (t p.1 p.2).bind fun b => if b.1 = true then (f p.1 b.2).bind fun y => (lcD g t f env xs y.2).bind fun r => some (y.1 :: r.1, r.2) else lcD g t f env xs b.2
def fLc (fi : FA) (g : FG) (t : FT) (f : FE) (vs : List Nat) : FE := fun env S => (fi env S).bind fun p => if p.1.length ≤ 1000000 then (lcD g t f (wipeD env vs) p.1 p.2).bind fun r => some (.lst r.1, r.2) else none
section
variable {ct : CT} {X : Cx}
theorem lc_run {fi : FA} {g : FG} {gt : FT} {fe : FE} {wi : TI} {own : List Nat} {m : List Addr} {F H : Hp} {S S' : Sto} {σ : L2.St} {env : DEnv} {d : D} {Q : VK}
    (ri : ∀ m F S σ H env items S' R, Sim X.K ct m F S H → EnvR X.K ct m F env σ → fi env S = some (items, S') → (∀ m' F' J H', Ext m F H m' F' H' → Sim X.K ct m' F' S' H' → ItOk ct X.K m' F' H' items J → R J H') → wi σ H R)
    (s : Sim X.K ct m F S H) (en : EnvR X.K ct m F env σ) (h : fLc fi g gt fe own env S = some (d, S')) (p : PostE ct X.K m F H S' d Q) :
    tLc wi (tGw ct X.K own g) (tT ct X.K gt) (tE ct X.K fe) own σ H Q := by
  obtain ⟨⟨items, S1⟩, h1, h⟩ := bind_some h
  split at h
  case isFalse => cases h
  rename_i hlen
  have hlen : items.length ≤ 1000000 := hlen
  obtain ⟨⟨out, S9⟩, h2, h⟩ := bind_some h
  cases h
  refine ri m F S σ H env items S1 _ s en h1 fun m1 F1 J H1 x1 s1 ok => fun L hL => ?_
  have nL1 : L ∉ m1 := fun hm => by
    obtain ⟨o, q⟩ := s1.there hm
    rw [hL] at q; cases q
  have fL1 : F1 L = none := by
    cases e : F1 L with
    | none => rfl
    | some o => rw [s1.same _ _ e] at hL; cases hL
  refine ⟨fun i k H' => k = items.length - i ∧ i ≤ items.length ∧ ∃ m' F' S2 accV accD rest, Ext m1 F1 H1 m' F' H' ∧ Sim X.K ct m' F' S2 H' ∧ H' L = some (.lst accV) ∧ L ∉ m' ∧ F' L = none ∧ Reps X.K ct m' F' accD accV ∧ accD.length ≤ i ∧
      lcD g gt fe (wipeD env own) (items.drop i) S2 = some (rest, S9) ∧ out = accD ++ rest,
    ⟨_, rfl, Nat.zero_le _, m1, F1, S1, [], [], out, (Ext.refl _ _ _).put hL _, s1.hidden nL1 fL1 _, upd_same, nL1, fL1, rfl, Nat.le_refl _, h2, rfl⟩, ?_⟩
  rintro i k H' ⟨rfl, hle, m', F', S2, accV, accD, rest, x', s', hH, nL, fL, rp, hal, hlc, eo⟩
  have en' : EnvR X.K ct m' F' (wipeD env own) (wipe σ own) := ((en.mono x1).mono x').wipe own
  have okk : (∀ d, items[i]? = some d → J.go i H' ∧ ∀ x H1, J.yld i H' x H1 → ∃ F1, Ext m' F' H' m' F1 H1 ∧ Sim X.K ct m' F1 S2 H1 ∧ Rep X.K ct m' F1 d x) ∧ (items.length = i → J.stop i H') := ok i m' F' S2 H' x' s'
  cases hd : items.drop i with
  | nil =>
    rw [hd] at hlc
    cases hlc
    have hl : items.length = i := by
      have := congrArg List.length hd
      simp at this
      omega
    refine .inl ⟨okk.2 hl, p m' (upd F' L (.lst accV)) (.ref L) H' (x1.trans (x'.freeze hL fL _)) (s'.freeze nL fL hH) ⟨L, accV, rfl, upd_same, ?_⟩⟩
    rw [eo, List.append_nil]
    exact Reps.mono' (fun _ _ q => q) (same_upd fL _) _ _ rp
  | cons a r =>
    rw [hd] at hlc
    obtain ⟨q1, q2⟩ := drop_cons hd
    have hlt : i < items.length := (List.getElem?_eq_some_iff.mp q1).1
    obtain ⟨go, yl⟩ := okk.1 a q1
    obtain ⟨⟨env1, S3⟩, h3, hlc⟩ := bind_some hlc
    obtain ⟨⟨b4, S4⟩, h4, hlc⟩ := bind_some hlc
    refine .inr ⟨go, fun H5 => ∃ m5 F5 S5 accV accD rest, Ext m1 F1 H1 m5 F5 H5 ∧ Sim X.K ct m5 F5 S5 H5 ∧ H5 L = some (.lst accV) ∧ L ∉ m5 ∧ F5 L = none ∧ Reps X.K ct m5 F5 accD accV ∧ accD.length ≤ i + 1 ∧
      lcD g gt fe (wipeD env own) (items.drop (i + 1)) S5 = some (rest, S9) ∧ out = accD ++ rest, fun H5 w => ⟨items.length - (i + 1), by omega, rfl, hlt, w⟩, fun x H5 y => ?_⟩
    obtain ⟨F5, x5, s5, r5⟩ := yl x H5 y
    obtain ⟨hH5, nL5, fL5⟩ := x5.hid hH nL fL
    refine ⟨m', F5, S2, wipeD env own, a, env1, S3, s5, en'.mono x5, r5, h3, fun m6 F6 σ6 H6 x6 s6 en6 w6 => ⟨by rw [w6]; exact wipe_idem, ?_⟩⟩
    obtain ⟨hH6, nL6, fL6⟩ := x6.hid hH5 nL5 fL5
    refine ⟨m6, F6, S3, env1, b4, S4, s6, en6, h4, fun m7 F7 H7 x7 s7 => ?_⟩
    obtain ⟨hH7, nL7, fL7⟩ := x7.hid hH6 nL6 fL6
    have xx : Ext m1 F1 H1 m7 F7 H7 := ((x'.trans x5).trans x6).trans x7
    have rp7 : Reps X.K ct m7 F7 accD accV := ((rp.mono x5).mono x6).mono x7
    cases b4 with
    | false =>
      refine iteF ⟨m7, F7, S4, accV, accD, rest, xx, s7, hH7, nL7, fL7, rp7, by omega, ?_, eo⟩
      rw [q2]
      exact hlc
    | true =>
      obtain ⟨⟨y8, S8⟩, h8, hlc⟩ := bind_some (show (fe env1 S4).bind _ = _ from hlc)
      obtain ⟨⟨r9, S10⟩, h9, hlc⟩ := bind_some hlc
      cases hlc
      refine iteT ⟨m7, F7, S4, env1, y8, S8, s7, en6.mono x7, h8, fun m8 F8 v8 H8 x8 s8 r8 => ?_⟩
      obtain ⟨hH8, nL8, fL8⟩ := x8.hid hH7 nL7 fL7
      refine ⟨accV, hH8, ?_, m8, F8, S8, accV ++ [v8], accD ++ [y8], r9, (xx.trans x8).put hL _, s8.hidden nL8 fL8 _, upd_same, nL8, fL8, (rp7.mono x8).snoc r8, by simp; omega, ?_, by rw [eo, List.append_assoc]; rfl⟩
      · rw [← rp.length, line_eq]
        omega
      · rw [q2]
        exact h9
theorem se_lc {elt tg iter : Expr} {ifs : List Expr} {scope : Scope} {own : List (Str × Nat)} {pos : Pos} {fi : FA} {g : FG} {gt : FT} {fe : FE} (hc : X.calm = true) (hN : X.N.Nodup) (hi : SI ct X tg iter fi) (ok : BlkOk X.N X.env.scope scope own)
    (hg : ∀ (s : Shared) (H : Hp) (C : Addr) (cl : List (Str × Addr)) (fp : List Addr), SGw ct (X.blk s H scope (compEnvC scope cl C X.env) fp) (own.map (·.2)) tg g) (ht : ∀ (s : Shared) (H : Hp) (C : Addr) (cl : List (Str × Addr)) (fp : List Addr), STs ct (X.blk s H scope (compEnvC scope cl C X.env) fp) ifs gt)
    (he : ∀ (s : Shared) (H : Hp) (C : Addr) (cl : List (Str × Addr)) (fp : List Addr), SE ct (X.blk s H scope (compEnvC scope cl C X.env) fp) elt fe) (hs : ∀ x, foldedSetIterable iter X.env x = pure x := by intro _; rfl) :
    SE ct X (.ListComp elt [⟨tg, iter, ifs, 0⟩] scope pos) (fLc fi g gt fe (own.map (·.2))) := by
  obtain ⟨wi, pi, ri⟩ := hi
  exact ⟨_, pe_lc (g := tGw ct X.K (own.map (·.2)) g) (tt := tT ct X.K gt) (te := tE ct X.K fe) hc hN pi ok (fun s H C cl fp => (hg s H C cl fp).pg) (fun s H C cl fp => (ht s H C cl fp).pt) (fun s H C cl fp => (he s H C cl fp).pe) hs, fun m F S σ H env d S' Q s en h p => lc_run ri s en h p⟩
theorem ss_setLc {i : Nat} {y : Str} {py : Pos} {elt tg iter : Expr} {ifs : List Expr} {scope : Scope} {own : List (Str × Nat)} {pos spos : Pos} {fi : FA} {g : FG} {gt : FT} {fe : FE} (hc : X.calm = true) (hN : X.N.Nodup) (hy : X.N[i]? = some y) (hyl : X.env.scope.names.lookup y = some .local)
    (hsw : swapsWith (.ListComp elt [⟨tg, iter, ifs, 0⟩] scope pos) (some (.Name y py)) spos.line X.env = pure true) (hi : SI ct X tg iter fi) (ok : BlkOk X.N X.env.scope scope own)
    (hg : ∀ (s : Shared) (H : Hp) (C : Addr) (cl : List (Str × Addr)) (fp : List Addr), SGw ct (X.blk s H scope (compEnvC scope cl C X.env) fp) (own.map (·.2)) tg g) (ht : ∀ (s : Shared) (H : Hp) (C : Addr) (cl : List (Str × Addr)) (fp : List Addr), STs ct (X.blk s H scope (compEnvC scope cl C X.env) fp) ifs gt)
    (he : ∀ (s : Shared) (H : Hp) (C : Addr) (cl : List (Str × Addr)) (fp : List Addr), SE ct (X.blk s H scope (compEnvC scope cl C X.env) fp) elt fe) (hs : ∀ x, foldedSetIterable iter X.env x = pure x := by intro _; rfl) :
    SS ct X (.Assign [.Name y py] (.ListComp elt [⟨tg, iter, ifs, 0⟩] scope pos) spos) (sAsg (fLc fi g gt fe (own.map (·.2))) (gN i)) := by
  obtain ⟨wi, pi, ri⟩ := hi
  refine ⟨_, ps_setLc (g := tGw ct X.K (own.map (·.2)) g) (tt := tT ct X.K gt) (te := tE ct X.K fe) hc hN hy hyl hsw pi ok (fun s H C cl fp => (hg s H C cl fp).pg) (fun s H C cl fp => (ht s H C cl fp).pt) (fun s H C cl fp => (he s H C cl fp).pe) hs, fun m F S σ H env fl S' E s en h p => ?_⟩
  obtain ⟨⟨x, S1⟩, h1, h⟩ := bind_some h
  cases h
  exact lc_run ri s en h1 fun m1 F1 v1 H1 x1 s1 r1 => p m1 F1 _ H1 x1 s1 ((en.mono x1).set i r1)
end
end DL

namespace DL
open PySem PySem.Spec PyProof.Rows L2
/-! ## dicts: cells -/
def valA {α : Type} (kvs : List (Key × α)) (k : Key) : Option α := (kvs.find? fun kv => decide (kv.1 = k)).map (·.2)
def putA {α : Type} (kvs : List (Key × α)) (k : Key) (v : α) : List (Key × α) :=
  if (kvs.any fun kv => decide (kv.1 = k)) = true then kvs.map fun kv => if kv.1 = k then (kv.1, v) else kv else kvs ++ [(k, v)]
def toKey : D → Option Key
  | .int i => some (.inl i)
  | .str x => some (.inr x)
  | _ => none
section
variable {ct : CT} {K : PySem.W.Frag} {m : List Addr} {F : Hp}
abbrev PR (K : PySem.W.Frag) (ct : CT) (m : List Addr) (F : Hp) : List (Key × D) → List (Key × V) → Prop := Paired fun (p : Key × D) (q : Key × V) => p.1 = q.1 ∧ Rep K ct m F p.2 q.2
theorem Rep.key {d : D} {v : V} {k : Key} (r : Rep K ct m F d v) (h : toKey d = some k) : v = kV k := by
  cases d with
  | int i => cases h; exact r
  | str x => cases h; exact r
  | _ => cases h
theorem PR.any {kvs : List (Key × D)} {us : List (Key × V)} (r : PR K ct m F kvs us) (k : Key) : (kvs.any fun kv => decide (kv.1 = k)) = us.any fun kv => decide (kv.1 = k) := by
  induction r with
  | nil => rfl
  | cons h _ ih => simp only [List.any_cons, ih, h.1]
theorem PR.val {kvs : List (Key × D)} {us : List (Key × V)} (r : PR K ct m F kvs us) (k : Key) : (∀ d, valA kvs k = some d → ∃ v, valV us k = some v ∧ Rep K ct m F d v) ∧ (valA kvs k = none → valV us k = none) := by
  induction r with
  | nil => exact ⟨fun d h => (by cases h), fun _ => rfl⟩
  | @cons p q l1 l2 h t ih =>
    by_cases e : p.1 = k
    · have e' : q.1 = k := h.1 ▸ e
      refine ⟨fun d hd => ⟨q.2, valV_pos e', ?_⟩, fun hd => ?_⟩
      · simp [valA, List.find?_cons, e] at hd
        subst hd
        exact h.2
      · simp [valA, List.find?_cons, e] at hd
    · have e' : ¬ q.1 = k := h.1 ▸ e
      have e2 : valA (p :: l1) k = valA l1 k := by simp [valA, List.find?_cons, e]
      rw [e2, valV_neg e']
      exact ih
theorem PR.repl {kvs : List (Key × D)} {us : List (Key × V)} (r : PR K ct m F kvs us) (k : Key) {d : D} {v : V} (rv : Rep K ct m F d v) : PR K ct m F (kvs.map fun kv => if kv.1 = k then (kv.1, d) else kv) (us.map fun kv => if kv.1 = k then (kv.1, v) else kv) := by
  induction r with
  | nil => exact .nil
  | @cons p q l1 l2 h t ih =>
    refine .cons ?_ ih
    by_cases e : p.1 = k
    · have e' : q.1 = k := h.1 ▸ e
      dsimp only
      rw [if_pos e, if_pos e']
      exact ⟨h.1, rv⟩
    · have e' : ¬ q.1 = k := h.1 ▸ e
      dsimp only
      rw [if_neg e, if_neg e']
      exact h
theorem PR.put {kvs : List (Key × D)} {us : List (Key × V)} (r : PR K ct m F kvs us) (k : Key) {d : D} {v : V} (rv : Rep K ct m F d v) : PR K ct m F (putA kvs k d) (putK us k v) := by
  unfold putA putK
  rw [PR.any r k]
  split
  · exact PR.repl r k rv
  · exact Paired.snoc r ⟨rfl, rv⟩
theorem PR.length {kvs : List (Key × D)} {us : List (Key × V)} (r : PR K ct m F kvs us) : kvs.length = us.length := Paired.length r
end
section
variable {ct : CT} {X : Cx} {a b c e o : Expr} {es : List Expr} {fa fb fc f : FE} {fas : FA}
/-- o[k] = v: a list's or a dict's cell -/
def gSetA : D → D → D → Sto → Option Sto
  | .ref k, i, v, S => match S[k]? with
    | some (.lst ds) => match i with
      | .int i => (ixN ds.length i).map fun j => S.set k (.lst (ds.set j v))
      | _ => none
    | some (.dct kvs) => if kvs.length ≤ 1000000 then (toKey i).map fun x => S.set k (.dct (putA kvs x v)) else none
    | _ => none
  | _, _, _, _ => none
def rSetA : TSet := fun o i v H Q => rSetL o i v H Q ∨ ∃ a H', o = .ref a ∧ DPut H a i v H' ∧ Q H'
theorem set_all {k : Nat} (hr : RoomG k X.A) : PSet X rSetA := by
  intro pins s σ H o i v ov iv u Q I r1 r2 r3 h
  rcases h with h | ⟨a, H', rfl, h, q⟩
  · exact set_list pins s σ H o i v ov iv u Q I r1 r2 r3 h
  · cases (show ov = Value.ref a from r1)
    exact d_setItem (hu_of hr.room) I h r2 r3 fun s' I' => ⟨H', I', q⟩
theorem sd_all {K : PySem.W.Frag} : SetD ct K rSetA gSetA := by
  intro m F S H o i v d1 d2 d3 S' Q s r1 r2 r3 h q
  cases d1 with
  | ref k =>
    obtain ⟨a, e1, e2⟩ := r1
    obtain ⟨c, hc, cr⟩ := s.at e1
    cases c with
    | lst ds =>
      cases d2 with
      | int j0 =>
        have h : (ixN ds.length j0).map (fun j => S.set k (.lst (ds.set j d3))) = some S' := by simpa only [gSetA, hc] using h
        obtain ⟨j, h1, h2⟩ := map_some h
        subst h2
        obtain ⟨vs, q1, q2⟩ := cr
        obtain ⟨s2, x2⟩ := s.change e1 (o := .lst (vs.set j v)) (c := .lst (ds.set j d3)) ⟨_, rfl, q2.set j r3⟩
        exact .inl ⟨a, vs, _, j, e2, r2, q1, by rw [← q2.length]; exact h1, q _ _ _ x2 s2⟩
      | _ => simp [gSetA, hc] at h
    | dct kvs =>
      have h : (if kvs.length ≤ 1000000 then (toKey d2).map (fun x => S.set k (.dct (putA kvs x d3))) else none) = some S' := by
        simpa only [gSetA, hc] using h
      split at h
      · rename_i hl
        obtain ⟨x, h1, h2⟩ := map_some h
        subst h2
        obtain ⟨us, q1, q2⟩ := cr
        have ek := r2.key h1
        subst ek
        obtain ⟨s2, x2⟩ := s.change e1 (o := .dK (putK us x v)) (c := .dct (putA kvs x d3)) ⟨_, rfl, PR.put q2 x r3⟩
        exact .inr ⟨a, _, e2, DPut.k q1 (by rw [← PR.length q2, line_eq]; omega), q _ _ _ x2 s2⟩
      · cases h
    | ins _ _ _ =>
      simp [gSetA, hc] at h
  | _ => cases h
/-- {} as a value that stays -/
theorem se_dnewF {pos : Pos} : SE ct X (.Dict [] [] pos) (fC (.dct [] [])) := ⟨_, pe_dnewK, fun m F S σ H env d S' Q s en h p => by
  cases h
  intro q hq
  obtain ⟨s2, x2⟩ := s.frozen hq (.dK [])
  exact p m _ (.ref q) _ x2 s2 ⟨q, [], rfl, upd_same, rfl, rfl⟩⟩
def fNewD : FE := fun _ S => some (.ref S.length, S ++ [.dct []])
theorem se_dnewM {pos : Pos} : SE ct X (.Dict [] [] pos) fNewD := ⟨_, pe_dnewK, fun m F S σ H env d S' Q s en h p => by
  cases h
  intro q hq
  obtain ⟨s2, x2⟩ := s.fresh hq (o := .dK []) (c := .dct []) ⟨[], rfl, .nil⟩
  exact p _ _ (.ref q) _ x2 s2 ⟨q, by rw [← s.len]; simp, rfl⟩⟩
/-- {'a': e, ..}: written text keys -/
def SDs (ct : CT) (X : Cx) (pos : Pos) (keys : List (Option Expr)) (values : List Expr) (ks : List Str) (f : FA) : Prop := ∃ trs, PPs X pos keys values trs ∧ ∀ m F S σ H env ds S' Q, Sim X.K ct m F S H → EnvR X.K ct m F env σ → f env S = some (ds, S') →
  (∀ m' F' vs H', Ext m F H m' F' H' → Sim X.K ct m' F' S' H' → Reps X.K ct m' F' ds vs → ds.length = ks.length → Q ((ks.map V.str).zip vs) H') → tPairs trs σ H Q
theorem sds_nil {pos : Pos} : SDs ct X pos [] [] [] fNil := ⟨_, pps_nil, fun m F S σ H env ds S' Q s en h p => by
  cases h
  exact p m F [] H (Ext.refl _ _ _) s rfl rfl⟩
theorem sds_cons {pos kp : Pos} {k : Str} {j : Nat} {keys : List (Option Expr)} {values : List Expr} {ks : List Str} (he : SE ct X e f) (hr : SDs ct X pos keys values ks fas) : SDs ct X pos (some (.Constant (.str k) j kp) :: keys) (e :: values) (k :: ks) (fCons f fas) := by
  obtain ⟨ta, pa, ra⟩ := he
  obtain ⟨tb, pb, rb⟩ := hr
  refine ⟨_, pps_cons pe_str pa pb, fun m F S σ H env d S' Q s en h p => ?_⟩
  obtain ⟨⟨x, S1⟩, h1, h⟩ := bind_some h
  obtain ⟨⟨ys, S2⟩, h2, h⟩ := bind_some h
  cases h
  refine ra m F S σ H env x S1 _ s en h1 fun m1 F1 v1 H1 x1 s1 r1 => ?_
  refine rb m1 F1 S1 σ H1 env ys S2 _ s1 (en.mono x1) h2 fun m2 F2 v2 H2 x2 s2 r2 hl => ?_
  exact p m2 F2 (v1 :: v2) H2 (x1.trans x2) s2 ⟨v1, v2, rfl, r1.mono x2, r2⟩ (by simp [hl])
def fDisp (ks : List Str) (fas : FA) : FE := fun env S => (fas env S).bind fun p => if ks.length ≤ 15 ∧ ks.Nodup then some (.ref p.2.length, p.2 ++ [.dct ((ks.map Sum.inr).zip p.1)]) else none
theorem merge_nodup : ∀ (more kvs : List (Key × V)), (more.map (·.1)).Nodup → (∀ k ∈ more.map (·.1), valV kvs k = none) → mergeK kvs more = kvs ++ more
  | [], kvs, _, _ => by simp [mergeK]
  | p :: more, kvs, h, hn => by
    have e : putK kvs p.1 p.2 = kvs ++ [p] := putK_new p.2 (hn p.1 (by simp))
    show mergeK (putK kvs p.1 p.2) more = _
    rw [e, merge_nodup more (kvs ++ [p]) (List.nodup_cons.mp h).2, List.append_assoc]
    · rfl
    · intro k hk
      have h1 : k ≠ p.1 := fun q => by
        subst q
        exact (List.nodup_cons.mp h).1 hk
      rw [valV_snoc p.1 k p.2 kvs (hn p.1 (by simp)), if_neg h1]
      exact hn k (by simp [List.mem_map] at hk ⊢; exact .inr hk)
theorem zip_PR {K : PySem.W.Frag} {m : List Addr} {F : Hp} : ∀ {ks : List Key} {ds : List D} {vs : List V}, Reps K ct m F ds vs → PR K ct m F (ks.zip ds) (ks.zip vs)
  | [], _, _, _ => .nil
  | k :: ks, [], _, r => by
    have r : _ = _ := r
    subst r
    exact .nil
  | k :: ks, d :: ds, _, r => by
    obtain ⟨v, vr, e1, e2, e3⟩ := r
    subst e1
    exact .cons ⟨rfl, e2⟩ (zip_PR e3)
theorem zip_kV : ∀ (ks : List Str) (vs : List V), (ks.map V.str).zip vs = (((ks.map Sum.inr : List Key)).zip vs).map fun kv => (kV kv.1, kv.2)
  | [], _ => rfl
  | _ :: _, [] => rfl
  | k :: ks, v :: vs => by
    simp only [List.map_cons, List.zip_cons_cons, zip_kV ks vs]
    rfl
theorem nodup_inr : ∀ {ks : List Str}, ks.Nodup → (ks.map Sum.inr : List Key).Nodup
  | [], _ => by simp
  | k :: ks, h => by
    simp only [List.map_cons, List.nodup_cons]
    refine ⟨fun q => ?_, nodup_inr (List.nodup_cons.mp h).2⟩
    obtain ⟨z, z1, z2⟩ := List.mem_map.mp q
    cases z2
    exact (List.nodup_cons.mp h).1 z1
theorem se_disp {pos : Pos} {keys : List (Option Expr)} {values : List Expr} {ks : List Str} (h : SDs ct X pos keys values ks fas) (hall : keys.all (·.isSome) = true) (hl : keys.length = values.length) (h0 : keys ≠ []) (h16 : keys.length ≤ 15 := by decide) : SE ct X (.Dict keys values pos) (fDisp ks fas) := by
  obtain ⟨trs, pp, rp⟩ := h
  refine ⟨_, pe_disp pp hall hl h0 h16, fun m F S σ H env d S' Q s en h p => ?_⟩
  obtain ⟨⟨xs, S1⟩, h1, h⟩ := bind_some h
  split at h
  case isFalse => cases h
  rename_i hk
  cases h
  intro q hq
  have nq : q ∉ m := fun hm => by
    obtain ⟨o, z⟩ := s.there hm
    rw [hq] at z; cases z
  have fq : F q = none := by
    cases z : F q with
    | none => rfl
    | some o => rw [s.same _ _ z] at hq; cases hq
  refine rp m F S σ (upd H q (.dK [])) env xs S1 _ (s.hidden nq fq _) en h1 fun m1 F1 vs H1 x1 s1 r1 hlen => ?_
  obtain ⟨hH, nq1, fq1⟩ := x1.hid upd_same nq fq
  have x0 : Ext m F H m1 F1 H1 := ((Ext.refl m F H).put hq (.dK [])).trans x1
  refine ⟨hH, (ks.map Sum.inr).zip vs, ?_, by simp [← r1.length, hlen, hk.1], ?_⟩
  · exact zip_kV ks vs
  · have hn : (((ks.map Sum.inr : List Key).zip vs).map (·.1)).Nodup := by
      rw [List.map_fst_zip (by simp [← r1.length, hlen])]
      exact nodup_inr hk.2
    rw [merge_nodup _ [] hn (fun _ _ => rfl), List.nil_append]
    have sq : Sim X.K ct m1 F1 S1 H1 := s1
    have s2 : Sim X.K ct (m1 ++ [q]) F1 (S1 ++ [.dct ((ks.map Sum.inr).zip xs)]) (upd H1 q (.dK ((ks.map Sum.inr).zip vs))) := by
      refine ⟨fun b z h => ?_, by simp [s1.len], ?_, fun a h => ?_, fun i a c h1 h2 => ?_⟩
      · have nb : b ≠ q := fun e => by rw [e, fq1] at h; cases h
        rw [upd_ne nb]; exact s1.same _ _ h
      · rw [List.nodup_append]
        exact ⟨s1.nd, by simp, fun a ha b hb e => nq1 (by rw [List.mem_singleton.mp hb] at e; exact e ▸ ha)⟩
      · rcases List.mem_append.mp h with z | z
        · exact s1.off a z
        · rw [List.mem_singleton.mp z]; exact fq1
      · have pre : ∀ (i : Nat) (a : Addr), m1[i]? = some a → (m1 ++ [q])[i]? = some a := fun i a h => by
          rw [List.getElem?_append_left (List.getElem?_eq_some_iff.mp h).1]; exact h
        by_cases hi : i < m1.length
        · rw [List.getElem?_append_left hi] at h1
          rw [List.getElem?_append_left (s1.len ▸ hi)] at h2
          have hm : a ∈ m1 := List.mem_iff_getElem?.mpr ⟨i, h1⟩
          have na : a ≠ q := fun e => nq1 (e ▸ hm)
          rw [upd_ne na]
          exact (s1.cell i a c h1 h2).mono' pre (Same.refl _)
        · rw [List.getElem?_append_right (by omega)] at h1
          rw [List.getElem?_append_right (by have := s1.len; omega)] at h2
          have e0 : i - m1.length = 0 := by
            have := (List.getElem?_eq_some_iff.mp h1).1
            simp at this; omega
          rw [e0] at h1
          rw [← s1.len, e0] at h2
          simp at h1 h2
          subst h1 h2
          rw [upd_same]
          exact ⟨_, rfl, zip_PR (Reps.mono' pre (Same.refl _) _ _ r1)⟩
    refine p (m1 ++ [q]) F1 (.ref q) _ ⟨fun i a h => ?_, x0.same, fun b z h n => ?_, fun a h => ?_, x0.fnew, fun b z h => ?_⟩ s2 ⟨q, by rw [← s1.len]; simp, rfl⟩
    · have := x0.pre i a h
      rw [List.getElem?_append_left (List.getElem?_eq_some_iff.mp this).1]; exact this
    · rw [upd_ne (ne_of_none h hq)]; exact x0.keep b z h n
    · rcases List.mem_append.mp h with z | z
      · exact x0.new a z
      · rw [List.mem_singleton.mp z]; exact .inr hq
    · rw [upd_ne (ne_of_none h hq)]; exact x0.grow b z h
end
end DL

namespace DL
open PySem PySem.Spec PyProof.Rows L2
section
variable {ct : CT} {X : Cx} {a b c e o k x : Expr} {es : List Expr} {fa fb fc f fd fk fx : FE} {fas : FA}
/-! ## d.get(k, x) of a cell or a dict that stays -/
def kvsOf (d : D) (S : Sto) : Option (List (Key × D)) := match d with
  | .ref i => match S[i]? with
    | some (.dct kvs) => some kvs
    | _ => none
  | .dct ks ds => some (ks.zip ds)
  | _ => none
theorem kvs_at {K : PySem.W.Frag} {m : List Addr} {F H : Hp} {S : Sto} {d : D} {v : V} {kvs : List (Key × D)} (s : Sim K ct m F S H) (r : Rep K ct m F d v) (h : kvsOf d S = some kvs) : ∃ a us, v = .ref a ∧ H a = some (.dK us) ∧ PR K ct m F kvs us := by
  cases d with
  | ref i =>
    obtain ⟨a, e1, e2⟩ := r
    obtain ⟨c, hc, cr⟩ := s.at e1
    cases c with
    | dct kvs' =>
      simp only [kvsOf, hc] at h
      cases h
      obtain ⟨us, q1, q2⟩ := cr
      exact ⟨a, us, e2, q1, q2⟩
    | lst _ => simp [kvsOf, hc] at h
    | ins _ _ _ => simp [kvsOf, hc] at h
  | dct ks ds =>
    cases h
    obtain ⟨a, vs, e1, e2, e3, e4⟩ := r
    exact ⟨a, _, e1, s.same _ _ e2, zip_PR e4⟩
  | _ => cases h
def fDGet2 (fd fk fx : FE) : FE := fun env S => (fd env S).bind fun p => (kvsOf p.1 p.2).bind fun _ => (fk env p.2).bind fun q => (fx env q.2).bind fun r => (kvsOf p.1 r.2).bind fun kvs => (toKey q.1).map fun x => ((valA kvs x).getD r.1, r.2)
theorem se_dget2 {apos cpos : Pos} {n : Nat} (hr : RoomG n X.A) (ho : SE ct X o fd) (hk : SE ct X k fk) (hx : SE ct X x fx) (m : M2 X o "get" apos k x cpos) : SE ct X (.Call (.Attribute o "get" apos) [k, x] [] cpos) (fDGet2 fd fk fx) := by
  obtain ⟨ta, pa, ra⟩ := ho
  obtain ⟨tb, pb, rb⟩ := hk
  obtain ⟨tc, pc, rc⟩ := hx
  refine ⟨_, pe_dget2 (hu_of hr.room) pa pb pc m, fun m F S σ H env d S' Q s en h p => ?_⟩
  obtain ⟨⟨z, S1⟩, h1, h⟩ := bind_some h
  obtain ⟨kvs0, h0, h⟩ := bind_some h
  obtain ⟨⟨y, S2⟩, h2, h⟩ := bind_some h
  obtain ⟨⟨w, S3⟩, h3, h⟩ := bind_some h
  obtain ⟨kvs, h4, h⟩ := bind_some h
  obtain ⟨key, h5, h6⟩ := map_some h
  cases h6
  refine ra m F S σ H env z S1 _ s en h1 fun m1 F1 v1 H1 x1 s1 r1 => ?_
  obtain ⟨a, us0, e1, e2, _⟩ := kvs_at s1 r1 h0
  refine ⟨a, e1, .inl ⟨us0, .inl e2⟩, ?_⟩
  refine rb m1 F1 S1 σ H1 env y S2 _ s1 (en.mono x1) h2 fun m2 F2 v2 H2 x2 s2 r2 => ?_
  refine rc m2 F2 S2 σ H2 env w S3 _ s2 ((en.mono x1).mono x2) h3 fun m3 F3 v3 H3 x3 s3 r3 => ?_
  obtain ⟨a', us, e1', e2', pr⟩ := kvs_at s3 ((r1.mono x2).mono x3) h4
  subst e1
  cases e1'
  have ek := r2.key h5
  subst ek
  refine ⟨_, DGet.k e2', ?_⟩
  have p3 := ((p.ext x1).ext x2).ext x3
  cases hv : valA kvs key with
  | none =>
    rw [hv] at p3
    rw [(PR.val pr key).2 hv]
    exact p3.now s3 r3
  | some dv =>
    rw [hv] at p3
    obtain ⟨v, q1, q2⟩ := (PR.val pr key).1 dv hv
    rw [q1]
    exact p3.now s3 q2
/-! ## a written dict: text keys, ints -/
structure KD (K : PySem.W.Frag) (w : World) (a : Addr) (tab : List (Str × Int)) : Prop where
  es : ∃ es n, KDict K w a es n
  val : ∀ z, ∃ r, PySem.W.nsIn K a z = some r ∧ RelO ((tab.lookup z).map V.int) r
def fKIn (neg : Bool) (tab : List (Str × Int)) (f : FE) : FE := fun env S => (f env S).bind fun p => match p.1 with
  | .str z => some (.bl (if neg then !(tab.lookup z).isSome else (tab.lookup z).isSome), p.2)
  | _ => none
variable {g : Addr} {tab : List (Str × Int)} {n : Str}
theorem relO_isSome {o : Option V} {u : Option Value} (r : RelO o u) : u.isSome = o.isSome := by
  cases o <;> cases u <;> first | rfl | exact r.elim
theorem se_kin {p pos : Pos} (d : KD X.K X.w g tab) (hg : Gl X n) (hm : X.mg n = some (.ref g)) (he : SE ct X e f) (hd : (n == ("__debug__" : Str)) = false := by decide) : SE ct X (.Compare e [.In] [.Name n p] pos) (fKIn false tab f) := by
  obtain ⟨ta, pa, ra⟩ := he
  obtain ⟨es, k, kd⟩ := d.es
  refine ⟨_, pe_cmpR (op_in_kd kd) pa (pe_glob (v := .ref g) hg hm rfl hd) rfl, fun m F S σ H env d' S' Q s en h p => ?_⟩
  obtain ⟨⟨z, S1⟩, h1, h⟩ := bind_some h
  refine ra m F S σ H env z S1 _ s en h1 fun m1 F1 v1 H1 x1 s1 r1 => ?_
  cases z with
  | str z =>
    cases h
    obtain ⟨r, q1, q2⟩ := d.val z
    refine ⟨z, r, r1, rfl, q1, ?_⟩
    rw [relO_isSome q2, Option.isSome_map]
    exact (p.ext x1).now s1 rfl
  | _ => cases h
theorem se_knotin {p pos : Pos} (d : KD X.K X.w g tab) (hg : Gl X n) (hm : X.mg n = some (.ref g)) (he : SE ct X e f) (hd : (n == ("__debug__" : Str)) = false := by decide) : SE ct X (.Compare e [.NotIn] [.Name n p] pos) (fKIn true tab f) := by
  obtain ⟨ta, pa, ra⟩ := he
  obtain ⟨es, k, kd⟩ := d.es
  refine ⟨_, pe_cmpR (op_notIn_kd kd) pa (pe_glob (v := .ref g) hg hm rfl hd) rfl, fun m F S σ H env d' S' Q s en h p => ?_⟩
  obtain ⟨⟨z, S1⟩, h1, h⟩ := bind_some h
  refine ra m F S σ H env z S1 _ s en h1 fun m1 F1 v1 H1 x1 s1 r1 => ?_
  cases z with
  | str z =>
    cases h
    obtain ⟨r, q1, q2⟩ := d.val z
    refine ⟨z, r, r1, rfl, q1, ?_⟩
    rw [relO_isSome q2, Option.isSome_map]
    exact (p.ext x1).now s1 rfl
  | _ => cases h
theorem st_kin {p pos : Pos} (d : KD X.K X.w g tab) (hg : Gl X n) (hm : X.mg n = some (.ref g)) (he : SE ct X e f) (hd : (n == ("__debug__" : Str)) = false := by decide) : ST ct X (.Compare e [.In] [.Name n p] pos) (fTest (fKIn false tab f)) := by
  obtain ⟨ta, pa, ra⟩ := he
  obtain ⟨es, k, kd⟩ := d.es
  refine ⟨_, pt_cmpR (op_in_kd kd) pa (pe_glob (v := .ref g) hg hm rfl hd) rfl, fun m F S σ H env d' S' Q s en h p => ?_⟩
  obtain ⟨⟨x, S2⟩, h2, h⟩ := bind_some h
  obtain ⟨⟨z, S1⟩, h1, h2⟩ := bind_some h2
  refine ra m F S σ H env z S1 _ s en h1 fun m1 F1 v1 H1 x1 s1 r1 => ?_
  cases z with
  | str z =>
    cases h2
    cases h
    obtain ⟨r, q1, q2⟩ := d.val z
    refine ⟨z, r, r1, rfl, q1, _, rfl, ?_⟩
    rw [relO_isSome q2, Option.isSome_map]
    exact p m1 F1 H1 x1 s1
  | _ => cases h2
theorem st_knotin {p pos : Pos} (d : KD X.K X.w g tab) (hg : Gl X n) (hm : X.mg n = some (.ref g)) (he : SE ct X e f) (hd : (n == ("__debug__" : Str)) = false := by decide) : ST ct X (.Compare e [.NotIn] [.Name n p] pos) (fTest (fKIn true tab f)) := by
  obtain ⟨ta, pa, ra⟩ := he
  obtain ⟨es, k, kd⟩ := d.es
  refine ⟨_, pt_cmpR (op_notIn_kd kd) pa (pe_glob (v := .ref g) hg hm rfl hd) rfl, fun m F S σ H env d' S' Q s en h p => ?_⟩
  obtain ⟨⟨x, S2⟩, h2, h⟩ := bind_some h
  obtain ⟨⟨z, S1⟩, h1, h2⟩ := bind_some h2
  refine ra m F S σ H env z S1 _ s en h1 fun m1 F1 v1 H1 x1 s1 r1 => ?_
  cases z with
  | str z =>
    cases h2
    cases h
    obtain ⟨r, q1, q2⟩ := d.val z
    refine ⟨z, r, r1, rfl, q1, _, rfl, ?_⟩
    rw [relO_isSome q2, Option.isSome_map]
    exact p m1 F1 H1 x1 s1
  | _ => cases h2
def fKIx (tab : List (Str × Int)) (f : FE) : FE := fun env S => (f env S).bind fun p => match p.1 with
  | .str z => (tab.lookup z).map fun i => (.int i, p.2)
  | _ => none
theorem se_kix {p pos : Pos} (d : KD X.K X.w g tab) (hg : Gl X n) (hm : X.mg n = some (.ref g)) (he : SE ct X e f) (hs : PlainIx e) (hd : (n == ("__debug__" : Str)) = false := by decide) : SE ct X (.Subscript (.Name n p) e pos) (fKIx tab f) := by
  obtain ⟨ta, pa, ra⟩ := he
  obtain ⟨es, k, kd⟩ := d.es
  refine ⟨_, pe_ix ix_kdict (pe_glob (v := .ref g) hg hm rfl hd) pa hs, fun m F S σ H env d' S' Q s en h p => ?_⟩
  obtain ⟨⟨z, S1⟩, h1, h⟩ := bind_some h
  refine ra m F S σ H env z S1 _ s en h1 fun m1 F1 v1 H1 x1 s1 r1 => ?_
  cases z with
  | str z =>
    obtain ⟨i, h2, h3⟩ := map_some (show (tab.lookup z).map _ = _ from h)
    cases h3
    obtain ⟨r, q1, q2⟩ := d.val z
    rw [h2] at q2
    obtain ⟨u, q3, q4⟩ := RelO.some_of q2
    subst q3
    exact ⟨g, z, .int i, rfl, r1, ⟨es, k, u, kd.at_, kd.lit, q1, q4⟩, (p.ext x1).now s1 rfl⟩
  | _ => cases h
/-- d.get(e, x) of a written dict -/
def tKGet2 (tab : List (Str × Int)) (ty tx : TE) : TE := fun σ H Q => ty σ H fun y H1 => tx σ H1 fun z H2 => ∃ s, y = .str s ∧ Q (((tab.lookup s).map V.int).getD z) H2
theorem pe_kget2 {ty tx : TE} {p apos cpos : Pos} (d : KD X.K X.w g tab) (hg : Gl X n) (hm : X.mg n = some (.ref g)) (he : PE X k ty) (hf : PE X x tx) (m : M2 X (.Name n p) "get" apos k x cpos) (hd : (n == ("__debug__" : Str)) = false := by decide) :
    PE X (.Call (.Attribute (.Name n p) "get" apos) [k, x] [] cpos) (tKGet2 tab ty tx) := by
  obtain ⟨es, cnt, kd⟩ := d.es
  refine ⟨fun pins s σ H Q I h => ?_⟩
  refine wpAny_Call_method m.base m.few m.line PySem.F.plainAttrs_dict PySem.F.slot_dict_get PySem.F.type_dict_get (ld_glob I hg hm ?_ hd)
  refine ⟨kd_type kd I, fun b q => ?_, ?_⟩
  · cases q
    exact ⟨_, I.kIn _ _ kd.at_, rfl⟩
  rw [m.trees]
  refine Calls.callWith_builtin rfl (Calls.evalArgs_plain (Calls.spliced_cons (thn (he.run pins s σ H _ I h) fun iv s2 ⟨y, H2, I2, ry, q2⟩ =>
    Calls.spliced_cons (thn (hf.run pins s2 σ H2 _ I2 q2) fun fv s3 ⟨z, H3, I3, rz, st, ey, q3⟩ => Calls.spliced_nil ?_))))
  subst ey
  obtain ⟨t, rfl⟩ := ry
  obtain ⟨r, e1, e2⟩ := d.val st
  have hmap := PySem.W.mapOf_K (prog := X.prog) (w := X.w) I3.kIn kd.at_ kd.lit
  refine call_meetsIn PySem.F.slot_dict_get hmap.typeIs PySem.F.entry_dict_get (PySem.F.args_dict_get_3 _ _ _) (meets_dict_get_default (strKind X.prog X.w) g (PySem.strKind_is X.prog X.w st t) kd.low fv) ⟨_, hmap, ?_⟩
  rw [PySem.W.find_K kd.at_ e1]
  exact ⟨_, H3, I3.tok _, e2.getD rz, q3⟩
def fKGet2 (tab : List (Str × Int)) (fk fx : FE) : FE := fun env S => (fk env S).bind fun p => (fx env p.2).bind fun q => match p.1 with
  | .str s => some (((tab.lookup s).map D.int).getD q.1, q.2)
  | _ => none
theorem se_kget2 {p apos cpos : Pos} (d : KD X.K X.w g tab) (hg : Gl X n) (hm : X.mg n = some (.ref g)) (hk : SE ct X k fk) (hx : SE ct X x fx) (m : M2 X (.Name n p) "get" apos k x cpos) (hd : (n == ("__debug__" : Str)) = false := by decide) :
    SE ct X (.Call (.Attribute (.Name n p) "get" apos) [k, x] [] cpos) (fKGet2 tab fk fx) := by
  obtain ⟨tb, pb, rb⟩ := hk
  obtain ⟨tc, pc, rc⟩ := hx
  refine ⟨_, pe_kget2 d hg hm pb pc m hd, fun m F S σ H env d S' Q s en h p => ?_⟩
  obtain ⟨⟨y, S1⟩, h1, h⟩ := bind_some h
  obtain ⟨⟨w, S2⟩, h2, h⟩ := bind_some h
  refine rb m F S σ H env y S1 _ s en h1 fun m1 F1 v1 H1 x1 s1 r1 => ?_
  refine rc m1 F1 S1 σ H1 env w S2 _ s1 (en.mono x1) h2 fun m2 F2 v2 H2 x2 s2 r2 => ?_
  cases y with
  | str st =>
    cases h
    refine ⟨st, r1, ?_⟩
    have p3 := (p.ext x1).ext x2
    cases hv : tab.lookup st with
    | none => simp only [hv] at p3; exact p3.now s2 r2
    | some i => simp only [hv] at p3; exact p3.now s2 rfl
  | _ => cases h
/-! ## methods of texts -/
def fPart (fo fe : FE) : FE := fun env S => (fo env S).bind fun p => match p.1 with
  | .str a => (fe env p.2).bind fun q => match q.1 with
    | .str b => if (b.length == 0) = false ∧ a.length ≤ 16777216 then some (.tup [.str (Txt.partition a b).1, .str (Txt.partition a b).2.1, .str (Txt.partition a b).2.2], q.2) else none
    | _ => none
  | _ => none
theorem se_part {apos pos : Pos} {fo fe : FE} (ho : SE ct X o fo) (he : SE ct X e fe) (hs : starEach [e] X.env = [(false, eval e X.env)] := by rfl) (hbase : attributeBase o "partition" X.env (eval o X.env) = eval o X.env := by rfl) (hline : (apos.endLine == pos.line) = true := by rfl) :
    SE ct X (.Call (.Attribute o "partition" apos) [e] [] pos) (fPart fo fe) := by
  obtain ⟨ta, pa, ra⟩ := ho
  obtain ⟨tb, pb, rb⟩ := he
  refine ⟨_, pe_partition pa pb hs hbase hline, fun m F S σ H env d S' Q s en h p => ?_⟩
  obtain ⟨⟨z, S1⟩, h1, h⟩ := bind_some h
  refine ra m F S σ H env z S1 _ s en h1 fun m1 F1 v1 H1 x1 s1 r1 => ?_
  cases z with
  | str a =>
    obtain ⟨⟨w, S2⟩, h2, h⟩ := bind_some (show (fe env S1).bind _ = _ from h)
    have r1 : v1 = .str a := r1
    refine ⟨⟨a, r1⟩, rb m1 F1 S1 σ H1 env w S2 _ s1 (en.mono x1) h2 fun m2 F2 v2 H2 x2 s2 r2 => ?_⟩
    cases w with
    | str b =>
      have h : (if (b.length == 0) = false ∧ a.length ≤ 16777216 then some (D.tup [.str (Txt.partition a b).1, .str (Txt.partition a b).2.1, .str (Txt.partition a b).2.2], S2) else none) = some (d, S') := h
      split at h
      · rename_i hl
        cases h
        have r2 : v2 = .str b := r2
        refine ⟨a, b, r1, by rw [r2], hl.1, by rw [line_eq]; exact hl.2, fun q hq => ?_⟩
        obtain ⟨s3, x3⟩ := s2.frozen hq (.tup [.str (Txt.partition a b).1, .str (Txt.partition a b).2.1, .str (Txt.partition a b).2.2])
        exact p _ _ (.ref q) _ ((x1.trans x2).trans x3) s3 ⟨q, _, rfl, SqT.of upd_same, ⟨_, _, rfl, rfl, _, _, rfl, rfl, _, _, rfl, rfl, rfl⟩⟩
      · cases h
    | _ => cases h
  | _ => cases h
def fSplit (fo fe : FE) : FE := fun env S => (fo env S).bind fun p => match p.1 with
  | .str a => (fe env p.2).bind fun q => match q.1 with
    | .str b => if (b.length == 0) = false ∧ a.length + 2 ≤ 16777216 then some (.lst ((Txt.split a b).map .str), q.2) else none
    | _ => none
  | _ => none
theorem Reps.strs {K : PySem.W.Frag} {m : List Addr} {F : Hp} (ys : List Str) : Reps K ct m F (ys.map D.str) (ys.map V.str) := by
  induction ys with
  | nil => exact rfl
  | cons n ns ih => exact ⟨_, _, rfl, rfl, ih⟩
theorem se_split {apos pos : Pos} {fo fe : FE} (ho : SE ct X o fo) (he : SE ct X e fe) (hs : starEach [e] X.env = [(false, eval e X.env)] := by rfl) (hbase : attributeBase o "split" X.env (eval o X.env) = eval o X.env := by rfl) (hline : (apos.endLine == pos.line) = true := by rfl) :
    SE ct X (.Call (.Attribute o "split" apos) [e] [] pos) (fSplit fo fe) := by
  obtain ⟨ta, pa, ra⟩ := ho
  obtain ⟨tb, pb, rb⟩ := he
  refine ⟨_, pe_split pa pb hs hbase hline, fun m F S σ H env d S' Q s en h p => ?_⟩
  obtain ⟨⟨z, S1⟩, h1, h⟩ := bind_some h
  refine ra m F S σ H env z S1 _ s en h1 fun m1 F1 v1 H1 x1 s1 r1 => ?_
  cases z with
  | str a =>
    obtain ⟨⟨w, S2⟩, h2, h⟩ := bind_some (show (fe env S1).bind _ = _ from h)
    have r1 : v1 = .str a := r1
    refine ⟨⟨a, r1⟩, rb m1 F1 S1 σ H1 env w S2 _ s1 (en.mono x1) h2 fun m2 F2 v2 H2 x2 s2 r2 => ?_⟩
    cases w with
    | str b =>
      have h : (if (b.length == 0) = false ∧ a.length + 2 ≤ 16777216 then some (D.lst ((Txt.split a b).map .str), S2) else none) = some (d, S') := h
      split at h
      · rename_i hl
        cases h
        have r2 : v2 = .str b := r2
        refine ⟨a, b, r1, by rw [r2], hl.1, by rw [line_eq]; exact hl.2, fun q hq => ?_⟩
        obtain ⟨s3, x3⟩ := s2.frozen hq (.lst ((Txt.split a b).map V.str))
        exact p _ _ (.ref q) _ ((x1.trans x2).trans x3) s3 ⟨q, _, rfl, upd_same, Reps.strs _⟩
      · cases h
    | _ => cases h
  | _ => cases h
/-! ## xs.append(e) of a cell -/
def fAppend (fo fe : FE) : FE := fun env S => (fo env S).bind fun p => match p.1 with
  | .ref k => match p.2[k]? with
    | some (.lst _) => (fe env p.2).bind fun q => match q.2[k]? with
      | some (.lst ds) => if ds.length ≤ 1000000 then some (.non, q.2.set k (.lst (ds ++ [q.1]))) else none
      | _ => none
    | _ => none
  | _ => none
theorem se_append {apos cpos : Pos} {fo fe : FE} (ho : SE ct X o fo) (he : SE ct X e fe) (hbase : attributeBase o "append" X.env (eval o X.env) = eval o X.env := by rfl)
    (hfew : ((backTo cpos (starEach [e] X.env)).all (fun x => !x.1) && (backToKw cpos (keywordEach [] X.env)).all (fun x => x.1.isSome)
      && decide (([e] : List Expr).length + ([] : List Keyword).length + (if ([] : List Keyword).isEmpty then 0 else 1) < 30)) = true := by rfl)
    (hline : (apos.endLine == cpos.line) = true := by rfl) (hs : starEach [e] X.env = (false, eval e X.env) :: starEach [] X.env := by rfl) (hplain : (backTo cpos (starEach [] X.env)).any (·.1) = false := by rfl) :
    SE ct X (.Call (.Attribute o "append" apos) [e] [] cpos) (fAppend fo fe) := by
  obtain ⟨ta, pa, ra⟩ := ho
  obtain ⟨tb, pb, rb⟩ := he
  refine ⟨_, pe_bm PySem.F.plainAttrs_list PySem.F.slot_list_append PySem.F.type_list_append mt_append pa (pa_cons pb pa_nil hs) hbase hfew hline hs hplain, fun m F S σ H env d S' Q s en h p => ?_⟩
  obtain ⟨⟨z, S1⟩, h1, h⟩ := bind_some h
  refine ra m F S σ H env z S1 _ s en h1 fun m1 F1 v1 H1 x1 s1 r1 => ?_
  cases z with
  | ref k =>
    obtain ⟨a, e1, e2⟩ := id r1
    obtain ⟨c1, hc1, cr1⟩ := s1.at e1
    subst e2
    cases c1 with
    | lst ds1 =>
      obtain ⟨vs1, g1, g2⟩ := cr1
      have h : (fe env S1).bind (fun q => match q.2[k]? with
        | some (.lst ds) => if ds.length ≤ 1000000 then some (D.non, q.2.set k (.lst (ds ++ [q.1]))) else none
        | _ => none) = some (d, S') := by simpa only [hc1] using h
      obtain ⟨⟨w, S2⟩, h2, h⟩ := bind_some h
      refine ⟨.inl ⟨rfl, _, SqL.of g1⟩, rb m1 F1 S1 σ H1 env w S2 _ s1 (en.mono x1) h2 fun m2 F2 v2 H2 x2 s2 r2 => ?_⟩
      have e3 := x2.pre _ _ e1
      obtain ⟨c2, hc2, cr2⟩ := s2.at e3
      cases c2 with
      | lst ds2 =>
        have h : (if ds2.length ≤ 1000000 then some (D.non, S2.set k (.lst (ds2 ++ [w]))) else none) = some (d, S') := by simpa only [hc2] using h
        split at h
        · rename_i hl
          cases h
          obtain ⟨vs2, g3, g4⟩ := cr2
          obtain ⟨s3, x3⟩ := s2.change e3 (o := .lst (vs2 ++ [v2])) (c := .lst (ds2 ++ [w])) ⟨_, rfl, g4.snoc r2⟩
          exact ⟨a, vs2, v2, rfl, rfl, g3, by rw [← g4.length, line_eq]; omega, p _ _ .non _ ((x1.trans x2).trans x3) s3 rfl⟩
        · cases h
      | dct _ => simp [hc2] at h
      | ins _ _ _ => simp [hc2] at h
    | dct _ => simp [hc1] at h
    | ins _ _ _ => simp [hc1] at h
  | _ => cases h
end
/-! ## garbage, freezing -/
mutual
def noRef : D → Bool
  | .ref _ => false
  | .tup ds => noRefs ds
  | .lst ds => noRefs ds
  | .dct _ ds => noRefs ds
  | .obj _ _ ds => noRefs ds
  | _ => true
def noRefs : List D → Bool
  | [] => true
  | d :: ds => noRef d && noRefs ds
end
section
variable {K : PySem.W.Frag} {ct : CT}
mutual
theorem Rep.noref {m m' : List Addr} {F : Hp} : ∀ (d : D) (v : V), noRef d = true → Rep K ct m F d v → Rep K ct m' F d v
  | .non, _, _, h => h
  | .bl _, _, _, h => h
  | .int _, _, _, h => h
  | .str _, _, _, h => h
  | .scr _, _, _, h => h
  | .tup ds, _, n, h => by
    obtain ⟨a, vs, e1, e2, e3⟩ := h
    exact ⟨a, vs, e1, e2, Reps.noref ds vs n e3⟩
  | .lst ds, _, n, h => by
    obtain ⟨a, vs, e1, e2, e3⟩ := h
    exact ⟨a, vs, e1, e2, Reps.noref ds vs n e3⟩
  | .dct ks ds, _, n, h => by
    obtain ⟨a, vs, e1, e2, e4, e3⟩ := h
    exact ⟨a, vs, e1, e2, e4, Reps.noref ds vs n e3⟩
  | .ref i, _, n, h => by cases n
  | .obj c fs ds, _, n, h => by
    obtain ⟨a, C, dx, vs, e1, e2, e4, e5, e3⟩ := h
    exact ⟨a, C, dx, vs, e1, e2, e4, e5, Reps.noref ds vs n e3⟩
theorem Reps.noref {m m' : List Addr} {F : Hp} : ∀ (ds : List D) (vs : List V), noRefs ds = true → Reps K ct m F ds vs → Reps K ct m' F ds vs
  | [], _, _, h => h
  | d :: ds, _, n, h => by
    obtain ⟨v, r, e1, e2, e3⟩ := h
    have n : (noRef d && noRefs ds) = true := n
    simp only [Bool.and_eq_true] at n
    exact ⟨v, r, e1, Rep.noref d v n.1 e2, Reps.noref ds r n.2 e3⟩
end
mutual
theorem Rep.back {m m' : List Addr} {F F' : Hp} (hp : ∀ (i : Nat) (a : Addr), m[i]? = some a → m'[i]? = some a) : ∀ (d : D) (v0 v : V), Rep K ct m F d v0 → Rep K ct m' F' d v → Rep K ct m F' d v
  | .non, _, _, _, h => h
  | .bl _, _, _, _, h => h
  | .int _, _, _, _, h => h
  | .str _, _, _, _, h => h
  | .scr _, _, _, _, h => h
  | .tup ds, _, _, h0, h => by
    obtain ⟨a, vs, e1, e2, e3⟩ := h
    obtain ⟨_, vs0, _, _, e0⟩ := h0
    exact ⟨a, vs, e1, e2, Reps.back hp ds vs0 vs e0 e3⟩
  | .lst ds, _, _, h0, h => by
    obtain ⟨a, vs, e1, e2, e3⟩ := h
    obtain ⟨_, vs0, _, _, e0⟩ := h0
    exact ⟨a, vs, e1, e2, Reps.back hp ds vs0 vs e0 e3⟩
  | .dct ks ds, _, _, h0, h => by
    obtain ⟨a, vs, e1, e2, e4, e3⟩ := h
    obtain ⟨_, vs0, _, _, _, e0⟩ := h0
    exact ⟨a, vs, e1, e2, e4, Reps.back hp ds vs0 vs e0 e3⟩
  | .ref i, _, _, h0, h => by
    obtain ⟨a0, q1, q2⟩ := h0
    obtain ⟨a, q3, q4⟩ := h
    rw [hp i a0 q1] at q3
    cases q3
    exact ⟨a0, q1, q4⟩
  | .obj c fs ds, _, _, h0, h => by
    obtain ⟨a, C, dx, vs, e1, e2, e4, e5, e3⟩ := h
    obtain ⟨_, _, _, vs0, _, _, _, _, e0⟩ := h0
    exact ⟨a, C, dx, vs, e1, e2, e4, e5, Reps.back hp ds vs0 vs e0 e3⟩
theorem Reps.back {m m' : List Addr} {F F' : Hp} (hp : ∀ (i : Nat) (a : Addr), m[i]? = some a → m'[i]? = some a) : ∀ (ds : List D) (vs0 vs : List V), Reps K ct m F ds vs0 → Reps K ct m' F' ds vs → Reps K ct m F' ds vs
  | [], _, _, _, h => h
  | d :: ds, _, _, h0, h => by
    obtain ⟨v, r, e1, e2, e3⟩ := h
    obtain ⟨v0, r0, _, g2, g3⟩ := h0
    exact ⟨v, r, e1, Rep.back hp d v0 v g2 e2, Reps.back hp ds r0 r g3 e3⟩
end
def cellFree : Cell → Bool
  | .lst ds => noRefs ds
  | .dct kvs => kvs.all fun kv => noRef kv.2
  | .ins _ _ ds => noRefs ds
theorem CellR.noref {m m' : List Addr} {F : Hp} {o : Option HO} {c : Cell} (n : cellFree c = true) (h : CellR K ct m F o c) : CellR K ct m' F o c := by
  cases c with
  | lst ds => obtain ⟨vs, e1, e2⟩ := h; exact ⟨vs, e1, Reps.noref _ _ n e2⟩
  | dct kvs =>
    obtain ⟨us, e1, e2⟩ := h
    refine ⟨us, e1, ?_⟩
    replace n : (kvs.all fun kv => noRef kv.2) = true := n
    clear e1
    induction e2 with
    | nil => exact .nil
    | cons hh _ ih =>
      simp only [List.all_cons, Bool.and_eq_true] at n
      exact .cons ⟨hh.1, Rep.noref _ _ n.1 hh.2⟩ (ih n.2)
  | ins c fs ds => obtain ⟨C, dx, vs, e1, e4, e3, e2⟩ := h; exact ⟨C, dx, vs, e1, e4, e3, Reps.noref _ _ n e2⟩
theorem CellR.back {m m' : List Addr} {F F' : Hp} (hp : ∀ (i : Nat) (a : Addr), m[i]? = some a → m'[i]? = some a) {o o0 : Option HO} {c : Cell} (h0 : CellR K ct m F o0 c) (h : CellR K ct m' F' o c) : CellR K ct m F' o c := by
  cases c with
  | lst ds =>
    obtain ⟨vs, e1, e2⟩ := h
    obtain ⟨vs0, _, e0⟩ := h0
    exact ⟨vs, e1, Reps.back hp _ _ _ e0 e2⟩
  | dct kvs =>
    obtain ⟨us, e1, e2⟩ := h
    obtain ⟨us0, z0, e0⟩ := h0
    refine ⟨us, e1, ?_⟩
    clear e1 z0
    induction e2 generalizing us0 with
    | nil => exact .nil
    | cons hh _ ih =>
      cases e0 with
      | cons g0 g1 => exact .cons ⟨hh.1, Rep.back hp _ _ _ g0.2 hh.2⟩ (ih _ g1)
  | ins c fs ds =>
    obtain ⟨C, dx, vs, e1, e4, e3, e2⟩ := h
    obtain ⟨_, _, vs0, _, _, _, e0⟩ := h0
    exact ⟨C, dx, vs, e1, e4, e3, Reps.back hp _ _ _ e0 e2⟩
/-- the cells of S, as they stand now: unchanged, or without references -/
def Old (S S1 : Sto) : Prop := S1.length = S.length ∧ ∀ (i : Nat) (c : Cell), S1[i]? = some c → S[i]? = some c ∨ cellFree c = true
theorem Old.refl (S : Sto) : Old S S := ⟨rfl, fun _ _ h => .inl h⟩
/-- what a caller may be told in the place of g's own end: the cells that were made within are dropped; a list's cell among them may be handed back as a list that stays -/
inductive Told (S : Sto) : D × Sto → D × Sto → Prop
  | same (r : D × Sto) : Told S r r
  | drop {d : D} {S1 more : Sto} (h : noRef d = true) (ho : Old S S1) : Told S (d, S1 ++ more) (d, S1)
  | frzL {ds : List D} {S1 more : Sto} {i : Nat} (h : noRefs ds = true) (ho : Old S S1) (hi : more[i]? = some (.lst ds)) : Told S (.ref (S1.length + i), S1 ++ more) (.lst ds, S1)
theorem drop_sim {m m' : List Addr} {F F' H H' : Hp} {S S1 more : Sto} (ho : Old S S1) (s : Sim K ct m F S H) (x : Ext m F H m' F' H') (s' : Sim K ct m' F' (S1 ++ more) H') :
    Sim K ct (m'.take S1.length) F' S1 H' ∧ Ext m F H (m'.take S1.length) F' H' := by
  have hl := s'.len
  rw [List.length_append] at hl
  have sub : ∀ a ∈ m'.take S1.length, a ∈ m' := fun a h => List.mem_of_mem_take h
  have hml : m.length = S1.length := by rw [s.len, ho.1]
  have pre : ∀ (i : Nat) (a : Addr), m[i]? = some a → (m'.take S1.length)[i]? = some a := fun i a h => by
    have hi : i < m.length := (List.getElem?_eq_some_iff.mp h).1
    rw [List.getElem?_take_of_lt (by omega)]
    exact x.pre i a h
  have eqm : m = m'.take S1.length := by
    apply List.ext_getElem?
    intro i
    by_cases hi : i < m.length
    · have h1 : m[i]? = some m[i] := List.getElem?_eq_getElem hi
      rw [h1, pre i _ h1]
    · rw [List.getElem?_eq_none (by omega), List.getElem?_eq_none (by rw [List.length_take]; omega)]
  refine ⟨⟨s'.same, by rw [List.length_take]; omega, s'.nd.sublist (List.take_sublist _ _), fun a h => s'.off a (sub a h), fun i a c h1 h2 => ?_⟩, ⟨pre, x.same, x.keep, fun a h => x.new a (sub a h), x.fnew, x.grow⟩⟩
  have hi : i < S1.length := (List.getElem?_eq_some_iff.mp h2).1
  have h1' : m'[i]? = some a := by rw [List.getElem?_take_of_lt hi] at h1; exact h1
  have cr := s'.cell i a c h1' (by rw [List.getElem?_append_left hi]; exact h2)
  rcases ho.2 i c h2 with q | q
  · rw [← eqm]
    rw [← eqm] at h1
    exact CellR.back x.pre (s.cell i a c h1 q) cr
  · exact cr.noref q
end
section
variable {P : Program} {w : World} {K : PySem.W.Frag} {mg : Str → Option Value} {base : Heap} {ct : CT}
theorem told_ok {k n : Nat} {f : Addr} {fd : FuncData} {ps : List Str} {g g' : FD} (G : FnG P w K mg base k f fd ps (spD K ct n g)) (h : ∀ ds S r', g' ds S = some r' → ∃ r, g ds S = some r ∧ Told S r r') : FnG P w K mg base k f fd ps (spD K ct n g') := by
  refine G.imp fun vs H Q E hs => ?_
  obtain ⟨hl, m, F, S, ds, d', S1, sim, reps, hg, post⟩ := hs
  obtain ⟨⟨d, S'⟩, h1, h2⟩ := h ds S (d', S1) hg
  refine ⟨hl, m, F, S, ds, d, S', sim, reps, h1, ?_⟩
  cases h2 with
  | same => exact post
  | drop hn ho =>
    intro m' F' v H' x s' r
    obtain ⟨s2, x2⟩ := drop_sim ho sim x s'
    exact post _ F' v H' x2 s2 (Rep.noref _ _ hn r)
  | @frzL ds' _ more i hn ho hi =>
    intro m' F' v H' x s' r
    obtain ⟨s2, x2⟩ := drop_sim ho sim x s'
    obtain ⟨L, q1, q2⟩ := r
    subst q2
    have hL : (S1 ++ more)[S1.length + i]? = some (.lst ds') := by
      rw [List.getElem?_append_right (by omega), Nat.add_sub_cancel_left]
      exact hi
    obtain ⟨vs', c1, c2⟩ := s'.cell _ L _ q1 hL
    have mL : L ∈ m' := List.mem_iff_getElem?.mpr ⟨_, q1⟩
    have fL : F' L = none := s'.off L mL
    have nL : L ∉ m'.take S1.length := fun hm => by
      obtain ⟨j, hj⟩ := List.mem_iff_getElem?.mp hm
      have hjl : j < S1.length := by
        have := (List.getElem?_eq_some_iff.mp hj).1
        rw [List.length_take] at this
        omega
      rw [List.getElem?_take_of_lt hjl] at hj
      have := nodup_inj s'.nd hj q1
      omega
    have hH : H L = none := by
      rcases x.new L mL with z | z
      · obtain ⟨j, hj⟩ := List.mem_iff_getElem?.mp z
        exact absurd (List.mem_iff_getElem?.mpr ⟨j, x2.pre j L hj⟩) nL
      · exact z
    exact post _ (upd F' L (.lst vs')) (.ref L) H' (x2.freeze hH fL _) (s2.freeze nL fL c1) ⟨L, vs', rfl, upd_same, Reps.mono' (fun _ _ q => q) (same_upd fL _) _ _ (Reps.noref _ _ hn c2)⟩
end
end DL

namespace DL
open PySem PySem.Spec PyProof.Rows L2
section
variable {ct : CT} {X : Cx} {a b e : Expr} {es : List Expr} {fa fb f : FE} {fas : FA}
/-! ## list(range(n)), list(range(a, b)) -/
def fListR1 (fa : FE) : FE := fun env S => (fa env S).bind fun p => match p.1 with
  | .int n => if okR n = true ∧ n ≤ 16777216 then some (.lst (rangeD 0 n), p.2) else none
  | _ => none
def fListR2 (fa fb : FE) : FE := fun env S => (fa env S).bind fun p => (fb env p.2).bind fun q => match p.1, q.1 with
  | .int i, .int j => if okR i = true ∧ okR j = true ∧ j - i ≤ 16777216 then some (.lst (rangeD i j), q.2) else none
  | _, _ => none
theorem range_reps {K : PySem.W.Frag} {m : List Addr} {F : Hp} (a b : Int) : Reps K ct m F (rangeD a b) (rgV a b) := by
  unfold rangeD rgV
  induction List.range (b - a).toNat with
  | nil => exact rfl
  | cons n ns ih => exact ⟨_, _, rfl, rfl, ih⟩
theorem se_listR1 {p q pos pos' : Pos} (hc : X.calm = true) (hg : Gl X "list") (hm : X.mg "list" = none) (hg2 : Gl X "range") (hm2 : X.mg "range" = none) (ha : SE ct X a fa) (na : starEach [a] X.env = (false, eval a X.env) :: starEach [] X.env := by rfl)
    (nb : starEach [.Call (.Name "range" q) [a] [] pos'] X.env = (false, eval (.Call (.Name "range" q) [a] [] pos') X.env) :: starEach [] X.env := by rfl) : SE ct X (.Call (.Name "list" p) [.Call (.Name "range" q) [a] [] pos'] [] pos) (fListR1 fa) := by
  obtain ⟨ta, pa, ra⟩ := ha
  refine ⟨_, pe_listRg hc hg hm (prg_1 hg2 hm2 pa na) nb, fun m F S σ H env d S' Q s en h p => ?_⟩
  obtain ⟨⟨z, S1⟩, h1, h⟩ := bind_some h
  refine ra m F S σ H env z S1 _ s en h1 fun m1 F1 v1 H1 x1 s1 r1 => ?_
  cases z with
  | int n =>
    have h : (if okR n = true ∧ n ≤ 16777216 then some (D.lst (rangeD 0 n), S1) else none) = some (d, S') := h
    split at h
    · rename_i hn
      cases h
      refine ⟨n, r1, ⟨by decide, by decide, (okR_ok hn.1).1, (okR_ok hn.1).2, ?_⟩, fun q hq => ?_⟩
      · show (n - 0).toNat ≤ 2 ^ 24
        omega
      · obtain ⟨s2, x2⟩ := s1.frozen hq (.lst (rgV 0 n))
        exact p _ _ (.ref q) _ (x1.trans x2) s2 ⟨q, _, rfl, upd_same, range_reps 0 n⟩
    · cases h
  | _ => cases h
theorem se_listR2 {p q pos pos' : Pos} (hc : X.calm = true) (hg : Gl X "list") (hm : X.mg "list" = none) (hg2 : Gl X "range") (hm2 : X.mg "range" = none) (ha : SE ct X a fa) (hb : SE ct X b fb) (na : starEach [a, b] X.env = (false, eval a X.env) :: starEach [b] X.env := by rfl)
    (na2 : starEach [b] X.env = (false, eval b X.env) :: starEach [] X.env := by rfl) (hpp : ((backTo pos' (starEach [b] X.env)).any fun x => x.1) = false := by rfl)
    (nb : starEach [.Call (.Name "range" q) [a, b] [] pos'] X.env = (false, eval (.Call (.Name "range" q) [a, b] [] pos') X.env) :: starEach [] X.env := by rfl) : SE ct X (.Call (.Name "list" p) [.Call (.Name "range" q) [a, b] [] pos'] [] pos) (fListR2 fa fb) := by
  obtain ⟨ta, pa, ra⟩ := ha
  obtain ⟨tb, pb, rb⟩ := hb
  refine ⟨_, pe_listRg hc hg hm (prg_2 hg2 hm2 pa pb na na2 hpp) nb, fun m F S σ H env d S' Q s en h p => ?_⟩
  obtain ⟨⟨z, S1⟩, h1, h⟩ := bind_some h
  obtain ⟨⟨w, S2⟩, h2, h⟩ := bind_some h
  refine ra m F S σ H env z S1 _ s en h1 fun m1 F1 v1 H1 x1 s1 r1 => ?_
  refine rb m1 F1 S1 σ H1 env w S2 _ s1 (en.mono x1) h2 fun m2 F2 v2 H2 x2 s2 r2 => ?_
  cases z with
  | int i =>
    cases w with
    | int j =>
      have h : (if okR i = true ∧ okR j = true ∧ j - i ≤ 16777216 then some (D.lst (rangeD i j), S2) else none) = some (d, S') := h
      split at h
      · rename_i hn
        cases h
        refine ⟨i, j, r1, r2, ⟨(okR_ok hn.1).1, (okR_ok hn.1).2, (okR_ok hn.2.1).1, (okR_ok hn.2.1).2, ?_⟩, fun q hq => ?_⟩
        · show (j - i).toNat ≤ 2 ^ 24
          omega
        · obtain ⟨s3, x3⟩ := s2.frozen hq (.lst (rgV i j))
          exact p _ _ (.ref q) _ ((x1.trans x2).trans x3) s3 ⟨q, _, rfl, upd_same, range_reps i j⟩
      · cases h
    | _ => cases h
  | _ => cases h
end
/-! ## written things by name -/
def KG (w : World) (K : PySem.W.Frag) (mg : Str → Option Value) (n : Str) (tab : List (Str × Int)) : Prop := ∃ g, mg n = some (.ref g) ∧ KD K w g tab
def CG (mg : Str → Option Value) (n : Str) (v : V) : Prop := ∃ u, mg n = some u ∧ RelV v u
section
variable {ct : CT} {X : Cx} {e k x : Expr} {f fk fx : FE} {tab : List (Str × Int)} {n : Str}
theorem se_globC {v : V} {d : D} {pos : Pos} (hg : Gl X n) (c : CG X.mg n v) (hr : ∀ m F, Rep X.K ct m F d v) (hd : (n == ("__debug__" : Str)) = false := by decide) : SE ct X (.Name n pos) (fC d) := by
  obtain ⟨u, h1, h2⟩ := c
  exact se_glob hg h1 h2 hr hd
theorem se_kinG {p pos : Pos} (d : KG X.w X.K X.mg n tab) (hg : Gl X n) (he : SE ct X e f) (hd : (n == ("__debug__" : Str)) = false := by decide) : SE ct X (.Compare e [.In] [.Name n p] pos) (fKIn false tab f) := by
  obtain ⟨g, h1, h2⟩ := d
  exact se_kin h2 hg h1 he hd
theorem se_knotinG {p pos : Pos} (d : KG X.w X.K X.mg n tab) (hg : Gl X n) (he : SE ct X e f) (hd : (n == ("__debug__" : Str)) = false := by decide) : SE ct X (.Compare e [.NotIn] [.Name n p] pos) (fKIn true tab f) := by
  obtain ⟨g, h1, h2⟩ := d
  exact se_knotin h2 hg h1 he hd
theorem st_kinG {p pos : Pos} (d : KG X.w X.K X.mg n tab) (hg : Gl X n) (he : SE ct X e f) (hd : (n == ("__debug__" : Str)) = false := by decide) : ST ct X (.Compare e [.In] [.Name n p] pos) (fTest (fKIn false tab f)) := by
  obtain ⟨g, h1, h2⟩ := d
  exact st_kin h2 hg h1 he hd
theorem st_knotinG {p pos : Pos} (d : KG X.w X.K X.mg n tab) (hg : Gl X n) (he : SE ct X e f) (hd : (n == ("__debug__" : Str)) = false := by decide) : ST ct X (.Compare e [.NotIn] [.Name n p] pos) (fTest (fKIn true tab f)) := by
  obtain ⟨g, h1, h2⟩ := d
  exact st_knotin h2 hg h1 he hd
theorem se_kixG {p pos : Pos} (d : KG X.w X.K X.mg n tab) (hg : Gl X n) (he : SE ct X e f) (hs : PlainIx e) (hd : (n == ("__debug__" : Str)) = false := by decide) : SE ct X (.Subscript (.Name n p) e pos) (fKIx tab f) := by
  obtain ⟨g, h1, h2⟩ := d
  exact se_kix h2 hg h1 he hs hd
theorem se_kget2G {p apos cpos : Pos} (d : KG X.w X.K X.mg n tab) (hg : Gl X n) (hk : SE ct X k fk) (hx : SE ct X x fx) (m : M2 X (.Name n p) "get" apos k x cpos) (hd : (n == ("__debug__" : Str)) = false := by decide) :
    SE ct X (.Call (.Attribute (.Name n p) "get" apos) [k, x] [] cpos) (fKGet2 tab fk fx) := by
  obtain ⟨g, h1, h2⟩ := d
  exact se_kget2 h2 hg h1 hk hx m hd
end
/-! ## defs by name -/
/-- the values of a call by name, in the parameters' order -/
def kwG (idx : List Nat) {α : Type} (vs zs : List α) : List α := vs ++ idx.filterMap fun i => zs[i]?
abbrev KWB := List (List Str × List Nat)
def KwOk (K : PySem.W.Frag) (fd : FuncData) (ps : List Str) (n : Nat) (kwb : KWB) : Prop := ∀ b ∈ kwb, KBn K fd ps n b.1 (kwG b.2) (kwG b.2)
def Callee (P : Program) (w : World) (K : PySem.W.Frag) (mg : Str → Option Value) (base : Heap) (ct : CT) (k : Nat) (x : Str) (n : Nat) (g : FD) (kwb : KWB := []) : Prop :=
  ∃ (f : Addr) (fd : FuncData) (ps : List Str), mg x = some (.ref f) ∧ PySem.W.keepIn K (.ref f) = true ∧ (Binds K fd ps [] ∧ KwOk K fd ps 0 kwb) ∧ FnG P w K mg base k f fd ps (spD K ct n g)
def DefAt (K : PySem.W.Frag) (mg : Str → Option Value) (x : Str) (st : Stmt) (ps : List Str) (kwb : KWB := []) : Prop := ∃ (f : Addr) (fd : FuncData), Fun K x x st f fd ∧ mg x = some (.ref f) ∧ Binds K fd ps [] ∧ KwOk K fd ps 0 kwb
section
variable {P : Program} {w : World} {K : PySem.W.Frag} {mg : Str → Option Value} {base : Heap} {ct : CT}
theorem Callee.mono {j k n : Nat} {x : Str} {g : FD} {kwb : KWB} (c : Callee P w K mg base ct j x n g kwb) (h : j ≤ k) : Callee P w K mg base ct k x n g kwb := by
  obtain ⟨f, fd, ps, h1, h2, h3, h4⟩ := c
  exact ⟨f, fd, ps, h1, h2, h3, h4.mono h⟩
theorem Callee.told {k n : Nat} {x : Str} {g g' : FD} {kwb : KWB} (c : Callee P w K mg base ct k x n g kwb) (h : ∀ ds S r', g' ds S = some r' → ∃ r, g ds S = some r ∧ Told S r r') : Callee P w K mg base ct k x n g' kwb := by
  obtain ⟨f, fd, ps, h1, h2, h3, h4⟩ := c
  exact ⟨f, fd, ps, h1, h2, h3, told_ok h4 h⟩
theorem callee_of {x : Str} {st : Stmt} {N ps : List Str} {k : Nat} {g : FS} {kwb : KWB} (d : DefAt K mg x st ps kwb) (S : FnScope N ps (defScope st))
    (hbody : ∀ (f : Addr) (cdv : Value) (A : Around) (outer : List Env) (s : Shared) (H : Hp) (E : XK), RoomG k (A.deeper (envOfC x (defScope st) s.heap.objs.size f cdv)) →
      SSs ct (cxOf CX0 P w K mg base N x (defScope st) f cdv A outer s H E).nox (defBody st) g) : Callee P w K mg base ct (k + 1) x ps.length (runD N.length g) kwb := by
  obtain ⟨f, fd, F, h1, h3⟩ := d
  exact ⟨f, fd, ps, h1, F.kp, h3, def_ok F S (hbody f)⟩
end
section
variable {ct : CT} {X : Cx} {e : Expr} {es : List Expr} {fas : FA} {x : Str} {p pos : Pos}
theorem se_fn {k n : Nat} {g : FD} {kwb : KWB} (C : Callee X.prog X.w X.K X.mg X.base ct k x n g kwb) (hr : RoomG k X.A) (hg : Gl X x) (ha : SA ct X (e :: es) fas) (hn : ∀ env S ds S', fas env S = some (ds, S') → ds.length = n) (hdb : (x == ("__debug__" : Str)) = false := by decide)
    (he : starEach (e :: es) X.env = (false, eval e X.env) :: starEach es X.env := by rfl) (hpl : (backTo pos (starEach es X.env)).any (·.1) = false := by rfl) : SE ct X (.Call (.Name x p) (e :: es) [] pos) (fCall g fas) := by
  obtain ⟨f, fd, ps, h1, h2, h3, h4⟩ := C
  exact se_call h4 hr hg h1 h2 h3.1 ha hn hdb he hpl
end
end DL

namespace DL
open PySem PySem.Spec PyProof.Rows L2
/-! ## a written dict by its entries -/
def TabOk (P : Params) : List (Str × Int) → List DictEntry → Prop
  | [], [] => True
  | p :: tab, e :: l => (∃ t t', e.key = .str p.1 t ∧ e.hash = PyData.keyHash P p.1 ∧ e.val = .int p.2 t') ∧ TabOk P tab l
  | _, _ => False
theorem TabOk.lit {P : Params} : ∀ {tab : List (Str × Int)} {l : List DictEntry}, TabOk P tab l → PySem.W.KeysLit P l
  | [], [], _ => trivial
  | p :: tab, e :: l, h => ⟨let ⟨t, _, h1, h2, _⟩ := h.1; ⟨p.1, t, h1, h2⟩, TabOk.lit h.2⟩
  | [], _ :: _, h => h.elim
  | _ :: _, [], h => h.elim
theorem TabOk.find {P : Params} (z : Str) : ∀ {tab : List (Str × Int)} {l : List DictEntry}, TabOk P tab l → RelO ((tab.lookup z).map V.int) ((l.find? fun e => e.key.isStr z).map (·.val)) ∧ (l.any fun e => e.refKey) = false
  | [], [], _ => ⟨trivial, rfl⟩
  | p :: tab, e :: l, h => by
    obtain ⟨⟨t, t', h1, h2, h3⟩, h4⟩ := h
    obtain ⟨i1, i2⟩ := TabOk.find z h4
    obtain ⟨k, i⟩ := p
    have hk : e.key.isStr z = (z == k) := by
      rw [h1, PySem.W.isStr_of]
      simp [Value.isStrOf, BEq.comm]
    refine ⟨?_, ?_⟩
    · rw [List.find?_cons, hk, List.lookup_cons]
      cases hz : z == k with
      | true => exact ⟨t', h3⟩
      | false => exact i1
    · rw [List.any_cons, i2]
      have : e.refKey = false := by
        unfold DictEntry.refKey
        rw [h1]
      rw [this]; rfl
  | [], _ :: _, h => h.elim
  | _ :: _, [], h => h.elim
theorem kg_of {w : World} {K : PySem.W.Frag} {mg : Str → Option Value} {n : Str} {tab : List (Str × Int)} {g : Addr} {es : Array DictEntry} {c : Nat} (hm : mg n = some (.ref g)) (hl : K.lookup g = some ⟨.type "dict", none, .dict es c, #[]⟩) (ht : TabOk w.params tab es.toList) (lo : (g == sysModules) = false) : KG w K mg n tab := by
  refine ⟨g, hm, ⟨es, c, hl, ht.lit, lo⟩, fun z => ?_⟩
  obtain ⟨h1, h2⟩ := ht.find z
  unfold PySem.W.nsIn
  rw [hl]
  dsimp only
  cases hf : es.toList.find? (fun e => e.key.isStr z) with
  | some e =>
    rw [hf] at h1
    exact ⟨some e.val, rfl, h1⟩
  | none =>
    rw [hf] at h1
    refine ⟨none, ?_, h1⟩
    simp only [h2]
    rfl
/-- the law's end: the script alone is tracked -/
theorem sp_law {K : PySem.W.Frag} {ct : CT} {g : FD} {H : Hp} {a : Addr} {ns : List Int} {E : XK} (hS : SqL K H a (ns.map V.int)) (h : ∃ S', g [.scr ns] [] = some (.bl true, S')) : spD K ct 1 g [.ref a] H (fun v _ => v = .bl true) E := by
  obtain ⟨S', h⟩ := h
  exact ⟨rfl, [], H, [], [.scr ns], .bl true, S', ⟨Same.refl _, rfl, List.nodup_nil, fun a h => (by cases h), fun i a c h1 h2 => (by simp at h1)⟩, ⟨_, _, rfl, ⟨a, rfl, hS⟩, rfl⟩, h, fun m' F' v H' _ _ r => r⟩
end DL

namespace DL
open PySem PySem.Spec PyProof.Rows L2
/-! ## steps of a run -/
section
variable {env env' : DEnv} {S S1 S2 : Sto} {f1 f2 : FS} {t : FT} {f : FE} {d : D}
theorem seq_nx (h : f1 env S = some (.nx env', S1)) : sSeq f1 f2 env S = f2 env' S1 := by unfold sSeq; rw [h]; rfl
theorem seq_rt (h : f1 env S = some (.rt d, S1)) : sSeq f1 f2 env S = some (.rt d, S1) := by unfold sSeq; rw [h]; rfl
theorem if_t (h : t env S = some (true, S1)) : sIf t f1 f2 env S = f1 env S1 := by unfold sIf; rw [h]; rfl
theorem if_f (h : t env S = some (false, S1)) : sIf t f1 f2 env S = f2 env S1 := by unfold sIf; rw [h]; rfl
theorem ret_of (h : f env S = some (d, S1)) : sRet f env S = some (.rt d, S1) := by unfold sRet; rw [h]; rfl
theorem asg_of {g : FG} (h : f env S = some (d, S1)) (hg : g d env S1 = some (env', S2)) : sAsg f g env S = some (.nx env', S2) := by unfold sAsg; rw [h]; show (g d env S1).map _ = _; rw [hg]; rfl
theorem set_of {i : Nat} (h : f env S = some (d, S1)) : sAsg f (gN i) env S = some (.nx (env.set i (some d)), S1) := by unfold sAsg; rw [h]; rfl
theorem expr_of (h : f env S = some (d, S1)) : sExpr f env S = some (.nx env, S1) := by unfold sExpr; rw [h]; rfl
theorem call_of {g : FD} {fas : FA} {ds : List D} {r : D × Sto} (h : fas env S = some (ds, S1)) (hg : g ds S1 = some r) : fCall g fas env S = some r := by unfold fCall; rw [h]; exact hg
theorem test_of {b : Bool} (h : f env S = some (.bl b, S1)) : fTest f env S = some (b, S1) := by unfold fTest; rw [h]; rfl
theorem run_of {n : Nat} {g : FS} {ds : List D} (h : g (ds.map some ++ List.replicate (n - ds.length) none) S = some (.rt d, S1)) : runD n g ds S = some (d, S1) := by unfold runD; rw [h]; rfl
theorem run_of0 {n : Nat} {g : FS} {ds : List D} (h : g (ds.map some ++ List.replicate (n - ds.length) none) S = some (.nx env', S1)) : runD n g ds S = some (.non, S1) := by unfold runD; rw [h]; rfl
theorem tnot_of {b : Bool} (h : t env S = some (b, S1)) : tNotD t env S = some (!b, S1) := by unfold tNotD; rw [h]; rfl
theorem for_of {fi : FA} {g : FG} {items : List D} {r : Fl × Sto} (h : fi env S = some (items, S1)) (hf : forD g f1 items env S1 = some r) : sFor fi g f1 env S = some r := by unfold sFor; rw [h]; exact hf
theorem if_of {fa fb : FE} {b : Bool} {r : D × Sto} (h : t env S = some (b, S1)) (h2 : (if b = true then fa env S1 else fb env S1) = some r) : fIf t fa fb env S = some r := by unfold fIf; rw [h]; exact h2
theorem bin_of {g : D → D → Sto → Option (D × Sto)} {fa fb : FE} {x y : D} {r : D × Sto} (h1 : fa env S = some (x, S1)) (h2 : fb env S1 = some (y, S2)) (h3 : g x y S2 = some r) : fBin g fa fb env S = some r := by unfold fBin; rw [h1]; show (fb env S1).bind _ = _; rw [h2]; exact h3
theorem chain_of {g g' : D → D → Sto → Option (D × Sto)} {fa fb fc : FE} {x y : D} {b : Bool} {S3 : Sto} (h1 : fa env S = some (x, S1)) (h2 : fb env S1 = some (y, S2)) (h3 : g x y S2 = some (.bl b, S3)) :
    fChain g g' fa fb fc env S = if b = true then (fc env S3).bind (fun w => g' y w.1 w.2) else some (.bl false, S3) := by
  unfold fChain; rw [h1]; show (fb env S1).bind _ = _; rw [h2]; show (g x y S2).bind _ = _; rw [h3]; cases b <;> rfl
theorem or_of {u : FT} {b : Bool} (h : t env S = some (b, S1)) : tOrD t u env S = if b = true then some (true, S1) else u env S1 := by unfold tOrD; rw [h]; rfl
theorem and_of {u : FT} {b : Bool} (h : t env S = some (b, S1)) : tAndD t u env S = if b = true then u env S1 else some (false, S1) := by unfold tAndD; rw [h]; rfl
theorem vor_of {fa fb : FE} {b : Bool} (h : fa env S = some (.bl b, S1)) : fOr fa fb env S = if b = true then some (.bl true, S1) else fb env S1 := by unfold fOr; rw [h]; cases b <;> rfl
theorem vand_of {fa fb : FE} {b : Bool} (h : fa env S = some (.bl b, S1)) : fAnd fa fb env S = if b = true then fb env S1 else some (.bl false, S1) := by unfold fAnd; rw [h]; cases b <;> rfl
theorem cons_of {fs : FA} {x : D} {ys : List D} (h1 : f env S = some (x, S1)) (h2 : fs env S1 = some (ys, S2)) : fCons f fs env S = some (x :: ys, S2) := by unfold fCons; rw [h1]; show (fs env S1).bind _ = _; rw [h2]; rfl
/-! ## loops by an invariant -/
theorem for_inv {g : FG} {body : FS} {items : List D} (I : Nat → DEnv → Sto → Prop) (h0 : I 0 env S)
    (hs : ∀ i d env S, items[i]? = some d → I i env S → ∃ env1 S1 env2 S2, g d env S = some (env1, S1) ∧ body env1 S1 = some (.nx env2, S2) ∧ I (i + 1) env2 S2) : ∃ env' S', forD g body items env S = some (.nx env', S') ∧ I items.length env' S' := by
  suffices h : ∀ (r : List D) (i : Nat) (env : DEnv) (S : Sto), items.drop i = r → I i env S → ∃ env' S', forD g body r env S = some (.nx env', S') ∧ I (i + r.length) env' S' by
    obtain ⟨e1, S1, h1, h2⟩ := h items 0 env S rfl h0
    exact ⟨e1, S1, h1, by simpa using h2⟩
  intro r
  induction r with
  | nil => intro i env S _ hi; exact ⟨env, S, rfl, hi⟩
  | cons d r ih =>
    intro i env S hd hi
    obtain ⟨q1, q2⟩ := drop_cons hd
    obtain ⟨env1, S1, env2, S2, a1, a2, a3⟩ := hs i d env S q1 hi
    obtain ⟨env', S', b1, b2⟩ := ih (i + 1) env2 S2 q2 a3
    refine ⟨env', S', ?_, by rw [List.length_cons, ← Nat.add_assoc, Nat.add_right_comm]; exact b2⟩
    unfold forD
    rw [a1]
    show (body env1 S1).bind _ = _
    rw [a2]
    exact b1
/-- a loop over the items of a list, by membership -/
theorem for_mem {g : FG} {body : FS} {items : List D} (I : DEnv → Sto → Prop) (h0 : I env S)
    (hs : ∀ d ∈ items, ∀ env S, I env S → ∃ env1 S1 env2 S2, g d env S = some (env1, S1) ∧ body env1 S1 = some (.nx env2, S2) ∧ I env2 S2) : ∃ env' S', forD g body items env S = some (.nx env', S') ∧ I env' S' :=
  for_inv (fun _ => I) h0 fun i d env S hi h => hs d (List.mem_of_getElem? hi) env S h
end
/-! ## the last cell of a store -/
theorem get_last (S : Sto) (c : Cell) : (S ++ [c])[S.length]? = some c := by simp
theorem set_last (S : Sto) (c d : Cell) : (S ++ [c]).set S.length d = S ++ [d] := by simp
theorem gset_at (S : Sto) (kvs : List (Key × D)) (x : Str) (v : D) (h : kvs.length ≤ 1000000) : gSetA (.ref S.length) (.str x) v (S ++ [.dct kvs]) = some (S ++ [.dct (putA kvs (.inr x) v)]) := by
  unfold gSetA
  simp only [get_last, set_last, toKey]
  rw [if_pos h]
  rfl
theorem kvs_last (S : Sto) (kvs : List (Key × D)) : kvsOf (.ref S.length) (S ++ [.dct kvs]) = some kvs := by
  unfold kvsOf
  simp only [get_last]
theorem putA_len {α : Type} (kvs : List (Key × α)) (k : Key) (v : α) : (putA kvs k v).length ≤ kvs.length + 1 := by
  unfold putA
  split <;> simp
section
variable {env : DEnv} {S : Sto} {kvs : List (Key × D)} {i : Nat} {e e1 e2 e3 : FE} {v v1 v2 v3 : D} {fk fk1 fk2 fk3 : FE} {a b c : Str}
theorem asg1_at (hi : env[i]? = some (some (.ref S.length))) (hl : kvs.length ≤ 100) (h1 : e env (S ++ [.dct kvs]) = some (v, S ++ [.dct kvs])) (k1 : ∀ S, fk env S = some (.str a, S)) :
    sAsg e (gSub gSetA (fVar i) fk) env (S ++ [.dct kvs]) = some (.nx env, S ++ [.dct (putA kvs (.inr a) v)]) := by
  refine asg_of h1 ?_
  unfold gSub fVar
  simp only [hi, Option.bind_some, k1, gset_at _ _ _ _ (Nat.le_trans hl (by decide)), Option.map_some]
theorem asg2_at (hi : env[i]? = some (some (.ref S.length))) (hl : kvs.length ≤ 100) (h1 : e1 env (S ++ [.dct kvs]) = some (v1, S ++ [.dct kvs])) (h2 : e2 env (S ++ [.dct kvs]) = some (v2, S ++ [.dct kvs]))
    (k1 : ∀ S, fk1 env S = some (.str a, S)) (k2 : ∀ S, fk2 env S = some (.str b, S)) :
    sAsg (fTup (fCons e1 (fCons e2 fNil))) (gTup 2 (gCons (gSub gSetA (fVar i) fk1) (gCons (gSub gSetA (fVar i) fk2) gNil))) env (S ++ [.dct kvs]) = some (.nx env, S ++ [.dct (putA (putA kvs (.inr a) v1) (.inr b) v2)]) := by
  have l1 := putA_len kvs (.inr a) v1
  refine asg_of (d := .tup [v1, v2]) (S1 := S ++ [.dct kvs]) ?_ ?_
  · unfold fTup fCons fNil
    simp only [h1, h2, Option.bind_some, List.length_cons, List.length_nil]
    rfl
  · show (gCons (gSub gSetA (fVar i) fk1) (gCons (gSub gSetA (fVar i) fk2) gNil)) [v1, v2] env (S ++ [.dct kvs]) = _
    unfold gCons gNil gSub fVar
    simp only [hi, Option.bind_some, k1, k2, gset_at _ _ _ _ (show kvs.length ≤ 1000000 by omega), gset_at _ _ _ _ (show (putA kvs (.inr a) v1).length ≤ 1000000 by omega), Option.map_some]
theorem asg3_at (hi : env[i]? = some (some (.ref S.length))) (hl : kvs.length ≤ 100) (h1 : e1 env (S ++ [.dct kvs]) = some (v1, S ++ [.dct kvs])) (h2 : e2 env (S ++ [.dct kvs]) = some (v2, S ++ [.dct kvs])) (h3 : e3 env (S ++ [.dct kvs]) = some (v3, S ++ [.dct kvs]))
    (k1 : ∀ S, fk1 env S = some (.str a, S)) (k2 : ∀ S, fk2 env S = some (.str b, S)) (k3 : ∀ S, fk3 env S = some (.str c, S)) :
    sAsg (fTup (fCons e1 (fCons e2 (fCons e3 fNil)))) (gTup 3 (gCons (gSub gSetA (fVar i) fk1) (gCons (gSub gSetA (fVar i) fk2) (gCons (gSub gSetA (fVar i) fk3) gNil)))) env (S ++ [.dct kvs]) = some (.nx env, S ++ [.dct (putA (putA (putA kvs (.inr a) v1) (.inr b) v2) (.inr c) v3)]) := by
  have l1 := putA_len kvs (.inr a) v1
  have l2 := putA_len (putA kvs (.inr a) v1) (.inr b) v2
  refine asg_of (d := .tup [v1, v2, v3]) (S1 := S ++ [.dct kvs]) ?_ ?_
  · unfold fTup fCons fNil
    simp only [h1, h2, h3, Option.bind_some, List.length_cons, List.length_nil]
    rfl
  · show (gCons (gSub gSetA (fVar i) fk1) (gCons (gSub gSetA (fVar i) fk2) (gCons (gSub gSetA (fVar i) fk3) gNil))) [v1, v2, v3] env (S ++ [.dct kvs]) = _
    unfold gCons gNil gSub fVar
    simp only [hi, Option.bind_some, k1, k2, k3, gset_at _ _ _ _ (show kvs.length ≤ 1000000 by omega), gset_at _ _ _ _ (show (putA kvs (.inr a) v1).length ≤ 1000000 by omega), gset_at _ _ _ _ (show (putA (putA kvs (.inr a) v1) (.inr b) v2).length ≤ 1000000 by omega), Option.map_some]
end
end DL

namespace DL
open PySem PySem.Spec PyProof.Rows L2 TL
/-! ## numbers as texts -/
def numT (n : Nat) : Str := Str.ofString (toString ((n : Nat) : Int))
theorem numT_tl (n : Nat) : (numT n).cps.toList = numL n := tl_num n
theorem numT_len (n : Nat) : (numT n).length = (numL n).length := by
  have := numT_tl n
  unfold Str.length
  rw [← this]
  simp
def DIG : Str := "0123456789"
theorem dig_list : DIG.cps.toList = [48, 49, 50, 51, 52, 53, 54, 55, 56, 57] := by decide +kernel
theorem dig_iff (c : Nat) : decide (c ∈ DIG.cps.toList) = (decide (48 ≤ c) && decide (c ≤ 57)) := by
  rw [dig_list]
  by_cases h : 48 ≤ c ∧ c ≤ 57
  · have : c = 48 ∨ c = 49 ∨ c = 50 ∨ c = 51 ∨ c = 52 ∨ c = 53 ∨ c = 54 ∨ c = 55 ∨ c = 56 ∨ c = 57 := by omega
    rcases this with rfl | rfl | rfl | rfl | rfl | rfl | rfl | rfl | rfl | rfl <;> decide
  · rw [decide_eq_false (by simp; omega)]
    by_cases h1 : 48 ≤ c
    · have h2 : ¬ c ≤ 57 := fun q => h ⟨h1, q⟩
      rw [decide_eq_false h2, Bool.and_false]
    · rw [decide_eq_false h1, Bool.false_and]
theorem notIn_dig (c : Nat) (S : Sto) : gNotIn (.str ⟨#[c]⟩) (.str DIG) S = some (.bl (!(decide (48 ≤ c) && decide (c ≤ 57))), S) := by
  show some (D.bl (!(!(Builtin.Str.occurrences DIG ⟨#[c]⟩ 0 DIG.length 1).isEmpty)), S) = _
  rw [PySem.StrLaws.found_one, dig_iff]
theorem in_dig (c : Nat) (S : Sto) : gIn (.str ⟨#[c]⟩) (.str DIG) S = some (.bl (decide (48 ≤ c) && decide (c ≤ 57)), S) := by
  show some (D.bl (!(Builtin.Str.occurrences DIG ⟨#[c]⟩ 0 DIG.length 1).isEmpty), S) = _
  rw [PySem.StrLaws.found_one, dig_iff]
/-- [sign not in DIGITS for sign in text] -/
theorem lc_notdig {env : DEnv} {i : Nat} (hi : i < env.length) (S : Sto) : ∀ l : List Nat, lcD (gN i) tYesD (fBin gNotIn (fVar i) (fC (.str DIG))) env (l.map fun c => D.str ⟨#[c]⟩) S = some (l.map fun c => D.bl (!(decide (48 ≤ c) && decide (c ≤ 57))), S)
  | [] => rfl
  | c :: l => by
    have e : (env.set i (some (D.str ⟨#[c]⟩)))[i]? = some (some (D.str ⟨#[c]⟩)) := by rw [List.getElem?_set_self hi]
    have ih := lc_notdig hi S l
    simp only [List.map_cons, lcD, gN, tYesD, Option.bind_some, if_true, fBin, fVar, fC, e, notIn_dig, ih]
theorem asBools_map (p : Nat → Bool) : ∀ l : List Nat, asBools (l.map fun c => D.bl (p c)) = some (l.map p)
  | [] => rfl
  | c :: l => by
    show (asBools (l.map fun c => D.bl (p c))).map _ = _
    rw [asBools_map p l]
    rfl
theorem numL_head : ∀ n : Nat, 0 < n → ∃ c r, numL n = c :: r ∧ c ≠ 48 := by
  intro n
  induction n using Nat.strongRecOn with
  | _ n ih =>
    intro hn
    by_cases h : n < 10
    · exact ⟨48 + n, [], numL_lt h, by omega⟩
    · obtain ⟨c, r, e, hc⟩ := ih (n / 10) (by omega) (by omega)
      rw [numL_step (by omega), e]
      exact ⟨c, r ++ [48 + n % 10], rfl, hc⟩
theorem lc_nat (env : DEnv) (f : FE) (x : Str) (S : Sto) (i : Nat) (hf : f env S = some (.str x, S)) (hi : i < env.length) (hx : x.length ≤ 1000000) :
    fLc (iStrD f) (gN i) tYesD (fBin gNotIn (fVar i) (fC (.str DIG))) [i] env S = some (.lst (x.cps.toList.map fun c => D.bl (!(decide (48 ≤ c) && decide (c ≤ 57)))), S) := by
  unfold fLc iStrD
  rw [hf]
  show (if (x.cps.toList.map fun c => D.str ⟨#[c]⟩).length ≤ 1000000 then (lcD _ _ _ (wipeD env [i]) (x.cps.toList.map fun c => D.str ⟨#[c]⟩) S).bind _ else none) = _
  have hl : (x.cps.toList.map fun c => D.str ⟨#[c]⟩).length ≤ 1000000 := by
    rw [List.length_map]
    simpa [Str.length] using hx
  rw [if_pos hl, lc_notdig (by show i < (env.set i none).length; simpa using hi)]
  rfl
end DL

namespace DL
open PySem PySem.Spec PyProof.Rows L2
/-! ## runs, by what holds behind them -/
def R {α : Type} (o : Option (α × Sto)) (P : α → Sto → Prop) : Prop := ∃ a S', o = some (a, S') ∧ P a S'
section
variable {α β : Type} {env : DEnv} {S S1 : Sto} {f1 f2 : FS} {t u : FT} {f fa fb fc : FE} {fas : FA}
theorem R.of {o : Option (α × Sto)} {P : α → Sto → Prop} {a : α} (h : o = some (a, S1)) (p : P a S1) : R o P := ⟨a, S1, h, p⟩
theorem R.imp {o : Option (α × Sto)} {P P' : α → Sto → Prop} (h : R o P) (hp : ∀ a S, P a S → P' a S) : R o P' := by
  obtain ⟨a, S', e, p⟩ := h
  exact ⟨a, S', e, hp _ _ p⟩
theorem R.bind {o : Option (α × Sto)} {k : α × Sto → Option (β × Sto)} {P : β → Sto → Prop} (h : R o fun a S => R (k (a, S)) P) : R (o.bind k) P := by
  obtain ⟨a, S', e, p⟩ := h
  rw [e]
  exact p
theorem R.eq {o : Option (α × Sto)} {a : α} (h : R o fun x S' => x = a ∧ S' = S) : o = some (a, S) := by
  obtain ⟨x, S', e, h1, h2⟩ := h
  rw [e, h1, h2]
def PFl (P : Fl → Sto → Prop) (f2 : FS) : Fl → Sto → Prop
  | .nx env', S1 => R (f2 env' S1) P
  | fl, S1 => P fl S1
theorem r_seq {P : Fl → Sto → Prop} (h : R (f1 env S) (PFl P f2)) : R (sSeq f1 f2 env S) P := by
  obtain ⟨fl, S', e, p⟩ := h
  unfold sSeq
  rw [e]
  cases fl with
  | nx env' => exact p
  | rt d => exact ⟨_, _, rfl, p⟩
  | bk e => exact ⟨_, _, rfl, p⟩
  | ct e => exact ⟨_, _, rfl, p⟩
theorem r_nx {P : Fl → Sto → Prop} {env' : DEnv} (h : f1 env S = some (.nx env', S1)) (k : R (f2 env' S1) P) : R (sSeq f1 f2 env S) P := r_seq (R.of h k)
theorem r_if {P : Fl → Sto → Prop} (h : R (t env S) fun b S1 => if b = true then R (f1 env S1) P else R (f2 env S1) P) : R (sIf t f1 f2 env S) P := by
  obtain ⟨b, S', e, p⟩ := h
  unfold sIf
  rw [e]
  show R (if b = true then f1 env S' else f2 env S') P
  cases b <;> exact p
theorem r_ifT {P : Fl → Sto → Prop} (h : t env S = some (true, S1)) (k : R (f1 env S1) P) : R (sIf t f1 f2 env S) P := r_if (R.of h k)
theorem r_ifF {P : Fl → Sto → Prop} (h : t env S = some (false, S1)) (k : R (f2 env S1) P) : R (sIf t f1 f2 env S) P := r_if (R.of h k)
theorem r_set {P : Fl → Sto → Prop} {i : Nat} (h : R (f env S) fun d S1 => P (.nx (env.set i (some d))) S1) : R (sAsg f (gN i) env S) P := by
  obtain ⟨d, S', e, p⟩ := h
  exact ⟨_, _, set_of e, p⟩
theorem r_ret {P : Fl → Sto → Prop} (h : R (f env S) fun d S1 => P (.rt d) S1) : R (sRet f env S) P := by
  obtain ⟨d, S', e, p⟩ := h
  exact ⟨_, _, ret_of e, p⟩
theorem r_skip {P : Fl → Sto → Prop} (h : P (.nx env) S) : R (sSkip env S) P := ⟨_, _, rfl, h⟩
theorem r_call {P : D → Sto → Prop} {g : FD} {ds : List D} (h : fas env S = some (ds, S1)) (hg : R (g ds S1) P) : R (fCall g fas env S) P := by
  obtain ⟨d, S', e, p⟩ := hg
  exact ⟨_, _, call_of h e, p⟩
theorem r_callA {P : D → Sto → Prop} {g : FD} (h : R (fas env S) fun ds S1 => R (g ds S1) P) : R (fCall g fas env S) P := by
  obtain ⟨ds, S', e, d, S2, e2, p⟩ := h
  exact ⟨_, _, call_of e e2, p⟩
theorem r_nil {P : List D → Sto → Prop} (h : P [] S) : R (fNil env S) P := ⟨_, _, rfl, h⟩
theorem r_cons {P : List D → Sto → Prop} (h : R (f env S) fun d S1 => R (fas env S1) fun ds S2 => P (d :: ds) S2) : R (fCons f fas env S) P := by
  obtain ⟨d, S', e, ds, S2, e2, p⟩ := h
  exact ⟨_, _, cons_of e e2, p⟩
theorem r_bin {P : D → Sto → Prop} {g : D → D → Sto → Option (D × Sto)} (h : R (fa env S) fun x S1 => R (fb env S1) fun y S2 => R (g x y S2) P) : R (fBin g fa fb env S) P := by
  obtain ⟨d, S', e, ds, S2, e2, z, S3, e3, p⟩ := h
  exact ⟨_, _, bin_of e e2 e3, p⟩
theorem r_test {P : Bool → Sto → Prop} (h : R (f env S) fun d S1 => ∃ b, d = .bl b ∧ P b S1) : R (fTest f env S) P := by
  obtain ⟨d, S', e, b, rfl, p⟩ := h
  exact ⟨_, _, test_of e, p⟩
theorem r_not {P : Bool → Sto → Prop} (h : R (t env S) fun b S1 => P (!b) S1) : R (tNotD t env S) P := by
  obtain ⟨d, S', e, p⟩ := h
  exact ⟨_, _, tnot_of e, p⟩
theorem r_and {P : Bool → Sto → Prop} (h : R (t env S) fun b S1 => if b = true then R (u env S1) P else P false S1) : R (tAndD t u env S) P := by
  obtain ⟨b, S', e, p⟩ := h
  rw [R, and_of e]
  cases b with
  | true => exact p
  | false => exact ⟨_, _, rfl, p⟩
theorem r_or {P : Bool → Sto → Prop} (h : R (t env S) fun b S1 => if b = true then P true S1 else R (u env S1) P) : R (tOrD t u env S) P := by
  obtain ⟨b, S', e, p⟩ := h
  rw [R, or_of e]
  cases b with
  | false => exact p
  | true => exact ⟨_, _, rfl, p⟩
theorem r_fif {P : D → Sto → Prop} (h : R (t env S) fun b S1 => if b = true then R (fa env S1) P else R (fb env S1) P) : R (fIf t fa fb env S) P := by
  obtain ⟨b, S', e, p⟩ := h
  unfold fIf
  rw [e]
  show R (if b = true then fa env S' else fb env S') P
  cases b <;> exact p
def PBk (I : DEnv → Sto → Prop) (P : Fl → Sto → Prop) : Fl → Sto → Prop
  | .nx e, S => I e S
  | .ct e, S => I e S
  | .bk e, S => P (.nx e) S
  | .rt d, S => P (.rt d) S
theorem r_forD {P : Fl → Sto → Prop} {g : FG} {body : FS} {items : List D} (I : Nat → DEnv → Sto → Prop) (h0 : I 0 env S)
    (hs : ∀ i d env S, items[i]? = some d → I i env S → R (g d env S) fun env1 S1 => R (body env1 S1) (PBk (I (i + 1)) P)) (hd : ∀ env S, I items.length env S → P (.nx env) S) : R (forD g body items env S) P := by
  suffices h : ∀ (r : List D) (i : Nat) (env : DEnv) (S : Sto), items.drop i = r → i + r.length = items.length → I i env S → R (forD g body r env S) P from h items 0 env S rfl (by simp) h0
  intro r
  induction r with
  | nil =>
    intro i env S hd' hl hi
    have hl : i = items.length := by simpa using hl
    subst hl
    exact ⟨_, _, rfl, hd _ _ hi⟩
  | cons d r ih =>
    intro i env S hd' hl hi
    obtain ⟨q1, q2⟩ := drop_cons hd'
    obtain ⟨env1, S1, e1, fl, S2, e2, p⟩ := hs i d env S q1 hi
    have hl' : i + 1 + r.length = items.length := by
      rw [List.length_cons] at hl
      omega
    unfold forD
    rw [e1]
    show R ((body env1 S1).bind _) P
    rw [e2]
    cases fl with
    | nx e => exact ih (i + 1) e S2 q2 hl' p
    | ct e => exact ih (i + 1) e S2 q2 hl' p
    | bk e => exact ⟨_, _, rfl, p⟩
    | rt d => exact ⟨_, _, rfl, p⟩
theorem r_for {P : Fl → Sto → Prop} {fi : FA} {g : FG} {body : FS} {items : List D} (h : fi env S = some (items, S1)) (I : Nat → DEnv → Sto → Prop) (h0 : I 0 env S1)
    (hs : ∀ i d env S, items[i]? = some d → I i env S → R (g d env S) fun env1 S1 => R (body env1 S1) (PBk (I (i + 1)) P)) (hd : ∀ env S, I items.length env S → P (.nx env) S) : R (sFor fi g body env S) P := by
  obtain ⟨a, S', e, p⟩ := r_forD (P := P) I h0 hs hd
  exact ⟨_, _, for_of h e, p⟩
/-- a loop whose turns keep one word -/
theorem r_forM {P : Fl → Sto → Prop} {fi : FA} {g : FG} {body : FS} {items : List D} (h : fi env S = some (items, S1)) (I : DEnv → Sto → Prop) (h0 : I env S1)
    (hs : ∀ d ∈ items, ∀ env S, I env S → R (g d env S) fun env1 S1 => R (body env1 S1) (PBk I P)) (hd : ∀ env S, I env S → P (.nx env) S) : R (sFor fi g body env S) P :=
  r_for h (fun _ => I) h0 (fun i d env S hi h => hs d (List.mem_of_getElem? hi) env S h) hd
def PRun (P : D → Sto → Prop) : Fl → Sto → Prop
  | .rt d, S => P d S
  | .nx _, S => P .non S
  | _, _ => False
theorem r_run {P : D → Sto → Prop} {n : Nat} {g : FS} {ds : List D} (h : R (g (ds.map some ++ List.replicate (n - ds.length) none) S) (PRun P)) : R (runD n g ds S) P := by
  obtain ⟨fl, S', e, p⟩ := h
  cases fl with
  | rt d => exact ⟨_, _, run_of e, p⟩
  | nx e' => exact ⟨_, _, run_of0 e, p⟩
  | bk _ => exact p.elim
  | ct _ => exact p.elim
theorem r_par {P : Fl → Sto → Prop} {i j : Nat} (h : R (fas env S) fun ds S1 => ∃ v w, ds = [v, w] ∧ P (.nx ((env.set i (some v)).set j (some w))) S1) : R (sPar i j fas env S) P := by
  obtain ⟨ds, S', e, v, w, rfl, p⟩ := h
  refine ⟨_, _, ?_, p⟩
  unfold sPar
  rw [e]
  rfl
theorem r_tup {P : D → Sto → Prop} (h : R (fas env S) fun ds S1 => ds.length ≤ 1000 ∧ P (.tup ds) S1) : R (fTup fas env S) P := by
  obtain ⟨ds, S', e, hl, p⟩ := h
  refine ⟨_, _, ?_, p⟩
  unfold fTup
  rw [e]
  show (if ds.length ≤ 1000 then _ else _) = _
  rw [if_pos hl]
end
end DL

namespace DL
open PySem PySem.Spec PyProof.Rows L2
variable {ct : CT} {X : Cx}
/-! ## a value that is never asked for -/
def fNever : FE := fun _ _ => none
theorem pe_never {e : Expr} : PE X e (fun _ _ _ => False) := ⟨fun _ _ _ _ _ _ h => h.elim⟩
theorem se_never {e : Expr} : SE ct X e fNever := ⟨_, pe_never, fun m F S σ H env d S' Q s en h p => by cases h⟩
/-! ## divmod -/
def cDivmod : FD
  | [.int i, .int j], S => if 0 < j ∧ j.natAbs.log2 < 9000 then some (.tup [.int (i / j), .int (i % j)], S) else none
  | _, _ => none
theorem cd_divmod {K : PySem.W.Frag} : CallD ct K (fun xs H Q => ∃ i j, xs = [.int i, .int j] ∧ CDivP i j ∧ ∀ p, H p = none → Q (.ref p) (upd H p (.tup [.int (i / j), .int (i % j)]))) cDivmod := by
  intro m F S H xs ds d S' Q s r h p
  unfold cDivmod at h
  split at h
  · rename_i i j
    split at h
    · rename_i hc
      cases h
      obtain ⟨v, u, e1, e2, e3⟩ := reps2 r
      have e2 : v = .int i := e2
      have e3 : u = .int j := e3
      subst e2 e3
      refine ⟨i, j, e1, ⟨hc.1, PyProof.noPylong_of_log2 hc.2⟩, fun q hq => ?_⟩
      obtain ⟨s2, x2⟩ := s.frozen hq (.tup [.int (i / j), .int (i % j)])
      exact p m _ (.ref q) _ x2 s2 ⟨q, _, rfl, SqT.of upd_same, ⟨_, _, rfl, rfl, _, _, rfl, rfl, rfl⟩⟩
    · cases h
  · cases h
end DL

namespace DL
open PySem PySem.Spec PyProof.Rows L2
/-! # Objects of the text's own classes: cells -/
/-- a class of the text, by its name -/
structure Klass (K : PySem.W.Frag) (ct : CT) (c : Str) (C : Addr) : Prop where
  at_ : ct c = some C
  cls : Cls K C
def getF : List Str → List D → Str → Option D
  | f :: fs, d :: ds, x => if f = x then some d else getF fs ds x
  | _, _, _ => none
def hasF (fs : List Str) (x : Str) : Bool := fs.any fun f => decide (f = x)
def putN : List Str → Str → List Str
  | [], x => [x]
  | f :: fs, x => if f = x then f :: fs else f :: putN fs x
def putD : List Str → List D → Str → D → List D
  | f :: fs, d :: ds, x, y => if f = x then y :: ds else d :: putD fs ds x y
  | _, _, _, y => [y]
section
variable {K : PySem.W.Frag} {ct : CT} {m : List Addr} {F : Hp}
theorem getF_rep : ∀ {fs : List Str} {ds : List D} {vs : List V} {x : Str} {d : D}, Reps K ct m F ds vs → getF fs ds x = some d → ∃ v, (fs.zip vs).lookup x = some v ∧ Rep K ct m F d v
  | [], _, _, _, _, _, h => by cases h
  | _ :: _, [], _, _, _, _, h => by cases h
  | f :: fs, d' :: ds, vs, x, d, r, h => by
    obtain ⟨v, rest, rfl, r1, r2⟩ := r
    unfold getF at h
    by_cases e : f = x
    · rw [if_pos e] at h
      cases h
      subst e
      exact ⟨v, by simp [List.lookup], r1⟩
    · rw [if_neg e] at h
      obtain ⟨v2, h1, h2⟩ := getF_rep r2 h
      refine ⟨v2, ?_, h2⟩
      have : (x == f) = false := beq_eq_false_iff_ne.mpr fun q => e q.symm
      simp only [List.zip_cons_cons, List.lookup, this]
      exact h1
theorem hasF_none : ∀ {fs : List Str} {vs : List V} {x : Str}, hasF fs x = false → (fs.zip vs).lookup x = none
  | [], _, _, _ => by simp
  | _ :: _, [], _, _ => by simp
  | f :: fs, v :: vs, x, h => by
    unfold hasF at h
    rw [List.any_cons, Bool.or_eq_false_iff] at h
    have e : f ≠ x := of_decide_eq_false h.1
    have : (x == f) = false := beq_eq_false_iff_ne.mpr fun q => e q.symm
    simp only [List.zip_cons_cons, List.lookup, this]
    exact hasF_none h.2
theorem put_rep : ∀ {fs : List Str} {ds : List D} {vs : List V} {x : Str} {y : D} {v : V}, fs.length = vs.length → Reps K ct m F ds vs → Rep K ct m F y v → ∃ us, putF x v (fs.zip vs) = (putN fs x).zip us ∧ (putN fs x).length = us.length ∧ Reps K ct m F (putD fs ds x y) us
  | [], ds, vs, x, y, v, hl, r, ry => by
    cases vs with
    | nil =>
      refine ⟨[v], rfl, rfl, ?_⟩
      cases ds <;> exact ⟨v, [], rfl, ry, rfl⟩
    | cons _ _ => cases hl
  | f :: fs, ds, vs, x, y, v, hl, r, ry => by
    cases vs with
    | nil => cases hl
    | cons u vs =>
      cases ds with
      | nil => cases (show _ = _ from r)
      | cons d ds =>
        obtain ⟨u', rest, e, r1, r2⟩ := r
        cases e
        unfold putN putD
        rw [List.zip_cons_cons, show putF x v ((f, u) :: fs.zip vs) = (if f = x then (f, v) :: fs.zip vs else (f, u) :: putF x v (fs.zip vs)) from rfl]
        by_cases e : f = x
        · rw [if_pos e, if_pos e, if_pos e]
          exact ⟨v :: vs, rfl, by simpa using hl, ⟨v, vs, rfl, ry, r2⟩⟩
        · rw [if_neg e, if_neg e, if_neg e]
          obtain ⟨us, h1, h2, h3⟩ := put_rep (x := x) (by simpa using hl) r2 ry
          exact ⟨u :: us, by rw [h1, List.zip_cons_cons], by simpa using h2, ⟨u, us, rfl, r1, h3⟩⟩
end
/-- the object at hand: its class, its fields -/
def insOf (c : Str) : D → Sto → Option (List Str × List D)
  | .ref i, S => match S[i]? with
    | some (.ins c' fs ds) => if c' = c then some (fs, ds) else none
    | _ => none
  | .obj c' fs ds, _ => if c' = c then some (fs, ds) else none
  | _, _ => none
section
variable {ct : CT} {X : Cx} {C : Addr} {c : Str}
theorem insOf_rep {m : List Addr} {F : Hp} {S : Sto} {H : Hp} {d : D} {v : V} {fs : List Str} {ds : List D} (kc : Klass X.K ct c C) (s : Sim X.K ct m F S H) (r : Rep X.K ct m F d v) (h : insOf c d S = some (fs, ds)) :
    ∃ a dx vs, v = .ref a ∧ H a = some (.ins C dx (fs.zip vs)) ∧ fs.length = vs.length ∧ Reps X.K ct m F ds vs := by
  cases d with
  | ref i =>
    obtain ⟨a, h1, h2⟩ := r
    unfold insOf at h
    dsimp only at h
    split at h
    · rename_i c' fs' ds' hc
      split at h
      · rename_i e
        subst e
        cases h
        obtain ⟨C', dx, vs, e1, e2, e3, e4⟩ := s.cell i a _ h1 hc
        rw [kc.at_] at e2
        cases e2
        exact ⟨a, dx, vs, h2, e1, e3, e4⟩
      · cases h
    · cases h
  | obj c' fs' ds' =>
    unfold insOf at h
    dsimp only at h
    split at h
    · rename_i e
      subst e
      cases h
      obtain ⟨a, C', dx, vs, e0, e2, e1, e3, e4⟩ := r
      rw [kc.at_] at e2
      cases e2
      exact ⟨a, dx, vs, e0, s.same _ _ e1, e3, e4⟩
    · cases h
  | _ => cases h
variable {e o value : Expr} {es : List Expr} {fe fo fv : FE} {fas : FA} {pos pos' apos : Pos} {f : Str}
/-! ## a field -/
def fFld (c f : Str) (fe : FE) : FE := fun env S => (fe env S).bind fun p => (insOf c p.1 p.2).bind fun q => (getF q.1 q.2 f).map fun d => (d, p.2)
theorem se_fld (kc : Klass X.K ct c C) (na : NoAttr X.K C f) (he : SE ct X e fe) (hb : attributeBase e f X.env (eval e X.env) = eval e X.env := by rfl) : SE ct X (.Attribute e f pos) (fFld c f fe) := by
  obtain ⟨ta, pa, ra⟩ := he
  refine ⟨_, pe_fld pa hb, fun m F S σ H env d S' Q s en h p => ?_⟩
  obtain ⟨⟨z, S1⟩, h1, h⟩ := bind_some h
  obtain ⟨⟨fs, ds⟩, h2, h⟩ := bind_some h
  obtain ⟨d', h3, h4⟩ := map_some h
  cases h4
  refine ra m F S σ H env z S1 _ s en h1 fun m1 F1 v1 H1 x1 s1 r1 => ?_
  obtain ⟨a, dx, vs, e1, e2, e3, e4⟩ := insOf_rep kc s1 r1 h2
  obtain ⟨v, e5, e6⟩ := getF_rep e4 h3
  exact ⟨a, C, dx, _, v, e1, e2, kc.cls, na, e5, p m1 F1 v H1 x1 s1 e6⟩
/-- e.f = value, of an object at hand as a cell -/
def sFldD (c f : Str) (fo fv : FE) : FS := fun env S => (fv env S).bind fun p => (fo env p.2).bind fun q => match q.1 with
  | .ref i => match q.2[i]? with
    | some (.ins c' fs ds) => if c' = c ∧ fs.length < 900 then some (.nx env, q.2.set i (.ins c (putN fs f) (putD fs ds f p.1))) else none
    | _ => none
  | _ => none
theorem ss_fld (kc : Klass X.K ct c C) (na : NoAttr X.K C f) (ho : SE ct X o fo) (hv : SE ct X value fv) (hs : swapsWith value (some (.Attribute o f pos')) pos.line X.env = pure false := by rfl) : SS ct X (.Assign [.Attribute o f pos'] value pos) (sFldD c f fo fv) := by
  obtain ⟨ta, pa, ra⟩ := ho
  obtain ⟨tv, pv, rv⟩ := hv
  refine ⟨_, ps_fld pa pv hs, fun m F S σ H env fl S' E s en h p => ?_⟩
  obtain ⟨⟨y, S1⟩, h1, h⟩ := bind_some h
  obtain ⟨⟨z, S2⟩, h2, h⟩ := bind_some h
  refine rv m F S σ H env y S1 _ s en h1 fun m1 F1 v1 H1 x1 s1 r1 => ?_
  refine ra m1 F1 S1 σ H1 env z S2 _ s1 (en.mono x1) h2 fun m2 F2 v2 H2 x2 s2 r2 => ?_
  cases z with
  | ref i =>
    obtain ⟨a, e1, e2⟩ := r2
    dsimp only at h
    split at h
    · rename_i c' fs ds hc
      split at h
      · rename_i hcc
        obtain ⟨rfl, hlt⟩ := hcc
        cases h
        obtain ⟨C', dx, vs, q1, q2, q3, q4⟩ := s2.cell i a _ e1 hc
        rw [kc.at_] at q2
        cases q2
        obtain ⟨us, w1, w2, w3⟩ := put_rep (x := f) q3 q4 (r1.mono x2)
        refine ⟨a, C, dx, _, e2, q1, kc.cls, na, by rw [List.length_zip, ← q3]; omega, ?_⟩
        obtain ⟨s3, x3⟩ := s2.change e1 (o := .ins C dx (putF f v1 (fs.zip vs))) (c := .ins c' (putN fs f) (putD fs ds f y)) ⟨C, dx, us, by rw [w1], kc.at_, w2, w3⟩
        exact p _ _ σ _ ((x1.trans x2).trans x3) s3 ((en.mono (x1.trans x2)).mono x3)
      · cases h
    · cases h
  | _ => cases h
/-! ## a method -/
def CalleeM (P : Program) (w : World) (K : PySem.W.Frag) (mg : Str → Option Value) (base : Heap) (ct : CT) (k : Nat) (C : Addr) (x : Str) (n : Nat) (g : FD) (kwb : KWB := []) : Prop :=
  ∃ (f : Addr) (fd : FuncData) (ps : List Str), Meth K C x f ∧ (Binds K fd ps [] ∧ KwOk K fd ps 1 kwb) ∧ FnG P w K mg base k f fd ps (spD K ct n g)
theorem CalleeM.mono {P : Program} {w : World} {K : PySem.W.Frag} {mg : Str → Option Value} {base : Heap} {j k n : Nat} {x : Str} {g : FD} {kwb : KWB} (c : CalleeM P w K mg base ct j C x n g kwb) (h : j ≤ k) : CalleeM P w K mg base ct k C x n g kwb := by
  obtain ⟨f, fd, ps, h1, h3, h4⟩ := c
  exact ⟨f, fd, ps, h1, h3, h4.mono h⟩
def fMeth (c x : Str) (g : FD) (fo : FE) (fas : FA) : FE := fun env S => (fo env S).bind fun p => (insOf c p.1 p.2).bind fun q => if hasF q.1 x = false then (fas env p.2).bind fun r => g (p.1 :: r.1) r.2 else none
theorem se_meth {pl : Sem Bool} {k n : Nat} {x : Str} {g : FD} {kwb : KWB} (kc : Klass X.K ct c C) (M : CalleeM X.prog X.w X.K X.mg X.base ct k C x (n + 1) g kwb) (hr : RoomG k X.A) (ho : SE ct X o fo) (ha : SA ct X (e :: es) fas) (hn : ∀ env S ds S', fas env S = some (ds, S') → ds.length = n)
    (hst : starEach (e :: es) X.env = (false, eval e X.env) :: starEach es X.env := by rfl) (hpl : (backTo pos (starEach es X.env)).any (·.1) = false := by rfl)
    (ht : eval (.Call (.Attribute o x apos) (e :: es) [] pos) X.env = (eval o X.env >>= fun ov => standAt apos.atName >>= fun _ => holding [ov] (getMethod ov x pl) >>= fun q =>
      callWith pos q.1 q.2 (backTo pos (starEach (e :: es) X.env)) (backToKw pos (keywordEach [] X.env))) := by rfl) : SE ct X (.Call (.Attribute o x apos) (e :: es) [] pos) (fMeth c x g fo fas) := by
  obtain ⟨f, fd, ps, me, bi, fn⟩ := M
  obtain ⟨ta, pa, ra⟩ := ho
  obtain ⟨tb, pb, rb⟩ := ha
  refine ⟨_, pe_methG (E := fun _ _ _ => False) pa kc.cls me fn hr bi.1 .nil pb hst hpl ht, fun m F S σ H env d S' Q s en h p => ?_⟩
  obtain ⟨⟨z, S1⟩, h1, h⟩ := bind_some h
  obtain ⟨⟨fs, ds⟩, h2, h⟩ := bind_some h
  dsimp only at h
  split at h
  · rename_i hh
    obtain ⟨⟨xs, S2⟩, h3, h⟩ := bind_some h
    refine ra m F S σ H env z S1 _ s en h1 fun m1 F1 v1 H1 x1 s1 r1 => ?_
    obtain ⟨a, dx, vs, e1, e2, e3, e4⟩ := insOf_rep kc s1 r1 h2
    refine ⟨a, dx, _, e1, e2, hasF_none hh, ?_⟩
    refine rb m1 F1 S1 σ H1 env xs S2 _ s1 (en.mono x1) h3 fun m2 F2 us H2 x2 s2 r2 => ?_
    rw [List.append_nil]
    exact ⟨by rw [List.length_cons, ← r2.length, hn _ _ _ _ h3], m2, F2, S2, z :: xs, d, S', s2, ⟨v1, us, rfl, r1.mono x2, r2⟩, h, p.ext (x1.trans x2)⟩
  · cases h
/-! ## a new object -/
def MakeAt (P : Program) (w : World) (K : PySem.W.Frag) (mg : Str → Option Value) (base : Heap) (ct : CT) (k : Nat) (x : Str) (dds : List D) (n : Nat) (g : FD) : Prop :=
  ∃ (C f : Addr) (fd : FuncData) (ps : List Str) (ds : List Value) (dvs : List V), mg x = some (.ref C) ∧ ct x = some C ∧ Mk K C f ∧ Binds K fd ps ds ∧ Vals dvs ds ∧ (∀ m F, Reps K ct m F dds dvs) ∧ FnG P w K mg base k f fd ps (spD K ct n g)
theorem MakeAt.mono {P : Program} {w : World} {K : PySem.W.Frag} {mg : Str → Option Value} {base : Heap} {j k n : Nat} {x : Str} {dds : List D} {g : FD} (c : MakeAt P w K mg base ct j x dds n g) (h : j ≤ k) : MakeAt P w K mg base ct k x dds n g := by
  obtain ⟨C, f, fd, ps, ds, dvs, h1, h2, h3, h4, h5, h6, h7⟩ := c
  exact ⟨C, f, fd, ps, ds, dvs, h1, h2, h3, h4, h5, h6, h7.mono h⟩
def fMake (c : Str) (g : FD) (dds : List D) (fas : FA) : FE := fun env S => (fas env S).bind fun p => (g (.ref p.2.length :: (p.1 ++ dds)) (p.2 ++ [.ins c [] []])).bind fun q => match q.1 with
  | .non => some (.ref p.2.length, q.2)
  | _ => none
theorem se_make {k n : Nat} {x : Str} {dds : List D} {g : FD} {np : Pos} (M : MakeAt X.prog X.w X.K X.mg X.base ct k x dds (n + dds.length + 1) g) (hr : RoomG (k + 1) X.A) (hg : Gl X x) (ha : SA ct X (e :: es) fas) (hn : ∀ env S ds S', fas env S = some (ds, S') → ds.length = n) (hdb : (x == ("__debug__" : Str)) = false := by decide)
    (he : starEach (e :: es) X.env = (false, eval e X.env) :: starEach es X.env := by rfl) (hpl : (backTo pos (starEach es X.env)).any (·.1) = false := by rfl) : SE ct X (.Call (.Name x np) (e :: es) [] pos) (fMake x g dds fas) := by
  obtain ⟨C, f, fd, ps, dl, dvs, hm, hct, mk, bi, hd, hdr, fn⟩ := M
  obtain ⟨tb, pb, rb⟩ := ha
  refine ⟨_, pe_makeG (E := fun _ _ _ => False) mk fn hr hg hm bi hd pb hdb he hpl, fun m F S σ H env d S' Q s en h p => ?_⟩
  obtain ⟨⟨xs, S1⟩, h1, h⟩ := bind_some h
  obtain ⟨⟨z, S2⟩, h2, h⟩ := bind_some h
  cases z with
  | non =>
    cases h
    refine rb m F S σ H env xs S1 _ s en h1 fun m1 F1 us H1 x1 s1 r1 q dx hq hdx hne => ?_
    have hnm : dx ∉ m1 := fun hmem => by
      obtain ⟨o, ho⟩ := s1.there hmem
      rw [ho] at hdx
      cases hdx
    have hnf : F1 dx = none := by
      cases e : F1 dx with
      | none => rfl
      | some o =>
        have := s1.same _ _ e
        rw [hdx] at this
        cases this
    have s2 := s1.hidden hnm hnf (.own q)
    have x2 := (Ext.refl m1 F1 H1).put hdx (.own q)
    have hq2 : upd H1 dx (.own q) q = none := by
      rw [upd_ne (fun e => hne e.symm)]
      exact hq
    obtain ⟨s3, x3⟩ := s2.fresh hq2 (o := .ins C dx []) (c := .ins x [] []) ⟨C, dx, [], rfl, hct, rfl, rfl⟩
    have hl : (m1 ++ [q])[S1.length]? = some q := by rw [← s1.len]; simp
    have rr : Reps X.K ct (m1 ++ [q]) F1 (.ref S1.length :: (xs ++ dds)) (.ref q :: (us ++ dvs)) := ⟨.ref q, us ++ dvs, rfl, ⟨q, hl, rfl⟩, ((r1.mono x2).mono x3).append (hdr _ _)⟩
    refine ⟨?_, m1 ++ [q], F1, S1 ++ [.ins x [] []], .ref S1.length :: (xs ++ dds), .non, S2, s3, rr, h2, fun m' F' v H' x' s' r' => ⟨r', ?_⟩⟩
    · rw [← rr.length, List.length_cons, List.length_append, hn _ _ _ _ h1]
    · exact p m' F' (.ref q) H' (((x1.trans x2).trans x3).trans x') s' ⟨q, x'.pre _ _ hl, rfl⟩
  | _ => cases h
end
/-! ## a def with defaults, a method -/
section
variable {P : Program} {w : World} {K : PySem.W.Frag} {mg : Str → Option Value} {base : Heap} {ct : CT}
theorem def_okD {x qual : Str} {st : Stmt} {f : Addr} {fd : FuncData} {N ps : List Str} {k : Nat} {g : FS} {dvs : List V} (F : FunD K x qual (defArgs st) (defBody st) (defScope st) dvs [] f fd) (S : FnScope N ps (defScope st))
    (hbody : ∀ (cdv : Value) (A : Around) (outer : List Env) (s : Shared) (H : Hp) (E : XK), RoomG k (A.deeper (envOfC qual (defScope st) s.heap.objs.size f cdv)) →
      SSs ct (cxOf CX0 P w K mg base N qual (defScope st) f cdv A outer s H E).nox (defBody st) g) : FnG P w K mg base (k + 1) f fd ps (spD K ct ps.length (runD N.length g)) := by
  refine funDG F S (fun vs H Q E h => h.1) (fun cdv A outer s H vs Q E hr h => ?_)
  obtain ⟨hl, m, F', S0, ds, d, S', sim, reps, hg, post⟩ := h
  obtain ⟨t, pt, rt⟩ := hbody cdv A outer s H E hr
  refine ⟨t, pt, ?_⟩
  obtain ⟨⟨fl, S1⟩, h1, h2⟩ := bind_some hg
  refine rt m F' S0 _ H _ fl S1 _ sim ?_ h1 ?_
  · have hl2 := reps.length
    refine ⟨by simp [L2.start, hl2], fun i e he => ?_⟩
    by_cases hi : i < ds.length
    · rw [List.getElem?_append_left (by simpa using hi)] at he
      simp at he
      obtain ⟨v, q1, q2⟩ := reps.get (i := i) (d := e) (by simpa using he)
      refine ⟨v, ?_, q2⟩
      unfold L2.start
      rw [List.getElem?_append_left (by simpa [← hl2] using hi)]
      simp [q1]
    · rw [List.getElem?_append_right (by simpa using hi)] at he
      have := List.mem_of_getElem? he
      simp at this
  · cases fl with
    | rt d1 => cases h2; exact fun m' F1 v H' x1 s1 r1 => post m' F1 v H' x1 s1 r1
    | nx env1 => cases h2; exact fun m' F1 σ1 H' x1 s1 r1 => post m' F1 .non H' x1 s1 rfl
    | bk env1 => cases h2
    | ct env1 => cases h2
end
end DL

namespace DL
open PySem PySem.Spec PyProof.Rows L2
/-! ## max of a tuple of whole numbers -/
section
variable {prog : Program} {w : World} {A : Around} {E : Value → Shared → Prop} {s : Shared} {l : Addr} {xs : Array (Int × Tok)}
theorem max_intTup {Q : Value → Shared → Prop} (hh : A.handled = none) (hl : s.heap.IsTuple l (intItems xs)) (hne : 0 < xs.size)
    (h : ∀ v h' tk, (intItems xs)[argBest (fun i j => decide (numAt xs i > numAt xs j)) (xs.size - 1)]? = some v → (∀ b o, s.heap.get? b = some o → h'.get? b = some o) → Q v { s with heap := h', toks := tk }) :
    wpAny (model prog w) A (call (.builtin "max") [.ref l]) Q E s := by
  have hlt : l < s.heap.objs.size := by obtain ⟨_, e, _⟩ := hl; exact Heap.lt_size e
  refine call_max_walk (wpAny_pyIter_tuple hl ?_)
  refine ⟨_, [_, l], [_], _, _, _, _, rfl, Walks.tuple (A := A.in1) hh _ l (Nat.ne_of_lt hlt) (intItems xs), ⟨⟨_, Heap.get?_push_size _ rfl, rfl, rfl⟩, hl.push _⟩, fun c hc => ?_, by simpa [intItems] using hne, CmpOf.ints_gt (numAt xs) (fun _ _ => intItems_at), fun v h' tk hP hk => ?_⟩
  · show c < (s.heap.push _).objs.size
    rw [Heap.size_push]
    rcases List.mem_cons.mp hc with rfl | hc
    · exact Nat.lt_succ_self _
    · rcases List.mem_cons.mp hc with rfl | hc
      · exact Nat.lt_succ_of_lt hlt
      · cases hc
  · refine h v h' tk (by simpa [intItems] using hP) fun b o e => ?_
    refine hk b o (fun hm => ?_) (Heap.get?_push_of_some _ e)
    rcases List.mem_cons.mp hm with e1 | hm
    · exact absurd (e1 ▸ Heap.lt_size e) (Nat.lt_irrefl _)
    · cases hm
theorem max_rawT {its : List Value} {ns : List Int} {Q : Value → Shared → Prop} (hh : A.handled = none) (hl : s.heap.IsTuple l its.toArray) (hi : IntsAre its ns) (hne : 0 < ns.length)
    (h : ∀ h' tk M t', (∀ b o, s.heap.get? b = some o → h'.get? b = some o) → M ∈ ns → (∀ a, a ∈ ns → a ≤ M) → Q (.int M t') { s with heap := h', toks := tk }) : wpAny (model prog w) A (call (.builtin "max") [.ref l]) Q E s := by
  obtain ⟨xs, e⟩ := hi.allInts.items
  have hn : numsOf (intItems xs).toList = ns := by rw [← e]; exact hi.numsOf
  rw [nums_intItems] at hn
  subst hn
  rw [e] at hl
  have hsz : 0 < xs.size := by simpa using hne
  refine max_intTup hh hl hsz fun v h' tk hv hk => ?_
  obtain ⟨t, rfl⟩ := intItems_at hv
  obtain ⟨h1, h2⟩ := argBest_gt (numAt xs) (xs.size - 1)
  refine h h' tk _ t hk ?_ fun a ha => ?_
  · rw [numAt_eq]; exact PySem.getD_mem (by rw [List.length_map, Array.length_toList]; omega)
  · obtain ⟨j, hj, rfl⟩ := mem_getD ha
    rw [List.length_map, Array.length_toList] at hj
    rw [← numAt_eq]; exact h2 j (by omega)
end
def rMaxT (K : PySem.W.Frag) : List V → Hp → VK → Prop := fun vs H Q => ∃ (a : Addr) (ns : List Int), vs = [V.ref a] ∧ SqT K H a (ns.map V.int) ∧ 0 < ns.length ∧ ∀ m, m ∈ ns → (∀ y, y ∈ ns → y ≤ m) → Q (.int m) H
theorem cr_maxT {X : Cx} (hc : X.calm = true) : CallR X (.builtin "max") (rMaxT X.K) := by
  intro pins s σ H vs us Q I r h
  obtain ⟨a, ns, rfl, hs, hne, q⟩ := h
  obtain ⟨its, rv, hl, _⟩ := I.tuple hs
  rw [Vals.ref1 r]
  exact max_rawT (I.ok.hd hc) hl rv.ints hne fun h' tk m t' hk h1 h2 => ⟨.int _, H, I.kept hk, ⟨_, rfl⟩, q m h1 h2⟩
def cMaxT : FD
  | [.tup [.int i, .int j]], S => some (.int (if j > i then j else i), S)
  | _, _ => none
theorem cd_maxT {ct : CT} {K : PySem.W.Frag} : CallD ct K (rMaxT K) cMaxT := by
  intro m F S H xs ds d S' Q s r h p
  unfold cMaxT at h
  split at h
  · rename_i i j
    cases h
    obtain ⟨v, e1, a, vs, e2, e3, e4⟩ := reps1 r
    obtain ⟨v1, r1, q1, q2, v2, r2, q3, q4, q5⟩ := e4
    have q2 : v1 = .int i := q2
    have q4 : v2 = .int j := q4
    have q5 : r2 = [] := q5
    subst q2 q4 q5 q3 q1 e2
    refine ⟨a, [i, j], e1, sqT_mono s.same e3, by simp, fun M h1 h2 => ?_⟩
    have hM : M = if j > i then j else i := by
      have a1 := h2 i (by simp)
      have a2 := h2 j (by simp)
      simp only [List.mem_cons, List.not_mem_nil, or_false] at h1
      split <;> omega
    rw [hM]
    exact p.now s rfl
  · cases h
/-! ## a tuple of the module -/
def TG (K : PySem.W.Frag) (mg : Str → Option Value) (n : Str) (vs : List V) : Prop := ∃ (a : Addr) (o : Obj) (its : Array Value) (k : Nat), mg n = some (.ref a) ∧ K.lookup a = some o ∧ o.cls = .type "tuple" ∧ o.data = .seq its k ∧ its.size ≤ sizeLine ∧ Vals vs its.toList
theorem se_globT {ct : CT} {X : Cx} {n : Str} {pos : Pos} {ds : List D} {vs : List V} (hg : Gl X n) (c : TG X.K X.mg n vs) (hr : ∀ m F, Reps X.K ct m F ds vs) (hd : (n == ("__debug__" : Str)) = false := by decide) : SE ct X (.Name n pos) (fC (.tup ds)) := by
  obtain ⟨a, o, its, k, h1, h2, h3, h4, h5, h6⟩ := c
  exact se_glob (v := .ref a) hg h1 rfl (fun m F => ⟨a, vs, rfl, .inr ⟨o, its, k, h2, h3, h4, h5, h6⟩, hr m F⟩) hd
/-! ## makers: one level more -/
def Maker (P : Program) (w : World) (K : PySem.W.Frag) (mg : Str → Option Value) (base : Heap) (ct : CT) (k : Nat) (x : Str) (dds : List D) (n : Nat) (g : FD) : Prop := ∃ j, j + 1 ≤ k ∧ MakeAt P w K mg base ct j x dds n g
theorem Maker.mono {P : Program} {w : World} {K : PySem.W.Frag} {mg : Str → Option Value} {base : Heap} {ct : CT} {j k n : Nat} {x : Str} {dds : List D} {g : FD} (c : Maker P w K mg base ct j x dds n g) (h : j ≤ k) : Maker P w K mg base ct k x dds n g := by
  obtain ⟨i, h1, h2⟩ := c
  exact ⟨i, by omega, h2⟩
theorem se_mk {ct : CT} {X : Cx} {k n : Nat} {x : Str} {dds : List D} {g : FD} {np pos : Pos} {e : Expr} {es : List Expr} {fas : FA} (M : Maker X.prog X.w X.K X.mg X.base ct k x dds (n + dds.length + 1) g) (hr : RoomG k X.A) (hg : Gl X x) (ha : SA ct X (e :: es) fas) (hn : ∀ env S ds S', fas env S = some (ds, S') → ds.length = n) (hdb : (x == ("__debug__" : Str)) = false := by decide)
    (he : starEach (e :: es) X.env = (false, eval e X.env) :: starEach es X.env := by rfl) (hpl : (backTo pos (starEach es X.env)).any (·.1) = false := by rfl) : SE ct X (.Call (.Name x np) (e :: es) [] pos) (fMake x g dds fas) := by
  obtain ⟨j, h1, h2⟩ := M
  exact se_make h2 (hr.mono h1) hg ha hn hdb he hpl
/-! ## the law's promise: of the script alone -/
def spScr (K : PySem.W.Frag) : Sp := fun vs H Q _ => ∃ (a : Addr) (ns : List Int), vs = [.ref a] ∧ SqL K H a (ns.map V.int) ∧ ns.length ≤ 63 ∧ ∀ H', Q (.bl true) H'
theorem law_scr {P : Program} {w : World} {K : PySem.W.Frag} {mg : Str → Option Value} {base : Heap} {ct : CT} {k : Nat} {f : Addr} {fd : FuncData} {ps : List Str} {g : FD} (F : FnG P w K mg base k f fd ps (spD K ct 1 g)) (h : ∀ ns : List Int, ns.length ≤ 63 → ∃ S', g [.scr ns] [] = some (.bl true, S')) : FnG P w K mg base k f fd ps (spScr K) := by
  refine F.imp fun vs H Q E hs => ?_
  obtain ⟨a, ns, rfl, hS, hl, q⟩ := hs
  obtain ⟨S', h⟩ := h ns hl
  refine ⟨rfl, [], H, [], [.scr ns], .bl true, S', ⟨Same.refl _, rfl, List.nodup_nil, fun a h => (by cases h), fun i a c h1 h2 => (by simp at h1)⟩, ⟨_, _, rfl, ⟨a, rfl, hS⟩, rfl⟩, h, fun m' F' v H' _ _ r => ?_⟩
  have r : v = .bl true := r
  rw [r]
  exact q H'
end DL

namespace DL
open PySem PySem.Spec PyProof.Rows L2
/-! ## methods and __init__ by their texts -/
def MethAt (K : PySem.W.Frag) (C : Addr) (x qual : Str) (st : Stmt) (ps : List Str) (kwb : KWB := []) : Prop := ∃ (f : Addr) (fd : FuncData), Fun K x qual st f fd ∧ Meth K C x f ∧ Binds K fd ps [] ∧ KwOk K fd ps 1 kwb
def InitAt (K : PySem.W.Frag) (C : Addr) (qual : Str) (st : Stmt) (ps : List Str) (dvs : List V) (kwb : KWB := []) : Prop :=
  ∃ (f : Addr) (fd : FuncData), FunD K "__init__" qual (defArgs st) (defBody st) (defScope st) dvs [] f fd ∧ Mk K C f ∧ (∀ j, j ≤ dvs.length → ∃ ds, Vals (dvs.drop j) ds ∧ Binds K fd ps ds) ∧ KwOk K fd ps 1 kwb
def Initer (P : Program) (w : World) (K : PySem.W.Frag) (mg : Str → Option Value) (base : Heap) (ct : CT) (k : Nat) (x : Str) (dvs : List V) (n : Nat) (g : FD) (kwb : KWB := []) : Prop :=
  ∃ (C f : Addr) (fd : FuncData) (ps : List Str), mg x = some (.ref C) ∧ ct x = some C ∧ Mk K C f ∧ ((∀ j, j ≤ dvs.length → ∃ ds, Vals (dvs.drop j) ds ∧ Binds K fd ps ds) ∧ KwOk K fd ps 1 kwb) ∧ FnG P w K mg base k f fd ps (spD K ct n g)
section
variable {P : Program} {w : World} {K : PySem.W.Frag} {mg : Str → Option Value} {base : Heap} {ct : CT} {C : Addr}
theorem calleeM_of {x qual : Str} {st : Stmt} {N ps : List Str} {k : Nat} {g : FS} {kwb : KWB} (d : MethAt K C x qual st ps kwb) (S : FnScope N ps (defScope st))
    (hbody : ∀ (f : Addr) (cdv : Value) (A : Around) (outer : List Env) (s : Shared) (H : Hp) (E : XK), RoomG k (A.deeper (envOfC qual (defScope st) s.heap.objs.size f cdv)) →
      SSs ct (cxOf CX0 P w K mg base N qual (defScope st) f cdv A outer s H E).nox (defBody st) g) : CalleeM P w K mg base ct (k + 1) C x ps.length (runD N.length g) kwb := by
  obtain ⟨f, fd, F, h1, h3⟩ := d
  exact ⟨f, fd, ps, h1, h3, def_ok F S (hbody f)⟩
theorem initer_of {c qual : Str} {st : Stmt} {N ps : List Str} {k : Nat} {g : FS} {dvs : List V} {kwb : KWB} (kc : Klass K ct c C) (hm : mg c = some (.ref C)) (d : InitAt K C qual st ps dvs kwb) (S : FnScope N ps (defScope st))
    (hbody : ∀ (f : Addr) (cdv : Value) (A : Around) (outer : List Env) (s : Shared) (H : Hp) (E : XK), RoomG k (A.deeper (envOfC qual (defScope st) s.heap.objs.size f cdv)) →
      SSs ct (cxOf CX0 P w K mg base N qual (defScope st) f cdv A outer s H E).nox (defBody st) g) : Initer P w K mg base ct (k + 1) c dvs ps.length (runD N.length g) kwb := by
  obtain ⟨f, fd, F, h1, h3⟩ := d
  exact ⟨C, f, fd, ps, hm, kc.at_, h1, h3, def_okD F S (hbody f)⟩
theorem maker_of {x : Str} {dvs : List V} {n k : Nat} {g : FD} {dds : List D} {kwb : KWB} (I : Initer P w K mg base ct k x dvs n g kwb) (j : Nat) (hj : j ≤ dvs.length) (hr : ∀ m F, Reps K ct m F dds (dvs.drop j)) : Maker P w K mg base ct (k + 1) x dds n g := by
  obtain ⟨C, f, fd, ps, h1, h2, h3, h4, h5⟩ := I
  obtain ⟨ds, h6, h7⟩ := h4.1 j hj
  exact ⟨k, Nat.le_refl _, C, f, fd, ps, ds, dvs.drop j, h1, h2, h3, h7, h6, hr, h5⟩
end
end DL

namespace DL
open PySem PySem.Spec PyProof.Rows L2
/-! ## new objects that stay as they are -/
def MkSpec (c : Str) (fs : List Str) (g : FD) (g' : List D → Option (List D)) : Prop :=
  ∀ (S : Sto) (args vals : List D), g' args = some vals → g (.ref S.length :: args) (S ++ [.ins c [] []]) = some (.non, S ++ [.ins c fs vals]) ∧ noRefs vals = true
def fMakeF (c : Str) (fs : List Str) (g' : List D → Option (List D)) (dds : List D) (fas : FA) : FE := fun env S => (fas env S).bind fun p => (g' (p.1 ++ dds)).map fun vals => (.obj c fs vals, p.2)
def MakerF (P : Program) (w : World) (K : PySem.W.Frag) (mg : Str → Option Value) (base : Heap) (ct : CT) (k : Nat) (x : Str) (fs : List Str) (dds : List D) (n : Nat) (g' : List D → Option (List D)) : Prop :=
  ∃ g, Maker P w K mg base ct k x dds n g ∧ MkSpec x fs g g'
theorem MakerF.mono {P : Program} {w : World} {K : PySem.W.Frag} {mg : Str → Option Value} {base : Heap} {ct : CT} {j k n : Nat} {x : Str} {fs : List Str} {dds : List D} {g : List D → Option (List D)} (c : MakerF P w K mg base ct j x fs dds n g) (h : j ≤ k) : MakerF P w K mg base ct k x fs dds n g := by
  obtain ⟨g0, h1, h2⟩ := c
  exact ⟨g0, h1.mono h, h2⟩
theorem se_mkF {ct : CT} {X : Cx} {k n : Nat} {x : Str} {fs : List Str} {dds : List D} {g' : List D → Option (List D)} {np pos : Pos} {e : Expr} {es : List Expr} {fas : FA} (M : MakerF X.prog X.w X.K X.mg X.base ct k x fs dds (n + dds.length + 1) g') (hr : RoomG k X.A) (hg : Gl X x) (ha : SA ct X (e :: es) fas) (hn : ∀ env S ds S', fas env S = some (ds, S') → ds.length = n) (hdb : (x == ("__debug__" : Str)) = false := by decide)
    (he : starEach (e :: es) X.env = (false, eval e X.env) :: starEach es X.env := by rfl) (hpl : (backTo pos (starEach es X.env)).any (·.1) = false := by rfl) : SE ct X (.Call (.Name x np) (e :: es) [] pos) (fMakeF x fs g' dds fas) := by
  obtain ⟨g, ⟨j, hj, M⟩, spec⟩ := M
  have hr := hr.mono hj
  obtain ⟨C, f, fd, ps, dl, dvs, hm, hct, mk, bi, hd, hdr, fn⟩ := M
  obtain ⟨tb, pb, rb⟩ := ha
  refine ⟨_, pe_makeG (E := fun _ _ _ => False) mk fn hr hg hm bi hd pb hdb he hpl, fun m F S σ H env d S' Q s en h p => ?_⟩
  obtain ⟨⟨xs, S1⟩, h1, h⟩ := bind_some h
  obtain ⟨vals, hv, h⟩ := map_some h
  cases h
  obtain ⟨h2, hnr⟩ := spec S1 _ vals hv
  refine rb m F S σ H env xs S1 _ s en h1 fun m1 F1 us H1 x1 s1 r1 q dx hq hdx hne => ?_
  have hnm : dx ∉ m1 := fun hmem => by
    obtain ⟨o, ho⟩ := s1.there hmem
    rw [ho] at hdx
    cases hdx
  have hnf : F1 dx = none := by
    cases e : F1 dx with
    | none => rfl
    | some o =>
      have := s1.same _ _ e
      rw [hdx] at this
      cases this
  have s2 := s1.hidden hnm hnf (.own q)
  have x2 := (Ext.refl m1 F1 H1).put hdx (.own q)
  have hq2 : upd H1 dx (.own q) q = none := by
    rw [upd_ne (fun e => hne e.symm)]
    exact hq
  obtain ⟨s3, x3⟩ := s2.fresh hq2 (o := .ins C dx []) (c := .ins x [] []) ⟨C, dx, [], rfl, hct, rfl, rfl⟩
  have hl : (m1 ++ [q])[S1.length]? = some q := by rw [← s1.len]; simp
  have rr : Reps X.K ct (m1 ++ [q]) F1 (.ref S1.length :: (xs ++ dds)) (.ref q :: (us ++ dvs)) := ⟨.ref q, us ++ dvs, rfl, ⟨q, hl, rfl⟩, ((r1.mono x2).mono x3).append (hdr _ _)⟩
  refine ⟨?_, m1 ++ [q], F1, S1 ++ [.ins x [] []], .ref S1.length :: (xs ++ dds), .non, _, s3, rr, h2, fun m' F' v H' x' s' r' => ⟨r', ?_⟩⟩
  · rw [← rr.length, List.length_cons, List.length_append, hn _ _ _ _ h1]
  · have xx : Ext m1 F1 H1 m' F' H' := (x2.trans x3).trans x'
    obtain ⟨s4, x4⟩ := drop_sim (Old.refl S1) s1 xx s'
    have q1 : m'[S1.length]? = some q := x'.pre _ _ hl
    have hL : (S1 ++ [Cell.ins x fs vals])[S1.length]? = some (.ins x fs vals) := by simp
    obtain ⟨C', dx', vs', c1, c2, c3, c4⟩ := s'.cell _ q _ q1 hL
    rw [hct] at c2
    cases c2
    have mL : q ∈ m' := List.mem_iff_getElem?.mpr ⟨_, q1⟩
    have fL : F' q = none := s'.off q mL
    have nL : q ∉ m'.take S1.length := fun hm => by
      obtain ⟨i, hi⟩ := List.mem_iff_getElem?.mp hm
      have hil : i < S1.length := by
        have := (List.getElem?_eq_some_iff.mp hi).1
        rw [List.length_take] at this
        omega
      rw [List.getElem?_take_of_lt hil] at hi
      have := nodup_inj s'.nd hi q1
      omega
    exact p _ (upd F' q (.ins C dx' (fs.zip vs'))) (.ref q) H' (x1.trans (x4.freeze hq fL _)) (s4.freeze nL fL c1) ⟨q, C, dx', vs', rfl, hct, upd_same, c3, Reps.mono' (fun _ _ q => q) (same_upd fL _) _ _ (Reps.noref _ _ hnr c4)⟩
theorem makerF_of {P : Program} {w : World} {K : PySem.W.Frag} {mg : Str → Option Value} {base : Heap} {ct : CT} {k n : Nat} {x : Str} {fs : List Str} {dds : List D} {g : FD} {g' : List D → Option (List D)} (M : Maker P w K mg base ct k x dds n g) (h : MkSpec x fs g g') : MakerF P w K mg base ct k x fs dds n g' := ⟨g, M, h⟩
end DL

namespace DL
open PySem PySem.Spec PyProof.Rows L2
/-! ## what must hold ahead of a step, by rewriting -/
section
variable {α β : Type} {env : DEnv} {S S1 : Sto} {f1 f2 : FS} {t u : FT} {f fa fb fc fo fe fv fk fx : FE} {fas : FA} {P : D → Sto → Prop} {PA : List D → Sto → Prop} {PT : Bool → Sto → Prop} {PS : Fl → Sto → Prop} {PG : DEnv → Sto → Prop}
theorem R_some {a : α} {P : α → Sto → Prop} : R (some (a, S)) P ↔ P a S := ⟨fun ⟨_, _, e, p⟩ => by cases e; exact p, fun p => ⟨_, _, rfl, p⟩⟩
theorem R_none {P : α → Sto → Prop} : R (none : Option (α × Sto)) P ↔ False := ⟨fun ⟨_, _, e, _⟩ => (by cases e), False.elim⟩
theorem R_bind {o : Option (α × Sto)} {k : α × Sto → Option (β × Sto)} {P : β → Sto → Prop} : R (o.bind k) P ↔ R o fun a S => R (k (a, S)) P := by
  cases o with
  | none => simp only [Option.bind_none, R_none]
  | some a => obtain ⟨a, S'⟩ := a; simp only [Option.bind_some, R_some]
theorem R_ite {c : Prop} [Decidable c] {x y : Option (α × Sto)} {P : α → Sto → Prop} : R (if c then x else y) P ↔ if c then R x P else R y P := by
  split <;> exact Iff.rfl
theorem R_cond {c : Prop} [Decidable c] {a : α} {P : α → Sto → Prop} : R (if c then some (a, S) else none) P ↔ c ∧ P a S := by
  by_cases h : c
  · rw [if_pos h, R_some]; exact ⟨fun p => ⟨h, p⟩, fun p => p.2⟩
  · rw [if_neg h, R_none]; exact ⟨False.elim, fun p => h p.1⟩
/-- by the kind of a value -/
def WB : D → (Bool → Prop) → Prop
  | .bl b, P => P b
  | _, _ => False
def WI : D → (Int → Prop) → Prop
  | .int b, P => P b
  | _, _ => False
def WStr : D → (Str → Prop) → Prop
  | .str b, P => P b
  | _, _ => False
def WTup : D → (List D → Prop) → Prop
  | .tup b, P => P b
  | _, _ => False
def WLst : D → (List D → Prop) → Prop
  | .lst b, P => P b
  | _, _ => False
def WRef : D → (Nat → Prop) → Prop
  | .ref b, P => P b
  | _, _ => False
theorem wb_bl {b : Bool} {P : Bool → Prop} : WB (.bl b) P ↔ P b := Iff.rfl
theorem wi_int {b : Int} {P : Int → Prop} : WI (.int b) P ↔ P b := Iff.rfl
theorem wstr_str {b : Str} {P : Str → Prop} : WStr (.str b) P ↔ P b := Iff.rfl
theorem wtup_tup {b : List D} {P : List D → Prop} : WTup (.tup b) P ↔ P b := Iff.rfl
theorem wlst_lst {b : List D} {P : List D → Prop} : WLst (.lst b) P ↔ P b := Iff.rfl
theorem wref_ref {b : Nat} {P : Nat → Prop} : WRef (.ref b) P ↔ P b := Iff.rfl
theorem wp_var0 {d : D} {r : DEnv} : R (fVar 0 (some d :: r) S) P ↔ P d S := R_some
theorem wp_varS {n : Nat} {x : Option D} {r : DEnv} : R (fVar (n + 1) (x :: r) S) P ↔ R (fVar n r S) P := by
  unfold fVar
  rw [List.getElem?_cons_succ]
theorem wp_C {d : D} : R (fC d env S) P ↔ P d S := R_some
theorem wp_Bin {g : D → D → Sto → Option (D × Sto)} : R (fBin g fa fb env S) P ↔ R (fa env S) fun x S1 => R (fb env S1) fun y S2 => R (g x y S2) P := by unfold fBin; simp only [R_bind]
theorem wp_neg : R (fUn gNeg fa env S) P ↔ R (fa env S) fun x S1 => WI x fun i => P (.int (-i)) S1 := by
  unfold fUn
  simp only [R_bind]
  refine ⟨fun ⟨d, S1, e, q⟩ => ⟨d, S1, e, ?_⟩, fun ⟨d, S1, e, q⟩ => ⟨d, S1, e, ?_⟩⟩
  · cases d <;> first | exact (R_none.mp q).elim | exact R_some.mp q
  · cases d <;> first | exact q.elim | exact R_some.mpr q
theorem wp_nil : R (fNil env S) PA ↔ PA [] S := R_some
theorem wp_cons : R (fCons f fas env S) PA ↔ R (f env S) fun d S1 => R (fas env S1) fun ds S2 => PA (d :: ds) S2 := by unfold fCons; simp only [R_bind, R_some]
theorem wp_tup : R (fTup fas env S) P ↔ R (fas env S) fun ds S1 => ds.length ≤ 1000 ∧ P (.tup ds) S1 := by unfold fTup; simp only [R_bind, R_cond]
theorem wp_lst : R (fLst fas env S) P ↔ R (fas env S) fun ds S1 => ds.length ≤ 1000 ∧ P (.lst ds) S1 := by unfold fLst; simp only [R_bind, R_cond]
theorem wp_lstM : R (fLstM fas env S) P ↔ R (fas env S) fun ds S1 => ds.length ≤ 1000 ∧ P (.ref S1.length) (S1 ++ [.lst ds]) := by unfold fLstM; simp only [R_bind, R_cond]
theorem wp_Call {g : FD} : R (fCall g fas env S) P ↔ R (fas env S) fun ds S1 => R (g ds S1) P := by unfold fCall; simp only [R_bind]
theorem wp_And : R (fAnd fa fb env S) P ↔ R (fa env S) fun d S1 => WB d fun b => if b = true then R (fb env S1) P else P (.bl false) S1 := by
  unfold fAnd
  simp only [R_bind]
  refine ⟨fun ⟨d, S1, e, q⟩ => ⟨d, S1, e, ?_⟩, fun ⟨d, S1, e, q⟩ => ⟨d, S1, e, ?_⟩⟩
  · cases d <;> first | exact (R_none.mp q).elim | skip
    rename_i b
    cases b
    · exact R_some.mp q
    · exact q
  · cases d <;> first | exact q.elim | skip
    rename_i b
    cases b
    · exact R_some.mpr q
    · exact q
theorem wp_Or : R (fOr fa fb env S) P ↔ R (fa env S) fun d S1 => WB d fun b => if b = true then P (.bl true) S1 else R (fb env S1) P := by
  unfold fOr
  simp only [R_bind]
  refine ⟨fun ⟨d, S1, e, q⟩ => ⟨d, S1, e, ?_⟩, fun ⟨d, S1, e, q⟩ => ⟨d, S1, e, ?_⟩⟩
  · cases d <;> first | exact (R_none.mp q).elim | skip
    rename_i b
    cases b
    · exact q
    · exact R_some.mp q
  · cases d <;> first | exact q.elim | skip
    rename_i b
    cases b
    · exact q
    · exact R_some.mpr q
theorem wp_Not : R (fNot fa env S) P ↔ R (fa env S) fun d S1 => WB d fun b => P (.bl (!b)) S1 := by
  unfold fNot
  simp only [R_bind]
  refine ⟨fun ⟨d, S1, e, q⟩ => ⟨d, S1, e, ?_⟩, fun ⟨d, S1, e, q⟩ => ⟨d, S1, e, ?_⟩⟩
  · cases d <;> first | exact (R_none.mp q).elim | exact R_some.mp q
  · cases d <;> first | exact q.elim | exact R_some.mpr q
theorem wp_Test : R (fTest f env S) PT ↔ R (f env S) fun d S1 => WB d fun b => PT b S1 := by
  unfold fTest
  simp only [R_bind]
  refine ⟨fun ⟨d, S1, e, q⟩ => ⟨d, S1, e, ?_⟩, fun ⟨d, S1, e, q⟩ => ⟨d, S1, e, ?_⟩⟩
  · cases d <;> first | exact (R_none.mp q).elim | exact R_some.mp q
  · cases d <;> first | exact q.elim | exact R_some.mpr q
theorem wp_tAnd : R (tAndD t u env S) PT ↔ R (t env S) fun b S1 => if b = true then R (u env S1) PT else PT false S1 := by unfold tAndD; simp only [R_bind, R_ite, R_some]
theorem wp_tOr : R (tOrD t u env S) PT ↔ R (t env S) fun b S1 => if b = true then PT true S1 else R (u env S1) PT := by unfold tOrD; simp only [R_bind, R_ite, R_some]
theorem wp_tNot : R (tNotD t env S) PT ↔ R (t env S) fun b S1 => PT (!b) S1 := by unfold tNotD; simp only [R_bind, R_some]
theorem wp_If : R (fIf t fa fb env S) P ↔ R (t env S) fun b S1 => if b = true then R (fa env S1) P else R (fb env S1) P := by unfold fIf; simp only [R_bind, R_ite]
theorem wp_Chain {g g' : D → D → Sto → Option (D × Sto)} : R (fChain g g' fa fb fc env S) P ↔ R (fa env S) fun x S1 => R (fb env S1) fun y S2 => R (g x y S2) fun z S3 => WB z fun b => if b = true then R (fc env S3) fun w S4 => R (g' y w S4) P else P (.bl false) S3 := by
  unfold fChain
  simp only [R_bind]
  refine ⟨fun ⟨x, S1, e, y, S2, e2, z, S3, e3, q⟩ => ⟨x, S1, e, y, S2, e2, z, S3, e3, ?_⟩, fun ⟨x, S1, e, y, S2, e2, z, S3, e3, q⟩ => ⟨x, S1, e, y, S2, e2, z, S3, e3, ?_⟩⟩
  · cases z <;> first | exact (R_none.mp q).elim | skip
    rename_i b
    cases b
    · exact R_some.mp q
    · exact R_bind.mp q
  · cases z <;> first | exact q.elim | skip
    rename_i b
    cases b
    · exact R_some.mpr q
    · exact R_bind.mpr q
/-! statements -/
theorem wp_Skip : R (sSkip env S) PS ↔ PS (.nx env) S := R_some
theorem wp_Break : R (sBreak env S) PS ↔ PS (.bk env) S := R_some
theorem wp_Cont : R (sCont env S) PS ↔ PS (.ct env) S := R_some
theorem wp_Never : R (sNever env S) PS ↔ False := R_none
theorem wp_fNever : R (fNever env S) P ↔ False := R_none
theorem wp_Seq : R (sSeq f1 f2 env S) PS ↔ R (f1 env S) (PFl PS f2) := by
  refine ⟨fun ⟨a, S', e, p⟩ => ?_, r_seq⟩
  unfold sSeq at e
  obtain ⟨⟨fl, S1⟩, h1, h⟩ := bind_some e
  refine ⟨fl, S1, h1, ?_⟩
  cases fl <;> first | exact ⟨_, _, h, p⟩ | (cases h; exact p)
theorem wp_pfl_nx {e : DEnv} : PFl PS f2 (.nx e) S ↔ R (f2 e S) PS := Iff.rfl
theorem wp_pfl_rt {d : D} : PFl PS f2 (.rt d) S ↔ PS (.rt d) S := Iff.rfl
theorem wp_pfl_bk {e : DEnv} : PFl PS f2 (.bk e) S ↔ PS (.bk e) S := Iff.rfl
theorem wp_pfl_ct {e : DEnv} : PFl PS f2 (.ct e) S ↔ PS (.ct e) S := Iff.rfl
theorem wp_Expr : R (sExpr f env S) PS ↔ R (f env S) fun _ S1 => PS (.nx env) S1 := by unfold sExpr; simp only [R_bind, R_some]
theorem wp_Ret : R (sRet f env S) PS ↔ R (f env S) fun d S1 => PS (.rt d) S1 := by unfold sRet; simp only [R_bind, R_some]
theorem wp_sIf : R (sIf t f1 f2 env S) PS ↔ R (t env S) fun b S1 => if b = true then R (f1 env S1) PS else R (f2 env S1) PS := by unfold sIf; simp only [R_bind, R_ite]
theorem R_map {o : Option (α × Sto)} {k : α × Sto → β × Sto} {P : β → Sto → Prop} : R (o.map k) P ↔ R o fun a S => P (k (a, S)).1 (k (a, S)).2 := by
  cases o with
  | none => simp only [Option.map_none, R_none]
  | some a => obtain ⟨a, S'⟩ := a; simp only [Option.map_some]; rw [R_some (P := fun a S => P (k (a, S)).1 (k (a, S)).2)]; exact R_some
theorem wp_Asg {g : FG} : R (sAsg f g env S) PS ↔ R (f env S) fun d S1 => R (g d env S1) fun e S2 => PS (.nx e) S2 := by unfold sAsg; simp only [R_bind, R_map]
theorem wp_N {i : Nat} {d : D} : R (gN i d env S) PG ↔ PG (env.set i (some d)) S := R_some
theorem wp_gNil : R (gNil [] env S) PG ↔ PG env S := R_some
theorem wp_gCons {g : FG} {gs : FGs} {d : D} {ds : List D} : R (gCons g gs (d :: ds) env S) PG ↔ R (g d env S) fun e S1 => R (gs ds e S1) PG := R_bind
theorem wp_gTup {n : Nat} {gs : FGs} {ds : List D} : R (gTup n gs (.tup ds) env S) PG ↔ ds.length = n ∧ R (gs ds env S) PG := by
  show R (if ds.length = n then gs ds env S else none) PG ↔ _
  by_cases h : ds.length = n
  · rw [if_pos h]; exact ⟨fun p => ⟨h, p⟩, fun p => p.2⟩
  · rw [if_neg h, R_none]; exact ⟨False.elim, fun p => h p.1⟩
/-- o[i] = v -/
def RU (o : Option Sto) (Q : Sto → Prop) : Prop := ∃ S, o = some S ∧ Q S
theorem wp_gSub {g : D → D → D → Sto → Option Sto} {d : D} : R (gSub g fa fb d env S) PG ↔ R (fa env S) fun x S1 => R (fb env S1) fun y S2 => RU (g x y d S2) (PG env) := by
  unfold gSub
  simp only [R_bind]
  refine ⟨fun ⟨x, S1, e, y, S2, e2, q⟩ => ⟨x, S1, e, y, S2, e2, ?_⟩, fun ⟨x, S1, e, y, S2, e2, q⟩ => ⟨x, S1, e, y, S2, e2, ?_⟩⟩
  · obtain ⟨a, S3, e3, p⟩ := q
    obtain ⟨S4, h1, h2⟩ := map_some e3
    cases h2
    exact ⟨_, h1, p⟩
  · obtain ⟨S3, e3, p⟩ := q
    exact ⟨_, _, by rw [e3]; rfl, p⟩
theorem wp_Par {i j : Nat} : R (sPar i j fas env S) PS ↔ R (fas env S) fun ds S1 => ∃ v w, ds = [v, w] ∧ PS (.nx ((env.set i (some v)).set j (some w))) S1 := by
  refine ⟨fun h => ?_, r_par⟩
  unfold sPar at h
  rw [R_bind] at h
  obtain ⟨ds, S1, e, q⟩ := h
  refine ⟨ds, S1, e, ?_⟩
  match ds, q with
  | [v, w], q => exact ⟨v, w, rfl, R_some.mp q⟩
  | [], q => exact (R_none.mp q).elim
  | [_], q => exact (R_none.mp q).elim
  | _ :: _ :: _ :: _, q => exact (R_none.mp q).elim
theorem wp_two {v w : D} {Q : D → D → Prop} : (∃ a b, [v, w] = [a, b] ∧ Q a b) ↔ Q v w := ⟨fun ⟨a, b, e, q⟩ => by cases e; exact q, fun q => ⟨v, w, rfl, q⟩⟩
/-! a def -/
theorem wp_Run {n : Nat} {g : FS} {ds : List D} : R (runD n g ds S) P ↔ R (g (ds.map some ++ List.replicate (n - ds.length) none) S) (PRun P) := by
  unfold runD
  simp only [R_bind]
  refine ⟨fun ⟨x, S1, e, q⟩ => ⟨x, S1, e, ?_⟩, fun ⟨x, S1, e, q⟩ => ⟨x, S1, e, ?_⟩⟩
  · cases x <;> first | exact (R_some (P := P)).mp q | exact (R_none (P := P)).mp q
  · cases x <;> first | exact (R_some (P := P)).mpr q | exact (R_none (P := P)).mpr q
theorem wp_run_rt {d : D} : PRun P (.rt d) S ↔ P d S := Iff.rfl
theorem wp_run_nx {e : DEnv} : PRun P (.nx e) S ↔ P .non S := Iff.rfl
theorem wp_bk_nx {I : DEnv → Sto → Prop} {e : DEnv} : PBk I PS (.nx e) S ↔ I e S := Iff.rfl
theorem wp_bk_ct {I : DEnv → Sto → Prop} {e : DEnv} : PBk I PS (.ct e) S ↔ I e S := Iff.rfl
theorem wp_bk_bk {I : DEnv → Sto → Prop} {e : DEnv} : PBk I PS (.bk e) S ↔ PS (.nx e) S := Iff.rfl
theorem wp_bk_rt {I : DEnv → Sto → Prop} {d : D} : PBk I PS (.rt d) S ↔ PS (.rt d) S := Iff.rfl
/-! loops over written rows -/
theorem wp_For {fi : FA} {g : FG} : R (sFor fi g f1 env S) PS ↔ R (fi env S) fun xs S1 => R (forD g f1 xs env S1) PS := by unfold sFor; simp only [R_bind]
theorem wp_for0 {g : FG} : R (forD g f1 [] env S) PS ↔ PS (.nx env) S := R_some
theorem wp_forS {g : FG} {x : D} {xs : List D} : R (forD g f1 (x :: xs) env S) PS ↔ R (g x env S) fun e S1 => R (f1 e S1) (PBk (fun e' S2 => R (forD g f1 xs e' S2) PS) PS) := by
  show R ((g x env S).bind _) PS ↔ _
  simp only [R_bind]
  refine ⟨fun ⟨a, S1, e, b, S2, e2, q⟩ => ⟨a, S1, e, b, S2, e2, ?_⟩, fun ⟨a, S1, e, b, S2, e2, q⟩ => ⟨a, S1, e, b, S2, e2, ?_⟩⟩
  · cases b <;> first | exact q | exact (R_some (P := PS)).mp q
  · cases b <;> first | exact q | exact (R_some (P := PS)).mpr q
theorem wp_iLst : R (iLst f env S) PA ↔ R (f env S) fun d S1 => WLst d fun ds => PA ds S1 := by
  unfold iLst
  simp only [R_bind]
  refine ⟨fun ⟨d, S1, e, q⟩ => ⟨d, S1, e, ?_⟩, fun ⟨d, S1, e, q⟩ => ⟨d, S1, e, ?_⟩⟩
  · cases d <;> first | exact (R_none.mp q).elim | exact R_some.mp q
  · cases d <;> first | exact q.elim | exact R_some.mpr q
theorem wp_iTup : R (iTup f env S) PA ↔ R (f env S) fun d S1 => WTup d fun ds => PA ds S1 := by
  unfold iTup
  simp only [R_bind]
  refine ⟨fun ⟨d, S1, e, q⟩ => ⟨d, S1, e, ?_⟩, fun ⟨d, S1, e, q⟩ => ⟨d, S1, e, ?_⟩⟩
  · cases d <;> first | exact (R_none.mp q).elim | exact R_some.mp q
  · cases d <;> first | exact q.elim | exact R_some.mpr q
theorem wp_iR1 : R (iRange1 fas env S) PA ↔ R (fas env S) fun ds S1 => ∃ j, ds = [.int j] ∧ okR j = true ∧ PA (rangeD 0 j) S1 := by
  unfold iRange1
  simp only [R_bind]
  refine ⟨fun ⟨d, S1, e, q⟩ => ⟨d, S1, e, ?_⟩, fun ⟨d, S1, e, q⟩ => ⟨d, S1, e, ?_⟩⟩
  · dsimp only at q
    split at q
    · rename_i j
      rw [R_cond] at q
      exact ⟨j, rfl, q.1, q.2⟩
    · exact (R_none.mp q).elim
  · obtain ⟨j, rfl, h1, h2⟩ := q
    exact R_cond.mpr ⟨h1, h2⟩
theorem wp_iR2 : R (iRange2 fas env S) PA ↔ R (fas env S) fun ds S1 => ∃ i j, ds = [.int i, .int j] ∧ (okR i = true ∧ okR j = true) ∧ PA (rangeD i j) S1 := by
  unfold iRange2
  simp only [R_bind]
  refine ⟨fun ⟨d, S1, e, q⟩ => ⟨d, S1, e, ?_⟩, fun ⟨d, S1, e, q⟩ => ⟨d, S1, e, ?_⟩⟩
  · dsimp only at q
    split at q
    · rename_i i j
      rw [R_cond] at q
      exact ⟨i, j, rfl, q.1, q.2⟩
    · exact (R_none.mp q).elim
  · obtain ⟨i, j, rfl, h1, h2⟩ := q
    exact R_cond.mpr ⟨h1, h2⟩
theorem wp_r1 {i : Int} {Q : Int → Prop} : (∃ j, [D.int i] = [D.int j] ∧ Q j) ↔ Q i := ⟨fun ⟨a, e, q⟩ => by cases e; exact q, fun q => ⟨i, rfl, q⟩⟩
theorem wp_r2 {i j : Int} {Q : Int → Int → Prop} : (∃ a b, [D.int i, D.int j] = [D.int a, D.int b] ∧ Q a b) ↔ Q i j := ⟨fun ⟨a, b, e, q⟩ => by cases e; exact q, fun q => ⟨i, j, rfl, q⟩⟩
/-! operators -/
theorem wp_add {i j : Int} : R (gAdd (.int i) (.int j) S) P ↔ P (.int (i + j)) S := R_some
theorem wp_addL {a b : List D} : R (gAdd (.lst a) (.lst b) S) P ↔ a.length + b.length ≤ 16777216 ∧ P (.lst (a ++ b)) S := R_cond
theorem wp_addS {a b : Str} : R (gAdd (.str a) (.str b) S) P ↔ a.length + b.length ≤ 16777216 ∧ P (.str (a ++ b)) S := R_cond
theorem wp_sub {i j : Int} : R (gI0 (fun i j => .int (i - j)) (.int i) (.int j) S) P ↔ P (.int (i - j)) S := R_some
theorem wp_I0 {k : Int → Int → D} {i j : Int} : R (gI0 k (.int i) (.int j) S) P ↔ P (k i j) S := R_some
theorem wp_mul {i j : Int} : R (gI (fun i j => smallI i && smallI j) (fun i j => .int (i * j)) (.int i) (.int j) S) P ↔ (smallI i = true ∧ smallI j = true) ∧ P (.int (i * j)) S := by
  rw [← Bool.and_eq_true]
  exact R_cond
def lgI (j : Int) : Prop := j.natAbs.log2 < 9000
theorem wp_fdiv {i j : Int} : R (gI (fun _ j => decide (0 < j) && decide (j.natAbs.log2 < 9000)) (fun i j => .int (i / j)) (.int i) (.int j) S) P ↔ (0 < j ∧ lgI j) ∧ P (.int (i / j)) S := by
  have e : ((decide (0 < j) && decide (j.natAbs.log2 < 9000)) = true) ↔ (0 < j ∧ lgI j) := by simp [lgI]
  rw [← e]
  exact R_cond
theorem wp_mod {i j : Int} : R (gI (fun _ j => decide (0 < j)) (fun i j => .int (i % j)) (.int i) (.int j) S) P ↔ 0 < j ∧ P (.int (i % j)) S := by
  have e : (decide (0 < j) = true) ↔ 0 < j := by simp
  rw [← e]
  exact R_cond
theorem wp_eqI {i j : Int} : R (gEq (.int i) (.int j) S) P ↔ P (.bl (decide (i = j))) S := R_some
theorem wp_eqS {i j : Str} : R (gEq (.str i) (.str j) S) P ↔ P (.bl (decide (i = j))) S := R_some
theorem wp_eqB {i j : Bool} : R (gEq (.bl i) (.bl j) S) P ↔ P (.bl (decide (i = j))) S := R_some
theorem wp_neI {i j : Int} : R (gNe (.int i) (.int j) S) P ↔ P (.bl (!decide (i = j))) S := R_some
theorem wp_neS {i j : Str} : R (gNe (.str i) (.str j) S) P ↔ P (.bl (!decide (i = j))) S := R_some
theorem wp_neB {i j : Bool} : R (gNe (.bl i) (.bl j) S) P ↔ P (.bl (!decide (i = j))) S := R_some
theorem wp_isN {x : D} : R (gIsN x .non S) P ↔ P (.bl (isNonD x)) S := by cases x <;> exact R_some
theorem wp_notN {x : D} : R (gNotN x .non S) P ↔ P (.bl (!isNonD x)) S := by cases x <;> exact R_some
theorem isn_int {i : Int} : isNonD (.int i) = false := rfl
theorem isn_non : isNonD .non = true := rfl
theorem isn_str {i : Str} : isNonD (.str i) = false := rfl
theorem isn_tup {i : List D} : isNonD (.tup i) = false := rfl
theorem isn_lst {i : List D} : isNonD (.lst i) = false := rfl
theorem isn_ref {i : Nat} : isNonD (.ref i) = false := rfl
theorem isn_bl {i : Bool} : isNonD (.bl i) = false := rfl
theorem wp_isi {T : String} : R (fIsi T f env S) P ↔ R (f env S) fun d S1 => ∃ b, isiT T d = some b ∧ P (.bl b) S1 := by
  unfold fIsi
  simp only [R_bind]
  refine ⟨fun ⟨d, S1, e, q⟩ => ⟨d, S1, e, ?_⟩, fun ⟨d, S1, e, q⟩ => ⟨d, S1, e, ?_⟩⟩
  · obtain ⟨a, S3, e3, p⟩ := q
    obtain ⟨b, h1, h2⟩ := map_some e3
    cases h2
    exact ⟨b, h1, p⟩
  · obtain ⟨b, e3, p⟩ := q
    exact ⟨_, _, by rw [e3]; rfl, p⟩
theorem wp_someB {b : Bool} {Q : Bool → Prop} : (∃ c, some b = some c ∧ Q c) ↔ Q b := ⟨fun ⟨a, e, q⟩ => by cases e; exact q, fun q => ⟨b, rfl, q⟩⟩
theorem isi_str_str {k : Str} : isiT "str" (.str k) = some true := rfl
theorem isi_int_int {k : Int} : isiT "int" (.int k) = some true := rfl
theorem isi_int_bl {k : Bool} : isiT "int" (.bl k) = some true := rfl
theorem isi_bool_int {k : Int} : isiT "bool" (.int k) = some false := rfl
theorem isi_bool_bl {k : Bool} : isiT "bool" (.bl k) = some true := rfl
theorem isi_int_non : isiT "int" .non = some false := rfl
theorem isi_int_str {k : Str} : isiT "int" (.str k) = some false := rfl
theorem isi_tuple_tup {k : List D} : isiT "tuple" (.tup k) = some true := rfl
/-! built-ins -/
theorem wp_abs {i : Int} : R (cAbs [.int i] S) P ↔ P (.int (if i < 0 then -i else i)) S := R_some
theorem wp_max2 {i j : Int} : R (cMax2 [.int i, .int j] S) P ↔ P (.int (if j > i then j else i)) S := R_some
theorem wp_min2 {i j : Int} : R (cMin2 [.int i, .int j] S) P ↔ P (.int (if j < i then j else i)) S := R_some
theorem wp_maxT {i j : Int} : R (cMaxT [.tup [.int i, .int j]] S) P ↔ P (.int (if j > i then j else i)) S := R_some
theorem wp_intI {i : Int} : R (cInt [.int i] S) P ↔ P (.int i) S := R_some
theorem wp_intB {i : Bool} : R (cInt [.bl i] S) P ↔ P (.int (if i then 1 else 0)) S := R_some
theorem wp_lenS {x : Str} : R (cLen [.str x] S) P ↔ x.length ≤ 16777216 ∧ P (.int x.length) S := R_cond
theorem wp_lenT {x : List D} : R (cLen [.tup x] S) P ↔ P (.int x.length) S := R_some
theorem wp_lenL {x : List D} : R (cLen [.lst x] S) P ↔ P (.int x.length) S := R_some
theorem wp_lenC {x : List Int} : R (cLen [.scr x] S) P ↔ P (.int x.length) S := R_some
theorem wp_divmod {i j : Int} : R (cDivmod [.int i, .int j] S) P ↔ (0 < j ∧ lgI j) ∧ P (.tup [.int (i / j), .int (i % j)]) S := R_cond
theorem wp_listL {x : List D} : R (cList [.lst x] S) P ↔ P (.lst x) S := R_some
theorem wp_listT {x : List D} : R (cList [.tup x] S) P ↔ P (.lst x) S := R_some
theorem wp_tupL {x : List D} : R (cTuple [.lst x] S) P ↔ P (.tup x) S := R_some
theorem wp_tupT {x : List D} : R (cTuple [.tup x] S) P ↔ P (.tup x) S := R_some
/-! dicts of the text -/
theorem wp_KIn {neg : Bool} {tab : List (Str × Int)} : R (fKIn neg tab f env S) P ↔ R (f env S) fun d S1 => ∃ s, d = .str s ∧ P (.bl (if neg then !(tab.lookup s).isSome else (tab.lookup s).isSome)) S1 := by
  unfold fKIn
  simp only [R_bind]
  refine ⟨fun ⟨d, S1, e, q⟩ => ⟨d, S1, e, ?_⟩, fun ⟨d, S1, e, q⟩ => ⟨d, S1, e, ?_⟩⟩
  · cases d <;> first | exact (R_none.mp q).elim | exact ⟨_, rfl, R_some.mp q⟩
  · obtain ⟨s, rfl, q⟩ := q
    exact R_some.mpr q
theorem wp_strE {s : Str} {Q : Str → Prop} : (∃ z, D.str s = D.str z ∧ Q z) ↔ Q s := ⟨fun ⟨a, e, q⟩ => by cases e; exact q, fun q => ⟨s, rfl, q⟩⟩
/-! objects -/
theorem wp_Fld {c x : Str} : R (fFld c x f env S) P ↔ R (f env S) fun d S1 => ∃ q, insOf c d S1 = some q ∧ ∃ v, getF q.1 q.2 x = some v ∧ P v S1 := by
  unfold fFld
  simp only [R_bind]
  refine ⟨fun ⟨d, S1, e, q⟩ => ⟨d, S1, e, ?_⟩, fun ⟨d, S1, e, q⟩ => ⟨d, S1, e, ?_⟩⟩
  · obtain ⟨a, S3, e3, p⟩ := q
    obtain ⟨q1, h1, h2⟩ := bind_some e3
    obtain ⟨v, h3, h4⟩ := map_some h2
    cases h4
    exact ⟨q1, h1, _, h3, p⟩
  · obtain ⟨q1, h1, v, h3, p⟩ := q
    exact ⟨_, _, by rw [h1]; show ((getF q1.1 q1.2 x).map _) = _; rw [h3]; rfl, p⟩
theorem wp_FldO {c c' x : Str} {fs : List Str} {ds : List D} {Q : D → Prop} : (∃ q, insOf c (.obj c' fs ds) S = some q ∧ ∃ v, getF q.1 q.2 x = some v ∧ Q v) ↔ c' = c ∧ ∃ v, getF fs ds x = some v ∧ Q v := by
  show (∃ q, (if c' = c then some (fs, ds) else none) = some q ∧ _) ↔ _
  by_cases h : c' = c
  · rw [if_pos h]
    exact ⟨fun ⟨q, e, z⟩ => by cases e; exact ⟨h, z⟩, fun ⟨_, z⟩ => ⟨_, rfl, z⟩⟩
  · rw [if_neg h]
    exact ⟨fun ⟨q, e, z⟩ => (by cases e), fun ⟨z, _⟩ => absurd z h⟩
theorem wp_getF {x : Str} {fs : List Str} {ds : List D} {Q : D → Prop} {v : D} (h : getF fs ds x = some v) : (∃ u, getF fs ds x = some u ∧ Q u) ↔ Q v := by
  rw [h]
  exact ⟨fun ⟨u, e, z⟩ => by cases e; exact z, fun z => ⟨v, rfl, z⟩⟩
theorem wp_Meth {c x : Str} {g : FD} : R (fMeth c x g fo fas env S) P ↔ R (fo env S) fun d S1 => (∃ q, insOf c d S1 = some q ∧ hasF q.1 x = false) ∧ R (fas env S1) fun ds S2 => R (g (d :: ds) S2) P := by
  unfold fMeth
  simp only [R_bind]
  refine ⟨fun ⟨d, S1, e, q⟩ => ⟨d, S1, e, ?_⟩, fun ⟨d, S1, e, q⟩ => ⟨d, S1, e, ?_⟩⟩
  · obtain ⟨a, S3, e3, p⟩ := q
    obtain ⟨q1, h1, h2⟩ := bind_some e3
    split at h2
    · rename_i hh
      obtain ⟨⟨ds, S4⟩, h3, h4⟩ := bind_some h2
      exact ⟨⟨q1, h1, hh⟩, ds, S4, h3, a, S3, h4, p⟩
    · cases h2
  · obtain ⟨⟨q1, h1, hh⟩, ds, S4, h3, a, S3, h4, p⟩ := q
    refine ⟨a, S3, ?_, p⟩
    rw [h1]
    show (if hasF q1.1 x = false then _ else _) = _
    rw [if_pos hh, h3]
    exact h4
theorem wp_MakeF {c : Str} {fs : List Str} {g' : List D → Option (List D)} {dds : List D} : R (fMakeF c fs g' dds fas env S) P ↔ R (fas env S) fun ds S1 => ∃ vals, g' (ds ++ dds) = some vals ∧ P (.obj c fs vals) S1 := by
  unfold fMakeF
  simp only [R_bind]
  refine ⟨fun ⟨d, S1, e, q⟩ => ⟨d, S1, e, ?_⟩, fun ⟨d, S1, e, q⟩ => ⟨d, S1, e, ?_⟩⟩
  · obtain ⟨a, S3, e3, p⟩ := q
    obtain ⟨b, h1, h2⟩ := map_some e3
    cases h2
    exact ⟨b, h1, p⟩
  · obtain ⟨b, e3, p⟩ := q
    exact ⟨_, _, by rw [e3]; rfl, p⟩
theorem wp_someL {b : List D} {Q : List D → Prop} : (∃ c, some b = some c ∧ Q c) ↔ Q b := ⟨fun ⟨a, e, q⟩ => by cases e; exact q, fun q => ⟨b, rfl, q⟩⟩
end
/-! ## bounds in bits -/
def Bd (k : Nat) (i : Int) : Prop := i.natAbs < 2 ^ k
theorem bd_mul {a b : Nat} {i j : Int} (h : Bd a i) (g : Bd b j) : Bd (a + b) (i * j) := by
  unfold Bd at *
  rw [Int.natAbs_mul, Nat.pow_add]
  exact Nat.mul_lt_mul'' h g
theorem bd_mono {a b : Nat} {i : Int} (h : Bd a i) (g : a ≤ b) : Bd b i := Nat.lt_of_lt_of_le h (Nat.pow_le_pow_right (by decide) g)
theorem bd_add {a b : Nat} {i j : Int} (h : Bd a i) (g : Bd b j) : Bd (a + b + 1) (i + j) := by
  have h := bd_mono h (Nat.le_add_right a b)
  have g := bd_mono g (Nat.le_add_left b a)
  unfold Bd at *
  rw [Nat.pow_succ]
  have := Int.natAbs_add_le i j
  omega
theorem bd_sub {a b : Nat} {i j : Int} (h : Bd a i) (g : Bd b j) : Bd (a + b + 1) (i - j) := by
  rw [Int.sub_eq_add_neg]
  refine bd_add h ?_
  unfold Bd
  rw [Int.natAbs_neg]
  exact g
theorem bd_div {a : Nat} {i j : Int} (h : Bd a i) (g : 0 < j) : Bd (a + 1) (i / j) := by
  unfold Bd at *
  rw [Nat.pow_succ]
  have h1 : i / j ≤ i.natAbs := by
    have : i / j ≤ (i.natAbs : Int) / j := Int.ediv_le_ediv g (by omega)
    have := Int.ediv_le_self j (show (0 : Int) ≤ i.natAbs by omega)
    omega
  have h2 : -(i.natAbs : Int) - 1 ≤ i / j := by
    have h3 : (-(i.natAbs : Int)) / j ≤ i / j := Int.ediv_le_ediv g (by omega)
    have h4 : -(i.natAbs : Int) - 1 ≤ (-(i.natAbs : Int)) / j := by
      apply Int.le_ediv_of_mul_le g
      have : (0 : Int) ≤ i.natAbs := by omega
      have : (i.natAbs : Int) * 1 ≤ (i.natAbs : Int) * j := Int.mul_le_mul_of_nonneg_left (by omega) this
      rw [Int.sub_mul, Int.neg_mul]
      omega
    omega
  omega
theorem small_bd {a : Nat} {i : Int} (h : Bd a i) (g : a ≤ 400000) (g0 : 0 < a) : smallI i = true := by
  unfold smallI
  refine decide_eq_true ?_
  by_cases e : i.natAbs = 0
  · rw [e]; decide
  · exact Nat.lt_of_lt_of_le ((Nat.log2_lt e).mpr h) g
theorem lg_bd {a : Nat} {i : Int} (h : Bd a i) (g : a ≤ 9000) : lgI i := by
  unfold lgI
  by_cases e : i.natAbs = 0
  · rw [e]; decide
  · exact Nat.lt_of_lt_of_le ((Nat.log2_lt e).mpr h) g
end DL

namespace DL
open PySem PySem.Spec PyProof.Rows L2
section
variable {α β : Type} {env : DEnv} {S S1 : Sto} {f1 f2 : FS} {t u : FT} {f fa fb fc fo fe fv fk fx : FE} {fas : FA} {P : D → Sto → Prop} {PA : List D → Sto → Prop} {PT : Bool → Sto → Prop} {PS : Fl → Sto → Prop} {PG : DEnv → Sto → Prop}
theorem wp_sFld {c x : Str} : R (sFldD c x fo fv env S) PS ↔ R (fv env S) fun v S1 => R (fo env S1) fun d S2 => ∃ i, d = .ref i ∧ ∃ c' fs ds, S2[i]? = some (.ins c' fs ds) ∧ (c' = c ∧ fs.length < 900) ∧ PS (.nx env) (S2.set i (.ins c (putN fs x) (putD fs ds x v))) := by
  unfold sFldD
  simp only [R_bind]
  refine ⟨fun ⟨v, S1, e, d, S2, e2, q⟩ => ⟨v, S1, e, d, S2, e2, ?_⟩, fun ⟨v, S1, e, d, S2, e2, q⟩ => ⟨v, S1, e, d, S2, e2, ?_⟩⟩
  · cases d with
    | ref i =>
      dsimp only at q
      split at q
      · rename_i c' fs ds hc
        rw [R_cond] at q
        exact ⟨i, rfl, c', fs, ds, hc, q.1, q.2⟩
      · exact (R_none.mp q).elim
    | _ => exact (R_none.mp q).elim
  · obtain ⟨i, rfl, c', fs, ds, h1, h2, h3⟩ := q
    dsimp only
    rw [h1]
    exact R_cond.mpr ⟨h2, h3⟩
theorem wp_last {c0 : Str} {f0 : List Str} {d0 : List D} {Q : Nat → Str → List Str → List D → Prop} : (∃ i, D.ref S.length = .ref i ∧ ∃ c' fs ds, (S ++ [Cell.ins c0 f0 d0])[i]? = some (.ins c' fs ds) ∧ Q i c' fs ds) ↔ Q S.length c0 f0 d0 := by
  have h : (S ++ [Cell.ins c0 f0 d0])[S.length]? = some (.ins c0 f0 d0) := by simp
  refine ⟨fun ⟨i, e, c', fs, ds, h1, q⟩ => ?_, fun q => ⟨_, rfl, _, _, _, h, q⟩⟩
  cases e
  rw [h] at h1
  cases h1
  exact q
theorem wp_KIx {tab : List (Str × Int)} : R (fKIx tab f env S) P ↔ R (f env S) fun d S1 => ∃ s, d = .str s ∧ ∃ v, tab.lookup s = some v ∧ P (.int v) S1 := by
  unfold fKIx
  simp only [R_bind]
  refine ⟨fun ⟨d, S1, e, q⟩ => ⟨d, S1, e, ?_⟩, fun ⟨d, S1, e, q⟩ => ⟨d, S1, e, ?_⟩⟩
  · cases d with
    | str s =>
      obtain ⟨a, S3, e3, p⟩ := q
      obtain ⟨b, h1, h2⟩ := map_some e3
      cases h2
      exact ⟨s, rfl, b, h1, p⟩
    | _ => exact (R_none.mp q).elim
  · obtain ⟨s, rfl, v, h1, p⟩ := q
    exact ⟨_, _, by show ((tab.lookup s).map _) = _; rw [h1]; rfl, p⟩
theorem wp_someX {b : α} {Q : α → Prop} : (∃ c, some b = some c ∧ Q c) ↔ Q b := ⟨fun ⟨a, e, q⟩ => by cases e; exact q, fun q => ⟨b, rfl, q⟩⟩
theorem wp_lk {o : Option Int} {v : Int} {Q : Int → Prop} (h : o = some v) : (∃ u, o = some u ∧ Q u) ↔ Q v := by
  rw [h]
  exact ⟨fun ⟨u, e, z⟩ => by cases e; exact z, fun z => ⟨v, rfl, z⟩⟩
theorem wp_inT {neg : Bool} {k : Str} {ds : List D} : R (gInB neg (.str k) (.tup ds) S) P ↔ ds.all flatD = true ∧ P (.bl (if neg then !ds.any (fun z => eqF z (.str k)) else ds.any (fun z => eqF z (.str k)))) S := by
  show R (if flatD (.str k) = true ∧ ds.all flatD = true then _ else _) P ↔ _
  rw [R_cond]
  exact ⟨fun ⟨⟨_, h⟩, q⟩ => ⟨h, q⟩, fun ⟨h, q⟩ => ⟨⟨rfl, h⟩, q⟩⟩
theorem wp_inL {neg : Bool} {k : Str} {ds : List D} : R (gInB neg (.str k) (.lst ds) S) P ↔ ds.all flatD = true ∧ P (.bl (if neg then !ds.any (fun z => eqF z (.str k)) else ds.any (fun z => eqF z (.str k)))) S := by
  show R (if flatD (.str k) = true ∧ ds.all flatD = true then _ else _) P ↔ _
  rw [R_cond]
  exact ⟨fun ⟨⟨_, h⟩, q⟩ => ⟨h, q⟩, fun ⟨h, q⟩ => ⟨⟨rfl, h⟩, q⟩⟩
theorem wp_inS {neg : Bool} {k y : Str} : R (gInB neg (.str k) (.str y) S) P ↔ P (.bl (if neg then !(!(Builtin.Str.occurrences y k 0 y.length 1).isEmpty) else !(Builtin.Str.occurrences y k 0 y.length 1).isEmpty)) S := by
  cases neg <;> exact R_some
theorem eqF_str {a b : Str} : eqF (.str a) (.str b) = decide (a = b) := by
  by_cases h : a = b
  · subst h; simp [eqF]
  · simp [eqF, h]
theorem flat_str {a : Str} : flatD (.str a) = true := rfl
theorem flat_int {a : Int} : flatD (.int a) = true := rfl
theorem flat_non : flatD .non = true := rfl
theorem R_eq {o : Option (α × Sto)} {a : α} : (R o fun x S' => x = a ∧ S' = S) ↔ o = some (a, S) := ⟨R.eq, fun h => ⟨a, S, h, rfl, rfl⟩⟩
theorem eq_R {o : Option (α × Sto)} {a : α} {P : α → Sto → Prop} (h : o = some (a, S)) : R o P ↔ P a S := by rw [h]; exact R_some
theorem wp_ixR {k : Nat} {i : Int} {ds : List D} (h : S[k]? = some (.lst ds)) : R (gIx (.ref k) (.int i) S) P ↔ ∃ d, L2.atI ds i = some d ∧ P d S := by
  unfold gIx
  simp only [h]
  rw [R]
  refine ⟨fun ⟨a, S', e, p⟩ => ?_, fun ⟨d, e, p⟩ => ⟨d, S, by rw [e]; rfl, p⟩⟩
  obtain ⟨d, h1, h2⟩ := map_some e
  cases h2
  exact ⟨_, h1, p⟩
theorem wp_ixL {i : Int} {ds : List D} : R (gIx (.lst ds) (.int i) S) P ↔ ∃ d, L2.atI ds i = some d ∧ P d S := by
  rw [R]
  refine ⟨fun ⟨a, S', e, p⟩ => ?_, fun ⟨d, e, p⟩ => ⟨d, S, by show (L2.atI ds i).map _ = _; rw [e]; rfl, p⟩⟩
  obtain ⟨d, h1, h2⟩ := map_some (show (L2.atI ds i).map _ = _ from e)
  cases h2
  exact ⟨_, h1, p⟩
theorem wp_ixT {i : Int} {ds : List D} : R (gIx (.tup ds) (.int i) S) P ↔ ∃ d, L2.atI ds i = some d ∧ P d S := by
  rw [R]
  refine ⟨fun ⟨a, S', e, p⟩ => ?_, fun ⟨d, e, p⟩ => ⟨d, S, by show (L2.atI ds i).map _ = _; rw [e]; rfl, p⟩⟩
  obtain ⟨d, h1, h2⟩ := map_some (show (L2.atI ds i).map _ = _ from e)
  cases h2
  exact ⟨_, h1, p⟩
theorem wp_ixC {i : Int} {ns : List Int} : R (gIx (.scr ns) (.int i) S) P ↔ ∃ d, L2.atI ns i = some d ∧ P (.int d) S := by
  rw [R]
  refine ⟨fun ⟨a, S', e, p⟩ => ?_, fun ⟨d, e, p⟩ => ⟨.int d, S, by show (L2.atI ns i).map _ = _; rw [e]; rfl, p⟩⟩
  obtain ⟨d, h1, h2⟩ := map_some (show (L2.atI ns i).map _ = _ from e)
  cases h2
  exact ⟨_, h1, p⟩
theorem wp_setR {k : Nat} {i : Int} {v : D} {ds : List D} {Q : Sto → Prop} (h : S[k]? = some (.lst ds)) : RU (gSetA (.ref k) (.int i) v S) Q ↔ ∃ j, ixN ds.length i = some j ∧ Q (S.set k (.lst (ds.set j v))) := by
  unfold gSetA
  simp only [h]
  rw [RU]
  refine ⟨fun ⟨a, e, p⟩ => ?_, fun ⟨d, e, p⟩ => ⟨_, by rw [e]; rfl, p⟩⟩
  obtain ⟨d, h1, h2⟩ := map_some e
  cases h2
  exact ⟨_, h1, p⟩
theorem atI0 {α : Type} {a : α} {r : List α} : L2.atI (a :: r) 0 = some a := by
  unfold L2.atI ixN
  rw [if_pos (by decide), if_pos (by rw [List.length_cons]; omega)]
  rfl
theorem atI1 {α : Type} {a b : α} {r : List α} : L2.atI (a :: b :: r) 1 = some b := by
  unfold L2.atI ixN
  rw [if_pos (by decide), if_pos (by rw [List.length_cons, List.length_cons]; omega)]
  rfl
theorem atI2 {α : Type} {a b c : α} {r : List α} : L2.atI (a :: b :: c :: r) 2 = some c := by
  unfold L2.atI ixN
  rw [if_pos (by decide), if_pos (by rw [List.length_cons, List.length_cons, List.length_cons]; omega)]
  rfl
theorem ixN0 {n : Nat} : ixN (n + 1) 0 = some 0 := by
  unfold ixN
  rw [if_pos (by decide), if_pos (by omega)]
  rfl
theorem ixN1 {n : Nat} : ixN (n + 1 + 1) 1 = some 1 := by
  unfold ixN
  rw [if_pos (by decide), if_pos (by omega)]
  rfl
theorem atI_in {α : Type} {xs : List α} {i : Int} (h0 : 0 ≤ i) (h1 : i < xs.length) : ∃ x, L2.atI xs i = some x ∧ x ∈ xs := by
  refine ⟨xs[i.toNat]'(by omega), ?_, List.getElem_mem _⟩
  unfold L2.atI ixN
  rw [if_pos h0, if_pos h1]
  exact List.getElem?_eq_getElem _
/-! comprehensions -/
theorem wp_Lc {fi : FA} {g : FG} {vs : List Nat} : R (fLc fi g t f vs env S) P ↔ R (fi env S) fun xs S1 => xs.length ≤ 1000000 ∧ R (lcD g t f (wipeD env vs) xs S1) fun ds S2 => P (.lst ds) S2 := by
  unfold fLc
  simp only [R_bind]
  refine ⟨fun ⟨x, S1, e, q⟩ => ⟨x, S1, e, ?_⟩, fun ⟨x, S1, e, q⟩ => ⟨x, S1, e, ?_⟩⟩
  · dsimp only at q
    split at q
    · rename_i h
      rw [R_bind] at q
      simp only [R_some] at q
      exact ⟨h, q⟩
    · exact (R_none.mp q).elim
  · obtain ⟨h, q⟩ := q
    rw [if_pos h, R_bind]
    simp only [R_some]
    exact q
theorem wp_lc0 {g : FG} : R (lcD g t f env [] S) PA ↔ PA [] S := R_some
theorem wp_lcS {g : FG} {x : D} {xs : List D} : R (lcD g t f env (x :: xs) S) PA ↔ R (g x env S) fun e S1 => R (t e S1) fun b S2 => if b = true then R (f e S2) fun y S3 => R (lcD g t f env xs S3) fun ds S4 => PA (y :: ds) S4 else R (lcD g t f env xs S2) PA := by
  show R ((g x env S).bind _) PA ↔ _
  simp only [R_bind, R_ite, R_some]
theorem wp_Yes : R (tYesD env S) PT ↔ PT true S := R_some
theorem r_lcD {g : FG} (Q : D → Prop) (I : Sto → Prop) : ∀ {items : List D} {S : Sto}, (∀ x ∈ items, ∀ S, I S → R (g x env S) fun e S1 => R (t e S1) fun b S2 => if b = true then R (f e S2) fun y S3 => Q y ∧ I S3 else I S2) → I S →
    R (lcD g t f env items S) fun ds S' => (∀ d ∈ ds, Q d) ∧ I S'
  | [], S, _, h => R_some.mpr ⟨fun d hd => (by cases hd), h⟩
  | x :: xs, S, hs, h => by
    rw [wp_lcS]
    refine (hs x (by simp) S h).imp fun e S1 h1 => h1.imp fun b S2 h2 => ?_
    cases b with
    | true =>
      refine R.imp h2 fun y S3 h3 => ?_
      refine (r_lcD Q I (fun z hz => hs z (by simp [hz])) h3.2).imp fun ds S4 h4 => ⟨fun d hd => ?_, h4.2⟩
      rcases List.mem_cons.mp hd with rfl | hd
      · exact h3.1
      · exact h4.1 d hd
    | false => exact r_lcD Q I (fun z hz => hs z (by simp [hz])) h2
theorem bools_true : ∀ {ds : List D}, (∀ d ∈ ds, d = .bl true) → ∃ bs, asBools ds = some bs ∧ bs.all id = true
  | [], _ => ⟨[], rfl, rfl⟩
  | d :: ds, h => by
    obtain ⟨bs, h1, h2⟩ := bools_true (ds := ds) fun z hz => h z (by simp [hz])
    have := h d (by simp)
    subst this
    exact ⟨true :: bs, by show (asBools ds).map _ = _; rw [h1]; rfl, by simpa using h2⟩
theorem all_true {ds : List D} (h : ∀ d ∈ ds, d = .bl true) : cAll [.lst ds] S = some (.bl true, S) := by
  obtain ⟨bs, h1, h2⟩ := bools_true h
  show (asBools ds).map _ = _
  rw [h1, ← h2]
  rfl
theorem mem_range {a b : Int} {d : D} (h : d ∈ rangeD a b) : ∃ i, d = .int i ∧ a ≤ i ∧ i < b := by
  unfold rangeD at h
  obtain ⟨k, hk, rfl⟩ := List.mem_map.mp h
  have := List.mem_range.mp hk
  exact ⟨_, rfl, by omega, by omega⟩
theorem len_range {a b : Int} : (rangeD a b).length = (b - a).toNat := by simp [rangeD]
theorem okR_of {i : Int} (h : -1000000000000 ≤ i) (h2 : i ≤ 1000000000000) : okR i = true := by
  unfold okR
  rw [decide_eq_true (by omega), decide_eq_true (by omega)]
  rfl
/-- the other cells are as they were -/
def Apart (S S' : Sto) (i : Nat) : Prop := S'.length = S.length ∧ ∀ j, j ≠ i → S'[j]? = S[j]?
theorem Apart.refl (S : Sto) (i : Nat) : Apart S S i := ⟨rfl, fun _ _ => rfl⟩
theorem Apart.trans {S S1 S2 : Sto} {i : Nat} (a : Apart S S1 i) (b : Apart S1 S2 i) : Apart S S2 i := ⟨b.1.trans a.1, fun j h => (b.2 j h).trans (a.2 j h)⟩
theorem Apart.set (S : Sto) (i : Nat) (c : Cell) : Apart S (S.set i c) i := ⟨by simp, fun j h => by rw [List.getElem?_set_ne (fun e => h e.symm)]⟩
theorem set_at {S : Sto} {i : Nat} {c c' : Cell} (h : S[i]? = some c) : (S.set i c')[i]? = some c' := List.getElem?_set_self (List.getElem?_eq_some_iff.mp h).1
theorem wp_pow10_9 : R (gI (fun i j => decide (0 ≤ j) && decide (j ≤ 1000000) && decide (i.natAbs < 18446744073709551616)) (fun i j => .int (i ^ j.toNat)) (.int 10) (.int 9) S) P ↔ P (.int 1000000000) S := R_some
theorem wp_pow10_18 : R (gI (fun i j => decide (0 ≤ j) && decide (j ≤ 1000000) && decide (i.natAbs < 18446744073709551616)) (fun i j => .int (i ^ j.toNat)) (.int 10) (.int 18) S) P ↔ P (.int 1000000000000000000) S := R_some
theorem wp_pow10_40 : R (gI (fun i j => decide (0 ≤ j) && decide (j ≤ 1000000) && decide (i.natAbs < 18446744073709551616)) (fun i j => .int (i ^ j.toNat)) (.int 10) (.int 40) S) P ↔ P (.int 10000000000000000000000000000000000000000) S := R_some
theorem wp_Sl {lo hi : FO} : R (fSl fa lo hi env S) P ↔ R (fa env S) fun x S1 => R (lo env S1) fun i S2 => R (hi env S2) fun j S3 => R (gSl x i j S3) P := by unfold fSl; simp only [R_bind]
theorem wp_oNone {Q : Option Int → Sto → Prop} : R (oNone env S) Q ↔ Q none S := R_some
theorem wp_oSome {Q : Option Int → Sto → Prop} : R (oSome f env S) Q ↔ R (f env S) fun d S1 => WI d fun i => Q (some i) S1 := by
  unfold oSome
  simp only [R_bind]
  refine ⟨fun ⟨d, S1, e, q⟩ => ⟨d, S1, e, ?_⟩, fun ⟨d, S1, e, q⟩ => ⟨d, S1, e, ?_⟩⟩
  · cases d <;> first | exact (R_none.mp q).elim | exact R_some.mp q
  · cases d <;> first | exact q.elim | exact R_some.mpr q
theorem wp_slC {ns : List Int} {lo hi : Option Int} : R (gSl (.scr ns) lo hi S) P ↔ P (.lst ((cutD ns lo hi).map .int)) S := R_some
theorem wp_slL {ds : List D} {lo hi : Option Int} : R (gSl (.lst ds) lo hi S) P ↔ P (.lst (cutD ds lo hi)) S := R_some
theorem wp_slS {x : Str} {lo hi : Option Int} : R (gSl (.str x) lo hi S) P ↔ x.length ≤ 16777216 ∧ P (.str (cutS x lo hi)) S := R_cond
theorem map_inj_nat : ∀ {a b : List Char}, a.map Char.toNat = b.map Char.toNat → a = b
  | [], [], _ => rfl
  | [], _ :: _, h => by cases h
  | _ :: _, [], h => by cases h
  | x :: a, y :: b, h => by
    simp only [List.map_cons, List.cons.injEq] at h
    rw [map_inj_nat h.2, Char.ext (UInt32.toNat_inj.mp h.1)]
theorem str_eq {a b : String} : (Str.ofString a = Str.ofString b) ↔ a = b := by
  refine ⟨fun h => ?_, fun h => by rw [h]⟩
  rw [Str.ofString_eq_toList, Str.ofString_eq_toList] at h
  have h1 : (a.toList.map Char.toNat).toArray.toList = (b.toList.map Char.toNat).toArray.toList := congrArg (fun z : Str => z.cps.toList) h
  exact String.toList_inj.mp (map_inj_nat h1)
theorem in_ring_crowd : R (gInB false (.str "ring") (.str "crowd") S) P ↔ P (.bl false) S := by
  rw [wp_inS, show (Builtin.Str.occurrences ("crowd" : Str) "ring" 0 ("crowd" : Str).length 1).isEmpty = true by decide +kernel]
  exact Iff.rfl
theorem in_ring_star : R (gInB false (.str "ring") (.str "star") S) P ↔ P (.bl false) S := by
  rw [wp_inS, show (Builtin.Str.occurrences ("star" : Str) "ring" 0 ("star" : Str).length 1).isEmpty = true by decide +kernel]
  exact Iff.rfl
theorem in_ring_pairs : R (gInB false (.str "ring") (.str "pairs") S) P ↔ P (.bl false) S := by
  rw [wp_inS, show (Builtin.Str.occurrences ("pairs" : Str) "ring" 0 ("pairs" : Str).length 1).isEmpty = true by decide +kernel]
  exact Iff.rfl
theorem in_ring_row : R (gInB false (.str "ring") (.str "row") S) P ↔ P (.bl false) S := by
  rw [wp_inS, show (Builtin.Str.occurrences ("row" : Str) "ring" 0 ("row" : Str).length 1).isEmpty = true by decide +kernel]
  exact Iff.rfl
theorem in_ring_ring : R (gInB false (.str "ring") (.str "ring") S) P ↔ P (.bl true) S := by
  rw [wp_inS, show (Builtin.Str.occurrences ("ring" : Str) "ring" 0 ("ring" : Str).length 1).isEmpty = false by decide +kernel]
  exact Iff.rfl
theorem in_ring_core : R (gInB false (.str "ring") (.str "core") S) P ↔ P (.bl false) S := by
  rw [wp_inS, show (Builtin.Str.occurrences ("core" : Str) "ring" 0 ("core" : Str).length 1).isEmpty = true by decide +kernel]
  exact Iff.rfl
theorem in_ring_linked : R (gInB false (.str "ring") (.str "linked") S) P ↔ P (.bl false) S := by
  rw [wp_inS, show (Builtin.Str.occurrences ("linked" : Str) "ring" 0 ("linked" : Str).length 1).isEmpty = true by decide +kernel]
  exact Iff.rfl
theorem in_ring_odd_ring : R (gInB false (.str "ring") (.str "odd ring") S) P ↔ P (.bl true) S := by
  rw [wp_inS, show (Builtin.Str.occurrences ("odd ring" : Str) "ring" 0 ("odd ring" : Str).length 1).isEmpty = false by decide +kernel]
  exact Iff.rfl
theorem in_ring_even_ring : R (gInB false (.str "ring") (.str "even ring") S) P ↔ P (.bl true) S := by
  rw [wp_inS, show (Builtin.Str.occurrences ("even ring" : Str) "ring" 0 ("even ring" : Str).length 1).isEmpty = false by decide +kernel]
  exact Iff.rfl
end
end DL

namespace DL
open PySem PySem.Spec PyProof.Rows L2
/-! ## calls by name -/
section
variable {K : PySem.W.Frag} {ct : CT} {m : List Addr} {F : Hp}
theorem Reps.kwG {idx : List Nat} {ds es : List D} {vs us : List V} (h : Reps K ct m F ds vs) (g : Reps K ct m F es us) : Reps K ct m F (kwG idx ds es) (kwG idx vs us) := by
  refine h.append ?_
  induction idx with
  | nil => exact rfl
  | cons i r ih =>
    by_cases hi : i < es.length
    · obtain ⟨v, h1, h2⟩ := g.get (List.getElem?_eq_getElem hi)
      rw [List.filterMap_cons_some (b := es[i]) (List.getElem?_eq_getElem hi), List.filterMap_cons_some h1]
      exact ⟨_, _, rfl, h2, ih⟩
    · rw [List.filterMap_cons_none (List.getElem?_eq_none (by omega)), List.filterMap_cons_none (List.getElem?_eq_none (by rw [← g.length]; omega))]
      exact ih
theorem kwG_vals {idx : List Nat} {vs zs : List V} {us ws : List Value} (h : Vals vs us) (g : Vals zs ws) : Vals (kwG idx vs zs) (kwG idx us ws) := by
  refine h.append ?_
  induction idx with
  | nil => exact .nil
  | cons i r ih =>
    have key : ∀ {zs : List V} {ws : List Value} {i : Nat}, Vals zs ws → (∃ z w, zs[i]? = some z ∧ ws[i]? = some w ∧ RelV z w) ∨ (zs[i]? = none ∧ ws[i]? = none) := by
      intro zs ws i g
      induction g generalizing i with
      | nil => exact .inr ⟨rfl, rfl⟩
      | cons a _ ih =>
        cases i with
        | zero => exact .inl ⟨_, _, rfl, rfl, a⟩
        | succ i => simpa using ih (i := i)
    rcases key (i := i) g with ⟨z, w, h1, h2, h3⟩ | ⟨h1, h2⟩
    · rw [List.filterMap_cons_some h1, List.filterMap_cons_some h2]
      exact .cons h3 ih
    · rw [List.filterMap_cons_none h1, List.filterMap_cons_none h2]
      exact ih
end
section
variable {ct : CT} {X : Cx} {C : Addr} {c x : Str} {e o : Expr} {fe fo : FE} {fas : FA} {kws : List Keyword} {pos apos p : Pos} {k n : Nat} {g : FD} {kwb : KWB} {ks : List Str} {idx : List Nat}
def SK (ct : CT) (X : Cx) (kws : List Keyword) (f : FA) : Prop := ∃ t, PK X kws t ∧ ∀ m F S σ H env ds S' Q, Sim X.K ct m F S H → EnvR X.K ct m F env σ → f env S = some (ds, S') → PostA ct X.K m F H S' ds Q → t σ H Q
theorem sk_nil : SK ct X [] fNil := ⟨_, pk_nil, fun m F S σ H env d S' Q s en h p => by
  cases h
  exact p m F [] H (Ext.refl _ _ _) s rfl⟩
theorem sk_cons {nm : Option Str} {kpos : Pos} (ha : SE ct X e fe) (hr : SK ct X kws fas) : SK ct X (⟨nm, e, kpos⟩ :: kws) (fCons fe fas) := by
  obtain ⟨ta, pa, ra⟩ := ha
  obtain ⟨tb, pb, rb⟩ := hr
  refine ⟨_, pk_cons pa pb, fun m F S σ H env d S' Q s en h p => ?_⟩
  obtain ⟨⟨y, S1⟩, h1, h⟩ := bind_some h
  obtain ⟨⟨ys, S2⟩, h2, h⟩ := bind_some h
  cases h
  refine ra m F S σ H env y S1 _ s en h1 fun m1 F1 v1 H1 x1 s1 r1 => ?_
  refine rb m1 F1 S1 σ H1 env ys S2 _ s1 (en.mono x1) h2 fun m2 F2 v2 H2 x2 s2 r2 => ?_
  exact p m2 F2 (v1 :: v2) H2 (x1.trans x2) s2 ⟨v1, v2, rfl, r1.mono x2, r2⟩
def fMethK (c x : Str) (g : FD) (idx : List Nat) (fo : FE) (fks : FA) : FE := fun env S => (fo env S).bind fun p => (insOf c p.1 p.2).bind fun q => if hasF q.1 x = false then (fks env p.2).bind fun r => g (kwG idx [p.1] r.1) r.2 else none
theorem se_methK {pl : Sem Bool} (kc : Klass X.K ct c C) (M : CalleeM X.prog X.w X.K X.mg X.base ct k C x n g kwb) (hmem : (ks, idx) ∈ kwb) (hr : RoomG k X.A) (ho : SE ct X o fo) (ha : SK ct X kws fas) (hn : ∀ env S ds S', fas env S = some (ds, S') → ds.length = ks.length)
    (hlen : ∀ (v : V) (zs : List V), zs.length = ks.length → (kwG idx [v] zs).length = n) (hall : (backToKw pos (keywordEach kws X.env)).all (·.1.isSome) = true := by rfl) (hks : (backToKw pos (keywordEach kws X.env)).filterMap (·.1) = ks := by rfl)
    (hpl : ((backTo pos (starEach [] X.env)).any (·.1) || (backToKw pos (keywordEach kws X.env)).any (·.1.isNone)) = false := by rfl)
    (ht : eval (.Call (.Attribute o x apos) [] kws pos) X.env = (eval o X.env >>= fun ov => standAt apos.atName >>= fun _ => holding [ov] (getMethod ov x pl) >>= fun q =>
      callWith pos q.1 q.2 (backTo pos (starEach [] X.env)) (backToKw pos (keywordEach kws X.env))) := by rfl) : SE ct X (.Call (.Attribute o x apos) [] kws pos) (fMethK c x g idx fo fas) := by
  obtain ⟨f, fd, ps, me, bi, fn⟩ := M
  obtain ⟨ta, pa, ra⟩ := ho
  obtain ⟨tb, pb, rb⟩ := ha
  refine ⟨_, pe_methGK (E := fun _ _ _ => False) pa kc.cls me fn hr (bi.2 _ hmem) pb hall hks hpl ht, fun m F S σ H env d S' Q s en h p => ?_⟩
  obtain ⟨⟨z, S1⟩, h1, h⟩ := bind_some h
  obtain ⟨⟨fs, ds⟩, h2, h⟩ := bind_some h
  dsimp only at h
  split at h
  · rename_i hh
    obtain ⟨⟨xs, S2⟩, h3, h⟩ := bind_some h
    refine ra m F S σ H env z S1 _ s en h1 fun m1 F1 v1 H1 x1 s1 r1 => ?_
    obtain ⟨a, dx, vs, e1, e2, e3, e4⟩ := insOf_rep kc s1 r1 h2
    refine ⟨a, dx, _, e1, e2, hasF_none hh, ?_⟩
    refine rb m1 F1 S1 σ H1 env xs S2 _ s1 (en.mono x1) h3 fun m2 F2 us H2 x2 s2 r2 => ?_
    have hl : us.length = ks.length := by rw [← r2.length, hn _ _ _ _ h3]
    exact ⟨hl, hlen v1 us hl, m2, F2, S2, kwG idx [z] xs, d, S', s2, Reps.kwG (Reps.mk1 (r1.mono x2)) r2, h, p.ext (x1.trans x2)⟩
  · cases h
def fCallK (g : FD) (idx : List Nat) (fks : FA) : FE := fun env S => (fks env S).bind fun r => g (kwG idx [] r.1) r.2
theorem se_fnK (M : Callee X.prog X.w X.K X.mg X.base ct k x n g kwb) (hmem : (ks, idx) ∈ kwb) (hr : RoomG k X.A) (hg : Gl X x) (ha : SK ct X kws fas) (hn : ∀ env S ds S', fas env S = some (ds, S') → ds.length = ks.length)
    (hlen : ∀ zs : List V, zs.length = ks.length → (kwG idx [] zs).length = n) (hall : (backToKw pos (keywordEach kws X.env)).all (·.1.isSome) = true := by rfl) (hks : (backToKw pos (keywordEach kws X.env)).filterMap (·.1) = ks := by rfl) (hdb : (x == ("__debug__" : Str)) = false := by decide)
    (hpl : ((backTo pos (starEach [] X.env)).any (·.1) || (backToKw pos (keywordEach kws X.env)).any (·.1.isNone)) = false := by rfl) : SE ct X (.Call (.Name x p) [] kws pos) (fCallK g idx fas) := by
  obtain ⟨f, fd, ps, h1, h2, bi, fn⟩ := M
  obtain ⟨tb, pb, rb⟩ := ha
  refine ⟨_, pe_callGK (E := fun _ _ _ => False) fn hr hg h1 h2 (bi.2 _ hmem) pb hall hks hdb hpl, fun m F S σ H env d S' Q s en h p => ?_⟩
  obtain ⟨⟨xs, S2⟩, h3, h⟩ := bind_some h
  refine rb m F S σ H env xs S2 _ s en h3 fun m2 F2 us H2 x2 s2 r2 => ?_
  have hl : us.length = ks.length := by rw [← r2.length, hn _ _ _ _ h3]
  exact ⟨hl, hlen us hl, m2, F2, S2, kwG idx [] xs, d, S', s2, Reps.kwG rfl r2, h, p.ext x2⟩
/-! ## repr of data -/
def rRepr (K : PySem.W.Frag) : List V → Hp → VK → Prop := fun xs H Q => ∃ v p, xs = [v] ∧ Dp K H v p ∧ (p.showable = true ∧ p.hasDict = false ∧ p.depth ≤ 50 ∧ p.shown.length ≤ sizeLine) ∧ Q (.str p.shown) H
theorem call_reprG (hr : RoomG k X.A) : CallR X (.builtin "repr") (rRepr X.K) := by
  intro pins s σ H xs us Q I r h
  obtain ⟨v, pd, rfl, hd, ⟨h1, h2, h3, h4⟩, q⟩ := h
  obtain ⟨u, rfl, ru⟩ := vals1 r
  obtain ⟨as, rd⟩ := Dp.reads I pd v u hd ru
  have hu : X.A.units + (pd.depth + 1) < cLine := by
    have := hr.units
    omega
  have main : ∀ a, u = .ref a → wpAny (model X.prog X.w) X.A (call (.builtin "repr") [u]) (EP X pins σ Q) X.xe s := by
    rintro a rfl
    exact repr_of_reads' (h₀ := s.heap) rd h1 (PyData.noDict_hsm h2) hr.gd hu (fun _ _ e => e) (fun h' w tk hk => ⟨.str _, H, I.kept hk, ⟨_, rfl⟩, q⟩) h4
  cases hd with
  | non => obtain rfl : u = .none := ru; exact PySem.P.repr_of_none ⟨.str _, H, I.tok _, ⟨_, rfl⟩, q⟩
  | bl b => obtain rfl : u = .bool b := ru; exact PySem.P.repr_of_bool ⟨.str _, H, I.tok _, ⟨_, rfl⟩, q⟩
  | int i => obtain ⟨t, rfl⟩ := ru; exact PySem.P.repr_of_int (of_decide_eq_true h1) ⟨.str _, H, I.tok _, ⟨_, rfl⟩, q⟩
  | str y => obtain ⟨t, rfl⟩ := ru; exact PySem.P.repr_of_str ⟨.str _, H, I.tok _, ⟨_, rfl⟩, q⟩ h4
  | tup _ _ => exact main _ ru
  | lst _ _ => exact main _ ru
def cRepr : FD
  | [d], S => (toP d).bind fun p => if p.showable = true ∧ p.hasDict = false ∧ p.depth ≤ 50 ∧ p.shown.length ≤ 16777216 then some (.str p.shown, S) else none
  | _, _ => none
theorem cd_repr {K : PySem.W.Frag} : CallD ct K (rRepr K) cRepr := by
  intro m F S H xs ds d S' Q s r h p
  unfold cRepr at h
  split at h
  · rename_i d0
    obtain ⟨pd, h1, h⟩ := bind_some h
    split at h
    · rename_i hc
      cases h
      obtain ⟨v, e1, e2⟩ := reps1 r
      exact ⟨v, pd, e1, Rep.dp s.same d0 v pd e2 h1, ⟨hc.1, hc.2.1, hc.2.2.1, by rw [line_eq]; exact hc.2.2.2⟩, p.now s rfl⟩
    · cases h
  · cases h
/-! steps -/
variable {env : DEnv} {S : Sto} {P : D → Sto → Prop}
theorem wp_MethK {fks : FA} : R (fMethK c x g idx fo fks env S) P ↔ R (fo env S) fun d S1 => (∃ q, insOf c d S1 = some q ∧ hasF q.1 x = false) ∧ R (fks env S1) fun ds S2 => R (g (kwG idx [d] ds) S2) P := by
  unfold fMethK
  simp only [R_bind]
  refine ⟨fun ⟨d, S1, e, q⟩ => ⟨d, S1, e, ?_⟩, fun ⟨d, S1, e, q⟩ => ⟨d, S1, e, ?_⟩⟩
  · obtain ⟨a, S3, e3, p⟩ := q
    obtain ⟨q1, h1, h2⟩ := bind_some e3
    split at h2
    · rename_i hh
      obtain ⟨⟨ds, S4⟩, h3, h4⟩ := bind_some h2
      exact ⟨⟨q1, h1, hh⟩, ds, S4, h3, a, S3, h4, p⟩
    · cases h2
  · obtain ⟨⟨q1, h1, hh⟩, ds, S4, h3, a, S3, h4, p⟩ := q
    refine ⟨a, S3, ?_, p⟩
    rw [h1]
    show (if hasF q1.1 x = false then _ else _) = _
    rw [if_pos hh, h3]
    exact h4
theorem wp_CallK {fks : FA} : R (fCallK g idx fks env S) P ↔ R (fks env S) fun ds S1 => R (g (kwG idx [] ds) S1) P := by unfold fCallK; simp only [R_bind]
theorem kwG_def {α : Type} {vs zs : List α} : kwG idx vs zs = vs ++ idx.filterMap fun i => zs[i]? := rfl
theorem wp_Repr {d : D} : R (cRepr [d] S) P ↔ ∃ p, toP d = some p ∧ (p.showable = true ∧ p.hasDict = false ∧ p.depth ≤ 50 ∧ p.shown.length ≤ 16777216) ∧ P (.str p.shown) S := by
  show R ((toP d).bind _) P ↔ _
  refine ⟨fun ⟨a, S3, e3, p⟩ => ?_, fun ⟨p, e, h, q⟩ => ?_⟩
  · obtain ⟨pd, h1, h2⟩ := bind_some e3
    split at h2
    · rename_i hc
      cases h2
      exact ⟨pd, h1, hc, p⟩
    · cases h2
  · rw [e]
    exact R_cond.mpr ⟨h, q⟩
end
end DL

namespace DL
open PySem PySem.Spec PyProof.Rows L2
section
variable {ct : CT} {X : Cx} {a b e : Expr} {fa fb f : FE} {fas : FA} {env : DEnv} {S : Sto} {P : D → Sto → Prop}
/-! ## a display of a dict that stays as it is; d[k] -/
def fDispF (ks : List Str) (fas : FA) : FE := fun env S => (fas env S).bind fun p => if ks.length ≤ 15 ∧ ks.Nodup ∧ p.1.length = ks.length then some (.dct (ks.map Sum.inr) p.1, p.2) else none
theorem se_dispF {pos : Pos} {keys : List (Option Expr)} {values : List Expr} {ks : List Str} (h : SDs ct X pos keys values ks fas) (hall : keys.all (·.isSome) = true) (hl : keys.length = values.length) (h0 : keys ≠ []) (h16 : keys.length ≤ 15 := by decide) : SE ct X (.Dict keys values pos) (fDispF ks fas) := by
  obtain ⟨trs, pp, rp⟩ := h
  refine ⟨_, pe_disp pp hall hl h0 h16, fun m F S σ H env d S' Q s en h p => ?_⟩
  obtain ⟨⟨xs, S1⟩, h1, h⟩ := bind_some h
  split at h
  case isFalse => cases h
  rename_i hk
  cases h
  intro q hq
  have nq : q ∉ m := fun hm => by
    obtain ⟨o, z⟩ := s.there hm
    rw [hq] at z; cases z
  have fq : F q = none := by
    cases z : F q with
    | none => rfl
    | some o => rw [s.same _ _ z] at hq; cases hq
  refine rp m F S σ (upd H q (.dK [])) env xs S1 _ (s.hidden nq fq _) en h1 fun m1 F1 vs H1 x1 s1 r1 hlen => ?_
  obtain ⟨hH, nq1, fq1⟩ := x1.hid upd_same nq fq
  have x0 : Ext m F H m1 F1 H1 := ((Ext.refl m F H).put hq (.dK [])).trans x1
  refine ⟨hH, (ks.map Sum.inr).zip vs, ?_, by simp [← r1.length, hlen, hk.1], ?_⟩
  · exact zip_kV ks vs
  · have hn : (((ks.map Sum.inr : List Key).zip vs).map (·.1)).Nodup := by
      rw [List.map_fst_zip (by simp [← r1.length, hlen])]
      exact nodup_inr hk.2.1
    rw [merge_nodup _ [] hn (fun _ _ => rfl), List.nil_append]
    exact p m1 (upd F1 q (.dK ((ks.map Sum.inr).zip vs))) (.ref q) _ ((x0.put hq _).freeze hq fq1 _) ((s1.hidden nq1 fq1 _).freeze nq1 fq1 upd_same)
      ⟨q, vs, rfl, upd_same, by rw [List.length_map, ← r1.length]; exact hk.2.2.symm, Reps.mono' (fun _ _ z => z) (same_upd fq1 _) _ _ r1⟩
def fDIx (fa fb : FE) : FE := fun env S => (fa env S).bind fun p => (fb env p.2).bind fun q => (kvsOf p.1 q.2).bind fun kvs => (toKey q.1).bind fun key => (valA kvs key).map fun d => (d, q.2)
theorem se_dix {pos : Pos} {n : Nat} (hr : RoomG n X.A) (ha : SE ct X a fa) (hb : SE ct X b fb) (hs : NoSl b) : SE ct X (.Subscript a b pos) (fDIx fa fb) := by
  obtain ⟨ta, pa, ra⟩ := ha
  obtain ⟨tb, pb, rb⟩ := hb
  refine ⟨_, pe_dget (hu_of hr.room) pa pb hs, fun m F S σ H env d S' Q s en h p => ?_⟩
  obtain ⟨⟨z, S1⟩, h1, h⟩ := bind_some h
  obtain ⟨⟨y, S2⟩, h2, h⟩ := bind_some h
  obtain ⟨kvs, h4, h⟩ := bind_some h
  obtain ⟨key, h5, h⟩ := bind_some h
  obtain ⟨dv, hv, h6⟩ := map_some h
  cases h6
  refine ra m F S σ H env z S1 _ s en h1 fun m1 F1 v1 H1 x1 s1 r1 => ?_
  refine rb m1 F1 S1 σ H1 env y S2 _ s1 (en.mono x1) h2 fun m2 F2 v2 H2 x2 s2 r2 => ?_
  obtain ⟨w, us, e1, e2, pr⟩ := kvs_at s2 (r1.mono x2) h4
  have ek := r2.key h5
  subst ek
  obtain ⟨v, q1, q2⟩ := (PR.val pr key).1 _ hv
  have g := DGet.k (k := key) e2
  rw [q1] at g
  exact ⟨w, v, e1, g, ((p.ext x1).ext x2).now s2 q2⟩
theorem wp_DispF {ks : List Str} : R (fDispF ks fas env S) P ↔ R (fas env S) fun ds S1 => (ks.length ≤ 15 ∧ ks.Nodup ∧ ds.length = ks.length) ∧ P (.dct (ks.map Sum.inr) ds) S1 := by unfold fDispF; simp only [R_bind, R_cond]
theorem wp_DIx : R (fDIx fa fb env S) P ↔ R (fa env S) fun x S1 => R (fb env S1) fun y S2 => ∃ kvs, kvsOf x S2 = some kvs ∧ ∃ key, toKey y = some key ∧ ∃ d, valA kvs key = some d ∧ P d S2 := by
  unfold fDIx
  simp only [R_bind]
  refine ⟨fun ⟨x, S1, e, y, S2, e2, q⟩ => ⟨x, S1, e, y, S2, e2, ?_⟩, fun ⟨x, S1, e, y, S2, e2, q⟩ => ⟨x, S1, e, y, S2, e2, ?_⟩⟩
  · obtain ⟨d, S3, e3, p⟩ := q
    obtain ⟨kvs, h1, h⟩ := bind_some e3
    obtain ⟨key, h2, h⟩ := bind_some h
    obtain ⟨dv, h3, h4⟩ := map_some h
    cases h4
    exact ⟨kvs, h1, key, h2, _, h3, p⟩
  · obtain ⟨kvs, h1, key, h2, d, h3, p⟩ := q
    exact ⟨d, S2, by rw [h1]; show ((toKey y).bind _) = _; rw [h2]; show ((valA kvs key).map _) = _; rw [h3]; rfl, p⟩
end
end DL

namespace DL
open PySem PySem.Spec PyProof.Rows L2
/-! ## what was made within a def is dropped at its end; a list that it returns stays as it is -/
def frzD (g : FD) : FD := fun ds S => (g ds S).bind fun p => if S.length ≤ p.2.length ∧ (p.2.take S.length).all cellFree = true then (match p.1 with
  | .ref k => if S.length ≤ k then (match p.2[k]? with
    | some (.lst es) => if noRefs es = true then some (.lst es, p.2.take S.length) else none
    | _ => none) else none
  | d => if noRef d = true then some (d, p.2.take S.length) else none) else none
theorem frz_told {g : FD} : ∀ ds S r', frzD g ds S = some r' → ∃ r, g ds S = some r ∧ Told S r r' := by
  intro ds S r' h
  obtain ⟨⟨d, S1⟩, h1, h⟩ := bind_some h
  dsimp only at h
  split at h
  case isFalse => cases h
  rename_i hc
  refine ⟨_, h1, ?_⟩
  have hl : (S1.take S.length).length = S.length := by rw [List.length_take]; omega
  have ho : Old S (S1.take S.length) := ⟨hl, fun i c hi => .inr (List.all_eq_true.mp hc.2 c (List.mem_of_getElem? hi))⟩
  have e : S1 = S1.take S.length ++ S1.drop S.length := (List.take_append_drop _ _).symm
  split at h
  · rename_i k
    split at h
    case isFalse => cases h
    rename_i hk
    split at h
    · rename_i es hes
      split at h
      case isFalse => cases h
      rename_i hn
      cases h
      have t := Told.frzL (S := S) (S1 := S1.take S.length) (more := S1.drop S.length) (i := k - S.length) hn ho (by rw [List.getElem?_drop, show S.length + (k - S.length) = k by omega]; exact hes)
      rw [hl, show S.length + (k - S.length) = k by omega, ← e] at t
      exact t
    · cases h
  · split at h
    case isFalse => cases h
    rename_i hn
    cases h
    have t := Told.drop (S := S) (S1 := S1.take S.length) (more := S1.drop S.length) hn ho
    rw [← e] at t
    exact t
section
variable {g : FD} {ds : List D} {S : Sto} {P : D → Sto → Prop}
theorem wp_frzL (h : R (g ds S) fun d S' => S.length ≤ S'.length ∧ (∀ c ∈ S'.take S.length, cellFree c = true) ∧ ∃ k es, d = .ref k ∧ S.length ≤ k ∧ S'[k]? = some (.lst es) ∧ noRefs es = true ∧ P (.lst es) (S'.take S.length)) : R (frzD g ds S) P := by
  obtain ⟨d, S', e, h1, h2, k, es, rfl, h3, h4, h5, h6⟩ := h
  refine ⟨.lst es, S'.take S.length, ?_, h6⟩
  unfold frzD
  rw [e]
  show (if S.length ≤ S'.length ∧ (S'.take S.length).all cellFree = true then _ else none) = _
  rw [if_pos ⟨h1, List.all_eq_true.mpr h2⟩]
  show (if S.length ≤ k then _ else none) = _
  rw [if_pos h3, h4]
  show (if noRefs es = true then _ else none) = _
  rw [if_pos h5]
theorem wp_frzV (h : R (g ds S) fun d S' => S.length ≤ S'.length ∧ (∀ c ∈ S'.take S.length, cellFree c = true) ∧ noRef d = true ∧ P d (S'.take S.length)) : R (frzD g ds S) P := by
  obtain ⟨d, S', e, h1, h2, h5, h6⟩ := h
  refine ⟨d, S'.take S.length, ?_, h6⟩
  unfold frzD
  rw [e]
  show (if S.length ≤ S'.length ∧ (S'.take S.length).all cellFree = true then _ else none) = _
  rw [if_pos ⟨h1, List.all_eq_true.mpr h2⟩]
  cases d <;> first | (cases h5; done) | (show (if noRef _ = true then _ else none) = _; rw [if_pos h5])
end
/-! ## a list, so many times -/
def gRep : D → D → Sto → Option (D × Sto)
  | .lst ds, .int k, S => if 0 ≤ k ∧ k ≤ 1000 ∧ ds.length ≤ 1000 then some (.lst (List.replicate k.toNat ds).flatten, S) else none
  | _, _, _ => none
theorem reps_rep {K : PySem.W.Frag} {ct : CT} {m : List Addr} {F : Hp} {ds : List D} {vs : List V} (r : Reps K ct m F ds vs) (n : Nat) : Reps K ct m F (List.replicate n ds).flatten (List.replicate n vs).flatten := by
  induction n with
  | zero => exact rfl
  | succ n ih =>
    rw [List.replicate_succ, List.replicate_succ, List.flatten_cons, List.flatten_cons]
    exact r.append ih
theorem od_rep {ct : CT} {K : PySem.W.Frag} : OpD ct K rRep gRep := by
  intro m F S H x y dx dy d S' Q s rx ry h p
  unfold gRep at h
  split at h
  · rename_i es k
    split at h
    · rename_i hc
      cases h
      obtain ⟨a, vs, e1, e2, e3⟩ := rx
      refine ⟨a, k, vs, e1, ry, s.same _ _ e2, by omega, by omega, ?_, fun q hq => ?_⟩
      · rw [line_eq, ← e3.length]
        have h1 : k.toNat ≤ 1000 := by omega
        exact Nat.le_trans (Nat.mul_le_mul hc.2.2 h1) (by decide)
      · obtain ⟨s2, x2⟩ := s.frozen hq (.lst (List.replicate k.toNat vs).flatten)
        exact p m _ (.ref q) _ x2 s2 ⟨q, _, rfl, upd_same, (reps_rep e3 _).mono x2⟩
    · cases h
  · cases h
theorem wp_rep {ds : List D} {k : Int} {S : Sto} {P : D → Sto → Prop} : R (gRep (.lst ds) (.int k) S) P ↔ (0 ≤ k ∧ k ≤ 1000 ∧ ds.length ≤ 1000) ∧ P (.lst (List.replicate k.toNat ds).flatten) S := R_cond
/-! ## xs.append(e) of a cell -/
theorem wp_App {fo fe : FE} {env : DEnv} {S : Sto} {P : D → Sto → Prop} {k : Nat} {ds : List D} {v : D} {S1 : Sto} {es : List D} (h0 : fo env S = some (.ref k, S)) (h1 : S[k]? = some (.lst ds)) (h2 : fe env S = some (v, S1)) (h3 : S1[k]? = some (.lst es)) (h4 : es.length ≤ 1000000) : R (fAppend fo fe env S) P ↔ P .non (S1.set k (.lst (es ++ [v]))) := by
  unfold fAppend
  rw [h0]
  show R (match S[k]? with | some (.lst _) => _ | _ => none) P ↔ _
  rw [h1]
  show R ((fe env S).bind _) P ↔ _
  rw [h2]
  show R (match S1[k]? with | some (.lst ds) => _ | _ => none) P ↔ _
  rw [h3]
  show R (if es.length ≤ 1000000 then _ else none) P ↔ _
  rw [if_pos h4]
  exact R_some
end DL

namespace DL
open PySem PySem.Spec PyProof.Rows L2
/-! ## properties of own classes -/
section
variable {X : Cx} {k : Nat} {C p g a dx : Addr} {fs : List (Str × V)} {f : Str} {fd : FuncData} {ps : List Str} {sp : Sp} {E : XK} {e : Expr} {pos : Pos} {ta : TE}
theorem prop_run {pins : List (Addr × Obj)} {σ : L2.St} {H : Hp} {s : Shared} {Q : VK} {b : Bool} {E' : Value → Shared → Prop} (I : Inv X pins σ H s) (ea : H a = some (.ins C dx fs)) (c : Cls X.K C) (hp : PropOf X.K C f p g)
    (F : FnG X.prog X.w X.K X.mg X.base k g fd ps sp) (hr : RoomG (k + 1) X.A) (hb : Binds X.K fd ps []) (h : sp [.ref a] H Q E) : wpAny (model X.prog X.w) X.A (getAttr (.ref a) f b) (EP X pins σ Q) E' s := by
  obtain ⟨mA, O, _⟩ := ins_get I.hok ea
  obtain ⟨od, J, _⟩ := O.look
  obtain ⟨rest, hrec⟩ := hp.rec_
  have J1 := I.tok (s.toks + 1)
  have hl := F.len _ _ _ _ h
  have some_ : (PySem.W.clsIn X.K C).isSome = true := by
    obtain ⟨cd, q, _⟩ := PySem.W.any_some c.hd
    rw [q]; rfl
  have plain := PySem.W.plainGet_of (c.get f)
  refine PySem.W.get_bind I.kIn J plain.1 (PySem.W.findObj_data some_ hp.at_ hp.get hp.tak) plain.2 (wpAny_call (PySem.W.prop_get (s := { s with toks := s.toks + 1 }) I.kIn hrec (codeAny_mono
    (F.run X.A.in1 X.stack { s with toks := s.toks + 1 } H ⟨[.ref a], []⟩ [.ref a] [.ref a] Q E hr.in1 J1.env0.in1 (hb _ [.ref a] J1.kIn hl) (.cons rfl .nil) h) fun r s' q => ?_)))
  obtain ⟨u, rfl, v, H', I3, rv, z⟩ := behind J1 q
  show wpAny _ _ (handedOut u) _ _ _
  rw [PySem.W.handedOut_of (handed_of rv)]
  exact wpAny_pure ⟨v, H', I3, rv, z⟩
theorem pe_propG (he : PE X e ta) (c : Cls X.K C) (hp : PropOf X.K C f p g) (F : FnG X.prog X.w X.K X.mg X.base k g fd ps sp) (hr : RoomG (k + 1) X.A) (hb : Binds X.K fd ps []) (hab : attributeBase e f X.env (eval e X.env) = eval e X.env) : PE X (.Attribute e f pos) (tProp C sp [] E ta) := by
  refine ⟨fun pins s σ H Q I h => attr_of hab (thn (he.run pins s σ H _ I h) fun u s1 ⟨y, H1, I1, ry, a, dx, fs, ex, ea, q⟩ => ?_)⟩
  subst ex
  have ry : u = Value.ref a := ry
  subst ry
  exact prop_run I1 ea c hp F hr hb q
end
def CalleeP (P : Program) (w : World) (K : PySem.W.Frag) (mg : Str → Option Value) (base : Heap) (ct : CT) (k : Nat) (C : Addr) (x : Str) (gd : FD) : Prop :=
  ∃ (j : Nat) (p g : Addr) (fd : FuncData) (ps : List Str), j + 1 ≤ k ∧ PropOf K C x p g ∧ Binds K fd ps [] ∧ FnG P w K mg base j g fd ps (spD K ct 1 gd)
def PropAt (K : PySem.W.Frag) (C : Addr) (x qual : Str) (st : Stmt) (ps : List Str) : Prop := ∃ (p g : Addr) (fd : FuncData), Fun K x qual st g fd ∧ PropOf K C x p g ∧ Binds K fd ps []
theorem CalleeP.mono {P : Program} {w : World} {K : PySem.W.Frag} {mg : Str → Option Value} {base : Heap} {ct : CT} {j k : Nat} {C : Addr} {x : Str} {gd : FD} (c : CalleeP P w K mg base ct j C x gd) (h : j ≤ k) : CalleeP P w K mg base ct k C x gd := by
  obtain ⟨i, p, g, fd, ps, h1, h2⟩ := c
  exact ⟨i, p, g, fd, ps, by omega, h2⟩
theorem calleeP_of {P : Program} {w : World} {K : PySem.W.Frag} {mg : Str → Option Value} {base : Heap} {ct : CT} {C : Addr} {x qual : Str} {st : Stmt} {N ps : List Str} {k : Nat} {g : FS} (d : PropAt K C x qual st ps) (S : FnScope N ps (defScope st)) (hps : ps.length = 1)
    (hbody : ∀ (f : Addr) (cdv : Value) (A : Around) (outer : List Env) (s : Shared) (H : Hp) (E : XK), RoomG k (A.deeper (envOfC qual (defScope st) s.heap.objs.size f cdv)) →
      SSs ct (cxOf CX0 P w K mg base N qual (defScope st) f cdv A outer s H E).nox (defBody st) g) : CalleeP P w K mg base ct (k + 2) C x (runD N.length g) := by
  obtain ⟨p, f, fd, F, h1, h3⟩ := d
  have := def_ok F S (hbody f)
  rw [hps] at this
  exact ⟨k + 1, p, f, fd, ps, Nat.le_refl _, h1, h3, this⟩
section
variable {ct : CT} {X : Cx} {C : Addr} {c x : Str} {a b e o k : Expr} {fe fo fa fb fk : FE} {fas : FA} {pos apos cpos : Pos} {n : Nat} {g : FD} {env : DEnv} {S : Sto} {P : D → Sto → Prop}
def fProp (c : Str) (g : FD) (fe : FE) : FE := fun env S => (fe env S).bind fun p => (insOf c p.1 p.2).bind fun _ => g [p.1] p.2
theorem se_prop (kc : Klass X.K ct c C) (M : CalleeP X.prog X.w X.K X.mg X.base ct n C x g) (hr : RoomG n X.A) (he : SE ct X e fe) (hb : attributeBase e x X.env (eval e X.env) = eval e X.env := by rfl) : SE ct X (.Attribute e x pos) (fProp c g fe) := by
  obtain ⟨j, p0, g0, fd, ps, hj, h1, h2, h3⟩ := M
  obtain ⟨ta, pa, ra⟩ := he
  refine ⟨_, pe_propG (E := fun _ _ _ => False) pa kc.cls h1 h3 (hr.mono hj) h2 hb, fun m F S σ H env d S' Q s en h p => ?_⟩
  obtain ⟨⟨z, S1⟩, q1, h⟩ := bind_some h
  obtain ⟨⟨fs, ds⟩, q2, h⟩ := bind_some h
  refine ra m F S σ H env z S1 _ s en q1 fun m1 F1 v1 H1 x1 s1 r1 => ?_
  obtain ⟨q, dx, vs, e1, e2, e3, e4⟩ := insOf_rep kc s1 r1 q2
  subst e1
  exact ⟨q, dx, _, rfl, e2, rfl, m1, F1, S1, [z], d, S', s1, Reps.mk1 r1, h, p.ext x1⟩
theorem wp_Prop {g : FD} : R (fProp c g fe env S) P ↔ R (fe env S) fun d S1 => (∃ q, insOf c d S1 = some q) ∧ R (g [d] S1) P := by
  unfold fProp
  simp only [R_bind]
  refine ⟨fun ⟨d, S1, e, q⟩ => ⟨d, S1, e, ?_⟩, fun ⟨d, S1, e, q⟩ => ⟨d, S1, e, ?_⟩⟩
  · obtain ⟨y, S3, e3, p⟩ := q
    obtain ⟨q1, h1, h2⟩ := bind_some e3
    exact ⟨⟨q1, h1⟩, y, S3, h2, p⟩
  · obtain ⟨⟨q1, h1⟩, y, S3, h2, p⟩ := q
    exact ⟨y, S3, by rw [h1]; exact h2, p⟩
/-! ## isinstance with an own class: an object of it -/
def fIsC (c : Str) (fe : FE) : FE := fun env S => (fe env S).bind fun p => (insOf c p.1 p.2).map fun _ => (.bl true, p.2)
theorem se_isC {p q : Pos} (kc : Klass X.K ct c C) (ic : C8.InsC X.K C) (hg : Gl X "isinstance") (hm : X.mg "isinstance" = none) (he : SE ct X e fe) (hg2 : Gl X x) (hm2 : X.mg x = some (.ref C)) (hd2 : (x == ("__debug__" : Str)) = false := by decide)
    (hs : starEach [e, .Name x q] X.env = (false, eval e X.env) :: starEach [.Name x q] X.env := by rfl) (hs2 : starEach [.Name x q] X.env = (false, eval (.Name x q) X.env) :: starEach [] X.env := by rfl)
    (hpl : (backTo pos (starEach [.Name x q] X.env)).any (·.1) = false := by rfl) : SE ct X (.Call (.Name "isinstance" p) [e, .Name x q] [] pos) (fIsC c fe) := by
  obtain ⟨ta, pa, ra⟩ := he
  refine ⟨_, pe_callB (id := "isinstance") (C8.call_isC ic) hg hm (by decide +kernel) (pa_cons pa (pa_cons (pe_glob (v := .ref C) hg2 hm2 rfl hd2) pa_nil hs2) hs) (by decide) (by decide) hs hpl, fun m F S σ H env d S' Q s en h p => ?_⟩
  obtain ⟨⟨z, S1⟩, h1, h⟩ := bind_some h
  obtain ⟨⟨fs, ds⟩, h2, h3⟩ := map_some h
  cases h3
  refine ra m F S σ H env z S1 _ s en h1 fun m1 F1 v1 H1 x1 s1 r1 => ?_
  obtain ⟨q, dx, vs, e1, e2, e3, e4⟩ := insOf_rep kc s1 r1 h2
  subst e1
  exact ⟨q, dx, _, rfl, e2, (p.ext x1).now s1 rfl⟩
theorem wp_IsC : R (fIsC c fe env S) P ↔ R (fe env S) fun d S1 => (∃ q, insOf c d S1 = some q) ∧ P (.bl true) S1 := by
  unfold fIsC
  simp only [R_bind]
  refine ⟨fun ⟨d, S1, e, q⟩ => ⟨d, S1, e, ?_⟩, fun ⟨d, S1, e, q⟩ => ⟨d, S1, e, ?_⟩⟩
  · obtain ⟨y, S3, e3, p⟩ := q
    obtain ⟨q1, h1, h2⟩ := map_some e3
    cases h2
    exact ⟨⟨q1, h1⟩, p⟩
  · obtain ⟨⟨q1, h1⟩, p⟩ := q
    exact ⟨_, _, by rw [h1]; rfl, p⟩
/-! ## d.get(k), k in d of a dict at hand -/
def fDGet1 (fd fk : FE) : FE := fun env S => (fd env S).bind fun p => (kvsOf p.1 p.2).bind fun _ => (fk env p.2).bind fun q => (kvsOf p.1 q.2).bind fun kvs => (toKey q.1).map fun x => ((valA kvs x).getD .non, q.2)
theorem se_dget1 (hr : RoomG n X.A) (ho : SE ct X o fo) (hk : SE ct X k fk) (m : M1 X o "get" apos k cpos) : SE ct X (.Call (.Attribute o "get" apos) [k] [] cpos) (fDGet1 fo fk) := by
  obtain ⟨ta, pa, ra⟩ := ho
  obtain ⟨tb, pb, rb⟩ := hk
  refine ⟨_, pe_dget1 (hu_of hr.room) pa pb m, fun m F S σ H env d S' Q s en h p => ?_⟩
  obtain ⟨⟨z, S1⟩, h1, h⟩ := bind_some h
  obtain ⟨kvs0, h0, h⟩ := bind_some h
  obtain ⟨⟨y, S2⟩, h2, h⟩ := bind_some h
  obtain ⟨kvs, h4, h⟩ := bind_some h
  obtain ⟨key, h5, h6⟩ := map_some h
  cases h6
  refine ra m F S σ H env z S1 _ s en h1 fun m1 F1 v1 H1 x1 s1 r1 => ?_
  obtain ⟨w, us0, e1, e2, _⟩ := kvs_at s1 r1 h0
  refine ⟨w, e1, .inl ⟨us0, .inl e2⟩, ?_⟩
  refine rb m1 F1 S1 σ H1 env y S2 _ s1 (en.mono x1) h2 fun m2 F2 v2 H2 x2 s2 r2 => ?_
  obtain ⟨w', us, e1', e2', pr⟩ := kvs_at s2 (r1.mono x2) h4
  subst e1
  cases e1'
  have ek := r2.key h5
  subst ek
  refine ⟨_, DGet.k e2', ?_⟩
  have p2 := (p.ext x1).ext x2
  cases hv : valA kvs key with
  | none =>
    rw [hv] at p2
    rw [(PR.val pr key).2 hv]
    exact p2.now s2 rfl
  | some dv =>
    rw [hv] at p2
    obtain ⟨v, q1, q2⟩ := (PR.val pr key).1 dv hv
    rw [q1]
    exact p2.now s2 q2
def fDIn (neg : Bool) (fk fd : FE) : FE := fun env S => (fk env S).bind fun p => (fd env p.2).bind fun q => (kvsOf q.1 q.2).bind fun kvs => (toKey p.1).map fun x => (.bl (if neg then !(valA kvs x).isSome else (valA kvs x).isSome), q.2)
theorem din_run {m : List Addr} {F H : Hp} {S S' : Sto} {env : DEnv} {d : D} {σ : L2.St} {neg : Bool} {ta tb : TE} {Q : VK}
    (ra : ∀ m F S σ H env d S' Q, Sim X.K ct m F S H → EnvR X.K ct m F env σ → fk env S = some (d, S') → PostE ct X.K m F H S' d Q → ta σ H Q)
    (rb : ∀ m F S σ H env d S' Q, Sim X.K ct m F S H → EnvR X.K ct m F env σ → fo env S = some (d, S') → PostE ct X.K m F H S' d Q → tb σ H Q)
    (s : Sim X.K ct m F S H) (en : EnvR X.K ct m F env σ) (h : fDIn neg fk fo env S = some (d, S')) (p : PostE ct X.K m F H S' d Q) : ta σ H fun y H1 => tb σ H1 fun x H2 => ∃ a o, x = .ref a ∧ DGet H2 a y o ∧ Q (.bl (if neg then !o.isSome else o.isSome)) H2 := by
  obtain ⟨⟨y, S1⟩, h1, h⟩ := bind_some h
  obtain ⟨⟨z, S2⟩, h2, h⟩ := bind_some h
  obtain ⟨kvs, h4, h⟩ := bind_some h
  obtain ⟨key, h5, h6⟩ := map_some h
  cases h6
  refine ra m F S σ H env y S1 _ s en h1 fun m1 F1 v1 H1 x1 s1 r1 => ?_
  refine rb m1 F1 S1 σ H1 env z S2 _ s1 (en.mono x1) h2 fun m2 F2 v2 H2 x2 s2 r2 => ?_
  obtain ⟨w, us, e1, e2, pr⟩ := kvs_at s2 r2 h4
  have ek := (r1.mono x2).key h5
  subst ek
  refine ⟨w, _, e1, DGet.k e2, ?_⟩
  have p2 := (p.ext x1).ext x2
  cases hv : valA kvs key with
  | none =>
    rw [hv] at p2
    rw [(PR.val pr key).2 hv]
    exact p2.now s2 rfl
  | some dv =>
    rw [hv] at p2
    obtain ⟨v, q1, q2⟩ := (PR.val pr key).1 dv hv
    rw [q1]
    exact p2.now s2 rfl
theorem se_din (hr : RoomG n X.A) (hk : SE ct X k fk) (ho : SE ct X o fo) (h1 : behindInMarks .In o = false) : SE ct X (.Compare k [.In] [o] pos) (fDIn false fk fo) := by
  obtain ⟨ta, pa, ra⟩ := hk
  obtain ⟨tb, pb, rb⟩ := ho
  exact ⟨_, pe_cmp (pc_din (hu_of hr.room) pa pb) h1, fun m F S σ H env d S' Q s en h p => din_run (neg := false) ra rb s en h p⟩
theorem st_din (hr : RoomG n X.A) (hk : SE ct X k fk) (ho : SE ct X o fo) (h1 : behindInMarks .In o = false) : ST ct X (.Compare k [.In] [o] pos) (fTest (fDIn false fk fo)) := by
  obtain ⟨ta, pa, ra⟩ := hk
  obtain ⟨tb, pb, rb⟩ := ho
  refine ⟨_, pt_cmp (pc_din (hu_of hr.room) pa pb) h1, fun m F S σ H env d S' Q s en h p => ?_⟩
  obtain ⟨⟨x, S1⟩, q1, h⟩ := bind_some h
  show tDIn ta tb σ H fun v H1 => ∃ z, v = .bl z ∧ Q z H1
  refine din_run (neg := false) (Q := fun v H1 => ∃ z, v = .bl z ∧ Q z H1) ra rb s en q1 fun m1 F1 v1 H1 x1 s1 r1 => ?_
  cases x with
  | bl z =>
    have r1 : v1 = .bl z := r1
    cases h
    exact ⟨_, r1, p m1 F1 H1 x1 s1⟩
  | _ => cases h
theorem wp_DGet1 : R (fDGet1 fo fk env S) P ↔ R (fo env S) fun x S1 => (∃ q, kvsOf x S1 = some q) ∧ R (fk env S1) fun y S2 => ∃ kvs, kvsOf x S2 = some kvs ∧ ∃ key, toKey y = some key ∧ P ((valA kvs key).getD .non) S2 := by
  unfold fDGet1
  simp only [R_bind]
  refine ⟨fun ⟨x, S1, e, q⟩ => ⟨x, S1, e, ?_⟩, fun ⟨x, S1, e, q⟩ => ⟨x, S1, e, ?_⟩⟩
  · obtain ⟨d, S3, e3, p⟩ := q
    obtain ⟨k0, h0, h⟩ := bind_some e3
    obtain ⟨⟨y, S2⟩, h1, h⟩ := bind_some h
    obtain ⟨kvs, h2, h⟩ := bind_some h
    obtain ⟨key, h3, h4⟩ := map_some h
    cases h4
    exact ⟨⟨k0, h0⟩, y, _, h1, kvs, h2, key, h3, p⟩
  · obtain ⟨⟨k0, h0⟩, y, S2, h1, kvs, h2, key, h3, p⟩ := q
    exact ⟨_, S2, by rw [h0]; show ((fk env S1).bind _) = _; rw [h1]; show ((kvsOf x S2).bind _) = _; rw [h2]; show ((toKey y).map _) = _; rw [h3]; rfl, p⟩
theorem wp_DIn {neg : Bool} : R (fDIn neg fk fo env S) P ↔ R (fk env S) fun y S1 => R (fo env S1) fun x S2 => ∃ kvs, kvsOf x S2 = some kvs ∧ ∃ key, toKey y = some key ∧ P (.bl (if neg then !(valA kvs key).isSome else (valA kvs key).isSome)) S2 := by
  unfold fDIn
  simp only [R_bind]
  refine ⟨fun ⟨x, S1, e, y, S2, e2, q⟩ => ⟨x, S1, e, y, S2, e2, ?_⟩, fun ⟨x, S1, e, y, S2, e2, q⟩ => ⟨x, S1, e, y, S2, e2, ?_⟩⟩
  · obtain ⟨d, S3, e3, p⟩ := q
    obtain ⟨kvs, h1, h⟩ := bind_some e3
    obtain ⟨key, h2, h3⟩ := map_some h
    cases h3
    exact ⟨kvs, h1, key, h2, p⟩
  · obtain ⟨kvs, h1, key, h2, p⟩ := q
    exact ⟨_, S2, by rw [h1]; show ((toKey x).map _) = _; rw [h2]; rfl, p⟩
/-! ## a, b, .. = a list -/
def gUnlD (n : Nat) (gs : FGs) : FG := fun d env S => match d with
  | .lst ds => if ds.length = n then gs ds env S else none
  | _ => none
theorem sg_unl {ts : List Expr} {k n : Nat} {gs : FGs} (hc : X.calm = true) (h : SGs ct X ts gs) (hn : (assignEach ts X.env).length = n := by rfl) (hst : (assignEach ts X.env).findIdx? (·.1) = none := by rfl) : SG ct X (.Tuple ts k pos) (gUnlD n gs) := by
  obtain ⟨ta, pa, ra⟩ := h
  refine ⟨_, pg_unl hc pa hn hst, fun m F S σ H env d v env' S' Q s en r h q => ?_⟩
  cases d with
  | lst ds =>
    obtain ⟨w, vs, e1, e2, e3⟩ := r
    by_cases hl : ds.length = n
    · have h : (if ds.length = n then gs ds env S else none) = some (env', S') := h
      rw [if_pos hl] at h
      exact ⟨w, vs, e1, SqL.of (s.same _ _ e2), by rw [← e3.length]; exact hl, ra m F S σ H env ds vs env' S' Q s en e3 h q⟩
    · have h : (if ds.length = n then gs ds env S else none) = some (env', S') := h
      rw [if_neg hl] at h
      cases h
  | _ => cases h
theorem wp_gUnl {n : Nat} {gs : FGs} {ds : List D} {PG : DEnv → Sto → Prop} : R (gUnlD n gs (.lst ds) env S) PG ↔ ds.length = n ∧ R (gs ds env S) PG := by
  show R (if ds.length = n then gs ds env S else none) PG ↔ _
  by_cases h : ds.length = n
  · rw [if_pos h]; exact ⟨fun p => ⟨h, p⟩, fun p => p.2⟩
  · rw [if_neg h, R_none]; exact ⟨False.elim, fun p => h p.1⟩
/-! ## dict(a written dict of texts and whole numbers) -/
def TK (w : World) (K : PySem.W.Frag) (mg : Str → Option Value) (n : Str) (tab : List (Str × Int)) : Prop := ∃ (g : Addr) (es : Array DictEntry) (c : Nat), mg n = some (.ref g) ∧ K.lookup g = some ⟨.type "dict", none, .dict es c, #[]⟩ ∧ TabOk w.params tab es.toList ∧ (g == sysModules) = false
def tabV (tab : List (Str × Int)) : List (Key × V) := tab.map fun p => (Sum.inr p.1, V.int p.2)
def tabD (tab : List (Str × Int)) : List (Key × D) := tab.map fun p => (Sum.inr p.1, D.int p.2)
theorem tab_pairs {Pr : Program} {w : World} : ∀ {tab : List (Str × Int)} {l : List DictEntry}, TabOk w.params tab l → ∃ vs : List (Key × Value), KV (tabV tab) vs ∧ Pairs (mixKind Pr w) l vs ∧ (∀ e ∈ l, ∃ k, (mixKind Pr w).is k e.key = true ∧ e.hash = (mixKind Pr w).hash k) ∧ vs.map (·.1) = tab.map fun p => Sum.inr p.1
  | [], [], _ => ⟨[], .nil, .nil, fun e h => (by cases h), rfl⟩
  | p :: tab, e :: l, h => by
    obtain ⟨⟨t, t', h1, h2, h3⟩, h4⟩ := h
    obtain ⟨vs, a, b, c, d⟩ := tab_pairs (Pr := Pr) h4
    have ik : (mixKind Pr w).is (Sum.inr p.1) e.key = true := by rw [h1]; exact keyIs_str p.1 t
    refine ⟨(Sum.inr p.1, .int p.2 t') :: vs, .cons ⟨rfl, ⟨_, rfl⟩⟩ a, .cons ik h3 b, fun z hz => ?_, by rw [List.map_cons, List.map_cons, d]⟩
    rcases List.mem_cons.mp hz with rfl | hz
    · exact ⟨Sum.inr p.1, ik, h2⟩
    · exact c z hz
  | [], _ :: _, h => h.elim
  | _ :: _, [], h => h.elim
theorem tab_PR {K : PySem.W.Frag} {m : List Addr} {F : Hp} : ∀ tab : List (Str × Int), PR K ct m F (tabD tab) (tabV tab)
  | [] => .nil
  | p :: tab => .cons ⟨rfl, rfl⟩ (tab_PR tab)
def rDictK (K : PySem.W.Frag) (w : World) (tab : List (Str × Int)) : List V → Hp → VK → Prop := fun xs H Q => ∃ (g : Addr) (es : Array DictEntry) (c : Nat), xs = [.ref g] ∧ K.lookup g = some ⟨.type "dict", none, .dict es c, #[]⟩ ∧ TabOk w.params tab es.toList ∧ (g == sysModules) = false ∧ tab.length ≤ 1000 ∧ (tab.map (·.1)).Nodup ∧
  ∀ p, H p = none → Q (.ref p) (upd H p (.dK (tabV tab)))
theorem call_dictK {tab : List (Str × Int)} : CallR X (.type "dict") (rDictK X.K X.w tab) := by
  intro pins s σ H xs us Q I r h
  obtain ⟨g, es, c, rfl, lk, tb, lo, hl, hn, q⟩ := h
  obtain ⟨u, rfl, ru⟩ := vals1 r
  have ru : u = Value.ref g := ru
  subst ru
  obtain ⟨vs, a1, a2, a3, a4⟩ := tab_pairs (Pr := X.prog) tb
  have hz : vs.length ≤ sizeLine := by
    have : vs.length = tab.length := by
      have := congrArg List.length a4
      simpa using this
    rw [this]
    exact Nat.le_trans hl (by decide)
  have dd : s.heap.DictOf (mixKind X.prog X.w) g vs := ⟨_, es, c, I.kIn g _ lk, ⟨rfl, rfl, rfl⟩, rfl, fun e he => a3 e (Array.mem_toList_iff.mpr he), a2, by
    rw [a4]
    rw [show (tab.map fun p => (Sum.inr p.1 : Key)) = (tab.map (·.1)).map Sum.inr by rw [List.map_map]; rfl]
    exact nodup_inr hn⟩
  refine kt_call_dict lo dd hz fun h' d' hs => ?_
  have hm : (s.heap.objs.size == sysModules) = false := beq_eq_false_iff_ne.mpr (Nat.ne_of_gt I.big)
  exact ⟨.ref s.heap.objs.size, upd H s.heap.objs.size (.dK (tabV tab)), I.laid (t' := s.toks) (fun b u e => (hs.2 b (Nat.ne_of_lt (Heap.lt_size e))).trans (Heap.get?_push_of_some _ e)) (Nat.le_refl _)
    (show ObjOk X.prog X.w _ _ _ (.dK (tabV tab)) from ⟨by rw [a1.length]; exact hz, hm, vs, a1, d'⟩), rfl, q _ (I.hok.fresh (Nat.le_refl _))⟩
def fDictK (tab : List (Str × Int)) : FE := fun _ S => some (.ref S.length, S ++ [.dct (tabD tab)])
theorem se_dictK {tab : List (Str × Int)} {p q : Pos} (T : TK X.w X.K X.mg x tab) (hg : Gl X "dict") (hm : X.mg "dict" = none) (hg2 : Gl X x) (hl : tab.length ≤ 1000) (hn : (tab.map (·.1)).Nodup) (hd : (x == ("__debug__" : Str)) = false := by decide)
    (hs : starEach [.Name x q] X.env = (false, eval (.Name x q) X.env) :: starEach [] X.env := by rfl) (hpl : (backTo pos (starEach [] X.env)).any (·.1) = false := by rfl) : SE ct X (.Call (.Name "dict" p) [.Name x q] [] pos) (fDictK tab) := by
  obtain ⟨g, es, c, hmg, lk, tb, lo⟩ := T
  refine ⟨_, pe_callTy (call_dictK (tab := tab)) hg hm (by decide +kernel) (pa_cons (pe_glob (v := .ref g) hg2 hmg rfl hd) pa_nil hs) (by decide) (by decide) hs hpl, fun m F S σ H env d S' Q s en h p => ?_⟩
  cases h
  refine ⟨g, es, c, rfl, lk, tb, lo, hl, hn, fun q hq => ?_⟩
  obtain ⟨s2, x2⟩ := s.fresh hq (o := .dK (tabV tab)) (c := .dct (tabD tab)) ⟨_, rfl, tab_PR tab⟩
  exact p _ _ (.ref q) _ x2 s2 ⟨q, by rw [← s.len]; simp, rfl⟩
theorem wp_DictK {tab : List (Str × Int)} : R (fDictK tab env S) P ↔ P (.ref S.length) (S ++ [.dct (tabD tab)]) := R_some
end
end DL

namespace DL
open PySem PySem.Spec PyProof.Rows L2
/-! ## a list, so many times, as a cell -/
def gRepM : D → D → Sto → Option (D × Sto)
  | .lst ds, .int k, S => if 0 ≤ k ∧ k ≤ 1000 ∧ ds.length ≤ 1000 then some (.ref S.length, S ++ [.lst (List.replicate k.toNat ds).flatten]) else none
  | _, _, _ => none
theorem od_repM {ct : CT} {K : PySem.W.Frag} : OpD ct K rRep gRepM := by
  intro m F S H x y dx dy d S' Q s rx ry h p
  unfold gRepM at h
  split at h
  · rename_i es k
    split at h
    · rename_i hc
      cases h
      obtain ⟨a, vs, e1, e2, e3⟩ := rx
      refine ⟨a, k, vs, e1, ry, s.same _ _ e2, by omega, by omega, ?_, fun q hq => ?_⟩
      · rw [line_eq, ← e3.length]
        have h1 : k.toNat ≤ 1000 := by omega
        exact Nat.le_trans (Nat.mul_le_mul hc.2.2 h1) (by decide)
      · obtain ⟨s2, x2⟩ := s.fresh hq (o := .lst (List.replicate k.toNat vs).flatten) (c := .lst (List.replicate k.toNat es).flatten) ⟨_, rfl, reps_rep e3 _⟩
        exact p _ _ (.ref q) _ x2 s2 ⟨q, by rw [← s.len]; simp, rfl⟩
    · cases h
  · cases h
theorem wp_repM {ds : List D} {k : Int} {S : Sto} {P : D → Sto → Prop} : R (gRepM (.lst ds) (.int k) S) P ↔ (0 ≤ k ∧ k ≤ 1000 ∧ ds.length ≤ 1000) ∧ P (.ref S.length) (S ++ [.lst (List.replicate k.toNat ds).flatten]) := R_cond
/-! ## list + cell -/
def gAddC : D → D → Sto → Option (D × Sto)
  | .lst a, .ref k, S => match S[k]? with
    | some (.lst b) => if a.length + b.length ≤ 16777216 then some (.lst (a ++ b), S) else none
    | _ => none
  | _, _, _ => none
theorem od_addC {ct : CT} {K : PySem.W.Frag} : OpD ct K rCat gAddC := by
  intro m F S H x y dx dy d S' Q s rx ry h p
  unfold gAddC at h
  split at h
  · rename_i as k
    split at h
    · rename_i bs hk
      split at h
      · rename_i hl
        cases h
        obtain ⟨a, vs, e1, e2, e3⟩ := rx
        obtain ⟨b, f0, f1⟩ := ry
        obtain ⟨us, f2, f3⟩ := s.cell k b _ f0 hk
        refine ⟨a, b, vs, us, e1, f1, s.same _ _ e2, f2, by rw [line_eq, ← e3.length, ← f3.length]; exact hl, fun q hq => ?_⟩
        obtain ⟨s2, x2⟩ := s.frozen hq (.lst (vs ++ us))
        exact p m _ (.ref q) _ x2 s2 ⟨q, _, rfl, upd_same, (e3.append f3).mono x2⟩
      · cases h
    · cases h
  · cases h
/-! ## max of a list of whole numbers -/
def intsOf : List D → Option (List Int)
  | [] => some []
  | .int i :: ds => (intsOf ds).map fun r => i :: r
  | _ :: _ => none
def maxI : List Int → Int
  | [] => 0
  | [a] => a
  | a :: l => if maxI l < a then a else maxI l
theorem maxI_ok : ∀ {l : List Int}, 0 < l.length → maxI l ∈ l ∧ ∀ y ∈ l, y ≤ maxI l
  | [], h => by cases h
  | [a], _ => ⟨List.mem_singleton.mpr rfl, fun y h => by rw [List.mem_singleton.mp h]; exact Int.le_refl _⟩
  | a :: b :: l, _ => by
    obtain ⟨h1, h2⟩ := maxI_ok (l := b :: l) (by simp)
    show (if maxI (b :: l) < a then a else maxI (b :: l)) ∈ _ ∧ ∀ y ∈ _, y ≤ (if maxI (b :: l) < a then a else maxI (b :: l))
    split
    · rename_i h
      refine ⟨List.mem_cons_self .., fun y hy => ?_⟩
      rcases List.mem_cons.mp hy with rfl | q
      · exact Int.le_refl _
      · have := h2 y q; omega
    · rename_i h
      refine ⟨List.mem_cons_of_mem _ h1, fun y hy => ?_⟩
      rcases List.mem_cons.mp hy with rfl | q
      · omega
      · exact h2 y q
def cMaxL : FD
  | [.lst ds], S => (intsOf ds).bind fun ns => if 0 < ns.length then some (.int (maxI ns), S) else none
  | _, _ => none
theorem ints_vals {ct : CT} {K : PySem.W.Frag} {m : List Addr} {F : Hp} : ∀ {ds : List D} {vs : List V} {ns : List Int}, Reps K ct m F ds vs → intsOf ds = some ns → vs = ns.map V.int
  | [], vs, ns, r, h => by cases h; exact r
  | d :: ds, vs, ns, r, h => by
    cases d <;> first | (cases h; done) | skip
    rename_i i
    obtain ⟨l, h1, h2⟩ := map_some h
    subst h2
    obtain ⟨v, us, e1, e2, e3⟩ := r
    have e2 : v = .int i := e2
    subst e2 e1
    rw [ints_vals e3 h1]
    rfl
theorem cd_maxL {ct : CT} {K : PySem.W.Frag} : CallD ct K (rMax K) cMaxL := by
  intro m F S H xs ds d S' Q s r h p
  unfold cMaxL at h
  split at h
  · rename_i es
    obtain ⟨ns, h1, h⟩ := bind_some h
    split at h
    · rename_i hne
      cases h
      obtain ⟨v, e1, a, vs, e2, e3, e4⟩ := reps1 r
      subst e2
      have hv := ints_vals e4 h1
      subst hv
      refine ⟨a, ns, e1, SqL.of (s.same _ _ e3), hne, fun M m1 m2 => ?_⟩
      obtain ⟨g1, g2⟩ := maxI_ok hne
      have hM : M = maxI ns := Int.le_antisymm (g2 _ m1) (m2 _ g1)
      rw [hM]
      exact p.now s rfl
    · cases h
  · cases h
theorem intsOf_map (ns : List Int) : intsOf (ns.map D.int) = some ns := by
  induction ns with
  | nil => rfl
  | cons a l ih => show (intsOf (l.map D.int)).map _ = _; rw [ih]; rfl
end DL

namespace LW
open PySem PySem.Spec PyProof.Rows L2 DL
def topS (i : Nat) : Stmt := PySem.Challenge.pw_forcedties_k39_whole_rules_counted.main.body.getD i (.Pass ⟨0, 0, 0, 0⟩)
def tab_LEAST : List (Str × Int) := [("crowd", 2), ("star", 1), ("pairs", 1), ("row", 2), ("ring", 3), ("core", 1), ("linked", 1)]
structure Txt (w : World) (K : PySem.W.Frag) (mg : Str → Option Value) (ct : CT) (C_Thing : Addr) : Prop where
  n_abs : mg "abs" = none
  n_all : mg "all" = none
  n_bool : mg "bool" = none
  n_divmod : mg "divmod" = none
  n_int : mg "int" = none
  n_isinstance : mg "isinstance" = none
  n_len : mg "len" = none
  n_max : mg "max" = none
  n_min : mg "min" = none
  n_range : mg "range" = none
  n_str : mg "str" = none
  n_tuple : mg "tuple" = none
  c_MOST_ASKED : CG mg "MOST_ASKED" (.int 10000000000000000000000000000000000000000)
  k_LEAST : KG w K mg "LEAST" tab_LEAST
  t_PLAIN : TG K mg "PLAIN" [.str "odd ring", .str "even ring"]
  kc_Thing : Klass K ct "Thing" C_Thing
  g_Thing : mg "Thing" = some (.ref C_Thing)
  na_Thing_many : NoAttr K C_Thing "many"
  na_Thing_word : NoAttr K C_Thing "word"
  d_is_integer : DefAt K mg "is_integer" (topS 12) ["value"]
  d_is_between : DefAt K mg "is_between" (topS 13) ["value", "least", "most"]
  d_check_people : DefAt K mg "check_people" (topS 14) ["people", "most"]
  d_check_two : DefAt K mg "check_two" (topS 15) ["one", "other", "people"]
  d_pairs_of : DefAt K mg "pairs_of" (topS 17) ["many"]
  d_most_pairs : DefAt K mg "most_pairs" (topS 21) ["number", "people"]
  d_most_rings : DefAt K mg "most_rings" (topS 22) ["kind", "number", "people"]
  d_most_groups : DefAt K mg "most_groups" (topS 23) ["kind", "number", "people"]
  d_is_all_tied : DefAt K mg "is_all_tied" (topS 25) ["kind", "number", "people"]
  d_most_of : DefAt K mg "most_of" (topS 24) ["kind", "number", "people"]
  d_is_star_tie : DefAt K mg "is_star_tie" (topS 26) ["number", "people", "one", "other"]
  d_is_ring_tie : DefAt K mg "is_ring_tie" (topS 27) ["kind", "number", "one", "other"]
  d_is_rule_tie : DefAt K mg "is_rule_tie" (topS 28) ["kind", "number", "people", "one", "other"]
  i_Thing : InitAt K C_Thing "Thing.__init__" (inClass (topS 32) 0) ["self", "kind", "size"] [.non]
  m_Thing_most : MethAt K C_Thing "most" "Thing.most" (inClass (topS 32) 4) ["self", "people"]
  m_Thing_tied : MethAt K C_Thing "tied" "Thing.tied" (inClass (topS 32) 6) ["self", "people", "one", "other"]
  d__law_purse : DefAt K mg "_law_purse" (topS 35) ["_law_script", "_law_spot"]
  d__law_draw : DefAt K mg "_law_draw" (topS 36) ["_law_purse_here", "_law_many"]
  d__law_all : DefAt K mg "_law_all" (topS 37) ["_law_many"]
  d__law_two : DefAt K mg "_law_two" (topS 38) ["_law_many"]
  d__law_most : DefAt K mg "_law_most" (topS 39) ["_law_kind", "_law_k", "_law_n"]
  d__law_right : DefAt K mg "_law_right" (topS 40) ["_law_purse_here"]
  d_law : DefAt K mg "law" (topS 41) ["_law_script"]
variable {P : Program} {w : World} {K : PySem.W.Frag} {mg : Str → Option Value} {base : Heap} {ct : CT}
abbrev s_is_integer : Stmt := topS 12
theorem sc_is_integer : FnScope ["value"] ["value"] (defScope s_is_integer) := ⟨rfl, rfl, rfl, by decide +kernel, rfl, by decide +kernel, by decide +kernel⟩
def b_is_integer : FS :=
  (sRet (fAnd (fIsi "int" (fVar 0)) (fNot (fIsi "bool" (fVar 0)))))
def d_is_integer : FD := runD 1 (b_is_integer)
theorem ok_is_integer {k : Nat} (T : Txt w K mg ct C_Thing) : Callee P w K mg base ct (k + 1) "is_integer" 1 (d_is_integer) :=
  callee_of T.d_is_integer sc_is_integer fun f cdv A outer s H E hr =>
    (sss_one (ss_ret (se_and (se_isi (by rfl) T.n_isinstance (se_var 0) (by rfl) T.n_int (by decide +kernel)) (se_one (se_not (se_isi (by rfl) T.n_isinstance (se_var 0) (by rfl) T.n_bool (by decide +kernel)))))))
abbrev s_is_between : Stmt := topS 13
theorem sc_is_between : FnScope ["value", "least", "most"] ["value", "least", "most"] (defScope s_is_between) := ⟨rfl, rfl, rfl, by decide +kernel, rfl, by decide +kernel, by decide +kernel⟩
def b_is_between (c_is_integer : FD) : FS :=
  (sRet (fAnd (fCall c_is_integer (fCons (fVar 0) fNil)) (fChain gLe gLe (fVar 1) (fVar 0) (fVar 2))))
def d_is_between (c_is_integer : FD) : FD := runD 3 (b_is_between c_is_integer)
theorem ok_is_between {c_is_integer : FD} {k : Nat} (T : Txt w K mg ct C_Thing) (C_is_integer : Callee P w K mg base ct k "is_integer" 1 c_is_integer) : Callee P w K mg base ct (k + 1) "is_between" 3 (d_is_between c_is_integer) :=
  callee_of T.d_is_between sc_is_between fun f cdv A outer s H E hr =>
    (sss_one (ss_ret (se_and (se_fn C_is_integer hr (by rfl) (sa_cons (se_var 0) sa_nil) (fCons_len (fun _ _ _ _ h => fNil_len h))) (se_one (se_chain op_le od_le op_le od_le (se_var 1) (se_var 0) (se_var 2))))))
abbrev s_check_people : Stmt := topS 14
theorem sc_check_people : FnScope ["people", "most"] ["people", "most"] (defScope s_check_people) := ⟨rfl, rfl, rfl, by decide +kernel, rfl, by decide +kernel, by decide +kernel⟩
def b_check_people (c_is_integer : FD) : FS :=
  (sSeq (sIf (tOrD (tNotD (fTest (fCall c_is_integer (fCons (fVar 0) fNil)))) (fTest (fBin gLt (fVar 0) (fC (.int 0))))) sNever sSkip)
    (sIf (fTest (fBin gGt (fVar 0) (fVar 1))) sNever sSkip))
def d_check_people (c_is_integer : FD) : FD := runD 2 (b_check_people c_is_integer)
theorem ok_check_people {c_is_integer : FD} {k : Nat} (T : Txt w K mg ct C_Thing) (C_is_integer : Callee P w K mg base ct k "is_integer" 1 c_is_integer) : Callee P w K mg base ct (k + 1) "check_people" 2 (d_check_people c_is_integer) :=
  callee_of T.d_check_people sc_check_people fun f cdv A outer s H E hr =>
    (sss_cons (ss_if (SW.st (sw_or (st_not (st_val (se_fn C_is_integer hr (by rfl) (sa_cons (se_var 0) sa_nil) (fCons_len (fun _ _ _ _ h => fNil_len h))))) (sw_or1 (st_cmp op_lt od_lt (se_var 0) se_int (nomark _))))) (sss_one ss_never) sss_nil)
      (sss_one (ss_if (st_cmp op_gt od_gt (se_var 0) (se_var 1) (nomark _)) (sss_one ss_never) sss_nil)))
abbrev s_check_two : Stmt := topS 15
theorem sc_check_two : FnScope ["one", "other", "people"] ["one", "other", "people"] (defScope s_check_two) := ⟨rfl, rfl, rfl, by decide +kernel, rfl, by decide +kernel, by decide +kernel⟩
def b_check_two (c_is_between : FD) : FS :=
  (sSeq (sIf (tNotD (fTest (fCall c_is_between (fCons (fVar 0) (fCons (fC (.int 0)) (fCons (fBin gSubI (fVar 2) (fC (.int 1))) fNil)))))) sNever sSkip)
    (sIf (tOrD (tNotD (fTest (fCall c_is_between (fCons (fVar 1) (fCons (fC (.int 0)) (fCons (fBin gSubI (fVar 2) (fC (.int 1))) fNil)))))) (fTest (fBin gEq (fVar 1) (fVar 0)))) sNever sSkip))
def d_check_two (c_is_between : FD) : FD := runD 3 (b_check_two c_is_between)
theorem ok_check_two {c_is_between : FD} {k : Nat} (T : Txt w K mg ct C_Thing) (C_is_between : Callee P w K mg base ct k "is_between" 3 c_is_between) : Callee P w K mg base ct (k + 1) "check_two" 3 (d_check_two c_is_between) :=
  callee_of T.d_check_two sc_check_two fun f cdv A outer s H E hr =>
    (sss_cons (ss_if (st_not (st_val (se_fn C_is_between hr (by rfl) (sa_cons (se_var 0) (sa_cons se_int (sa_cons (se_op op_sub od_sub (se_var 2) se_int) sa_nil))) (fCons_len (fCons_len (fCons_len (fun _ _ _ _ h => fNil_len h))))))) (sss_one ss_never) sss_nil)
      (sss_one (ss_if (SW.st (sw_or (st_not (st_val (se_fn C_is_between hr (by rfl) (sa_cons (se_var 1) (sa_cons se_int (sa_cons (se_op op_sub od_sub (se_var 2) se_int) sa_nil))) (fCons_len (fCons_len (fCons_len (fun _ _ _ _ h => fNil_len h))))))) (sw_or1 (st_cmp (op_eqAll hr) od_eq (se_var 1) (se_var 0) (nomark _))))) (sss_one ss_never) sss_nil)))
abbrev s_pairs_of : Stmt := topS 17
theorem sc_pairs_of : FnScope ["many"] ["many"] (defScope s_pairs_of) := ⟨rfl, rfl, rfl, by decide +kernel, rfl, by decide +kernel, by decide +kernel⟩
def b_pairs_of : FS :=
  (sRet (fBin gFdiv (fBin gMul (fVar 0) (fBin gSubI (fVar 0) (fC (.int 1)))) (fC (.int 2))))
def d_pairs_of : FD := runD 1 (b_pairs_of)
theorem ok_pairs_of {k : Nat} (T : Txt w K mg ct C_Thing) : Callee P w K mg base ct (k + 1) "pairs_of" 1 (d_pairs_of) :=
  callee_of T.d_pairs_of sc_pairs_of fun f cdv A outer s H E hr =>
    (sss_one (ss_ret (se_op op_fdivW od_fdiv (se_op op_mulW od_mul (se_var 0) (se_op op_sub od_sub (se_var 0) se_int)) se_int)))
abbrev s_most_pairs : Stmt := topS 21
theorem sc_most_pairs : FnScope ["number", "people"] ["number", "people"] (defScope s_most_pairs) := ⟨rfl, rfl, rfl, by decide +kernel, rfl, by decide +kernel, by decide +kernel⟩
def b_most_pairs (c_pairs_of : FD) : FS :=
  (sRet (fTup (fCons (fCall c_pairs_of (fCons (fBin gSubI (fBin gMul (fC (.int 2)) (fVar 0)) (fC (.int 1))) fNil)) (fCons (fBin gAdd (fCall c_pairs_of (fCons (fBin gSubI (fVar 0) (fC (.int 1))) fNil)) (fBin gMul (fBin gSubI (fVar 0) (fC (.int 1))) (fBin gAdd (fBin gSubI (fVar 1) (fVar 0)) (fC (.int 1))))) fNil))))
def d_most_pairs (c_pairs_of : FD) : FD := runD 2 (b_most_pairs c_pairs_of)
theorem ok_most_pairs {c_pairs_of : FD} {k : Nat} (T : Txt w K mg ct C_Thing) (C_pairs_of : Callee P w K mg base ct k "pairs_of" 1 c_pairs_of) : Callee P w K mg base ct (k + 1) "most_pairs" 2 (d_most_pairs c_pairs_of) :=
  callee_of T.d_most_pairs sc_most_pairs fun f cdv A outer s H E hr =>
    (sss_one (ss_ret (se_tup (sa_cons (se_fn C_pairs_of hr (by rfl) (sa_cons (se_op op_sub od_sub (se_op op_mulW od_mul se_int (se_var 0)) se_int) sa_nil) (fCons_len (fun _ _ _ _ h => fNil_len h))) (sa_cons (se_op op_addAll od_add (se_fn C_pairs_of hr (by rfl) (sa_cons (se_op op_sub od_sub (se_var 0) se_int) sa_nil) (fCons_len (fun _ _ _ _ h => fNil_len h))) (se_op op_mulW od_mul (se_op op_sub od_sub (se_var 0) se_int) (se_op op_addAll od_add (se_op op_sub od_sub (se_var 1) (se_var 0)) se_int))) sa_nil)))))
abbrev s_most_rings : Stmt := topS 22
theorem sc_most_rings : FnScope ["kind", "number", "people", "blocks", "rest"] ["kind", "number", "people"] (defScope s_most_rings) := ⟨rfl, rfl, rfl, by decide +kernel, rfl, by decide +kernel, by decide +kernel⟩
def b_most_rings (c_pairs_of : FD) : FS :=
  (sSeq (sIf (fTest (fBin gEq (fVar 2) (fC (.int 0)))) (sRet (fC (.int 0))) sSkip)
    (sSeq (sIf (fTest (fBin gEq (fVar 0) (fC (.str "ring")))) (sSeq (sPar 3 4 (fCons (fBin gFdiv (fBin gSubI (fVar 2) (fC (.int 1))) (fBin gSubI (fVar 1) (fC (.int 2)))) (fCons (fBin gMod (fBin gSubI (fVar 2) (fC (.int 1))) (fBin gSubI (fVar 1) (fC (.int 2)))) fNil)))
    (sRet (fBin gAdd (fBin gMul (fVar 3) (fCall c_pairs_of (fCons (fBin gSubI (fVar 1) (fC (.int 1))) fNil))) (fCall c_pairs_of (fCons (fBin gAdd (fVar 4) (fC (.int 1))) fNil))))) sSkip)
    (sRet (fIf (fTest (fBin gEq (fVar 0) (fC (.str "odd ring")))) (fBin gFdiv (fBin gMul (fVar 2) (fVar 2)) (fC (.int 4))) (fBin gFdiv (fBin gMul (fC (.int 3)) (fBin gSubI (fVar 2) (fC (.int 1)))) (fC (.int 2)))))))
def d_most_rings (c_pairs_of : FD) : FD := runD 5 (b_most_rings c_pairs_of)
theorem ok_most_rings {c_pairs_of : FD} {k : Nat} (T : Txt w K mg ct C_Thing) (C_pairs_of : Callee P w K mg base ct k "pairs_of" 1 c_pairs_of) : Callee P w K mg base ct (k + 1) "most_rings" 3 (d_most_rings c_pairs_of) :=
  callee_of T.d_most_rings sc_most_rings fun f cdv A outer s H E hr =>
    (sss_cons (ss_if (st_cmp (op_eqAll hr) od_eq (se_var 2) se_int (nomark _)) (sss_one (ss_ret se_int)) sss_nil)
      (sss_cons (ss_if (st_cmp (op_eqAll hr) od_eq (se_var 0) se_str (nomark _)) (sss_cons (ss_par (i := 3) (j := 4) (fun ta h => ps_par rfl sc_most_rings.nd rfl rfl (by decide) rfl rfl h (by rfl)) (sa_cons (se_op op_fdivW od_fdiv (se_op op_sub od_sub (se_var 2) se_int) (se_op op_sub od_sub (se_var 1) se_int)) (sa_cons (se_op op_mod od_mod (se_op op_sub od_sub (se_var 2) se_int) (se_op op_sub od_sub (se_var 1) se_int)) sa_nil)))
      (sss_one (ss_ret (se_op op_addAll od_add (se_op op_mulW od_mul (se_var 3) (se_fn C_pairs_of hr (by rfl) (sa_cons (se_op op_sub od_sub (se_var 1) se_int) sa_nil) (fCons_len (fun _ _ _ _ h => fNil_len h)))) (se_fn C_pairs_of hr (by rfl) (sa_cons (se_op op_addAll od_add (se_var 4) se_int) sa_nil) (fCons_len (fun _ _ _ _ h => fNil_len h))))))) sss_nil)
      (sss_one (ss_ret (se_if (st_cmp (op_eqAll hr) od_eq (se_var 0) se_str (nomark _)) (se_op op_fdivW od_fdiv (se_op op_mulW od_mul (se_var 2) (se_var 2)) se_int) (se_op op_fdivW od_fdiv (se_op op_mulW od_mul se_int (se_op op_sub od_sub (se_var 2) se_int)) se_int))))))
abbrev s_most_groups : Stmt := topS 23
theorem sc_most_groups : FnScope ["kind", "number", "people", "size", "rest"] ["kind", "number", "people"] (defScope s_most_groups) := ⟨rfl, rfl, rfl, by decide +kernel, rfl, by decide +kernel, by decide +kernel⟩
def b_most_groups (c_pairs_of : FD) : FS :=
  (sSeq (sIf (fTest (fBin gEq (fVar 0) (fC (.str "star")))) (sRet (fCall cMin2 (fCons (fCall c_pairs_of (fCons (fVar 2) fNil)) (fCons (fBin gFdiv (fBin gMul (fVar 2) (fBin gSubI (fVar 1) (fC (.int 1)))) (fC (.int 2))) fNil)))) sSkip)
    (sSeq (sPar 3 4 (fCons (fBin gFdiv (fVar 2) (fBin gSubI (fVar 1) (fC (.int 1)))) (fCons (fBin gMod (fVar 2) (fBin gSubI (fVar 1) (fC (.int 1)))) fNil)))
    (sSeq (sIf (fTest (fBin gEq (fVar 0) (fC (.str "row")))) (sRet (fBin gAdd (fBin gMul (fVar 3) (fCall c_pairs_of (fCons (fBin gSubI (fVar 1) (fC (.int 1))) fNil))) (fCall c_pairs_of (fCons (fVar 4) fNil)))) sSkip)
    (sRet (fBin gSubI (fBin gSubI (fCall c_pairs_of (fCons (fVar 2) fNil)) (fBin gMul (fVar 4) (fCall c_pairs_of (fCons (fBin gAdd (fVar 3) (fC (.int 1))) fNil)))) (fBin gMul (fBin gSubI (fBin gSubI (fVar 1) (fC (.int 1))) (fVar 4)) (fCall c_pairs_of (fCons (fVar 3) fNil))))))))
def d_most_groups (c_pairs_of : FD) : FD := runD 5 (b_most_groups c_pairs_of)
theorem ok_most_groups {c_pairs_of : FD} {k : Nat} (T : Txt w K mg ct C_Thing) (C_pairs_of : Callee P w K mg base ct k "pairs_of" 1 c_pairs_of) : Callee P w K mg base ct (k + 1) "most_groups" 3 (d_most_groups c_pairs_of) :=
  callee_of T.d_most_groups sc_most_groups fun f cdv A outer s H E hr =>
    (sss_cons (ss_if (st_cmp (op_eqAll hr) od_eq (se_var 0) se_str (nomark _)) (sss_one (ss_ret (se_callB (call_min2 rfl) cd_min2 (by rfl) T.n_min (by decide +kernel) (sa_cons (se_fn C_pairs_of hr (by rfl) (sa_cons (se_var 2) sa_nil) (fCons_len (fun _ _ _ _ h => fNil_len h))) (sa_cons (se_op op_fdivW od_fdiv (se_op op_mulW od_mul (se_var 2) (se_op op_sub od_sub (se_var 1) se_int)) se_int) sa_nil))))) sss_nil)
      (sss_cons (ss_par (i := 3) (j := 4) (fun ta h => ps_par rfl sc_most_groups.nd rfl rfl (by decide) rfl rfl h (by rfl)) (sa_cons (se_op op_fdivW od_fdiv (se_var 2) (se_op op_sub od_sub (se_var 1) se_int)) (sa_cons (se_op op_mod od_mod (se_var 2) (se_op op_sub od_sub (se_var 1) se_int)) sa_nil)))
      (sss_cons (ss_if (st_cmp (op_eqAll hr) od_eq (se_var 0) se_str (nomark _)) (sss_one (ss_ret (se_op op_addAll od_add (se_op op_mulW od_mul (se_var 3) (se_fn C_pairs_of hr (by rfl) (sa_cons (se_op op_sub od_sub (se_var 1) se_int) sa_nil) (fCons_len (fun _ _ _ _ h => fNil_len h)))) (se_fn C_pairs_of hr (by rfl) (sa_cons (se_var 4) sa_nil) (fCons_len (fun _ _ _ _ h => fNil_len h)))))) sss_nil)
      (sss_one (ss_ret (se_op op_sub od_sub (se_op op_sub od_sub (se_fn C_pairs_of hr (by rfl) (sa_cons (se_var 2) sa_nil) (fCons_len (fun _ _ _ _ h => fNil_len h))) (se_op op_mulW od_mul (se_var 4) (se_fn C_pairs_of hr (by rfl) (sa_cons (se_op op_addAll od_add (se_var 3) se_int) sa_nil) (fCons_len (fun _ _ _ _ h => fNil_len h))))) (se_op op_mulW od_mul (se_op op_sub od_sub (se_op op_sub od_sub (se_var 1) se_int) (se_var 4)) (se_fn C_pairs_of hr (by rfl) (sa_cons (se_var 3) sa_nil) (fCons_len (fun _ _ _ _ h => fNil_len h))))))))))
abbrev s_is_all_tied : Stmt := topS 25
theorem sc_is_all_tied : FnScope ["kind", "number", "people"] ["kind", "number", "people"] (defScope s_is_all_tied) := ⟨rfl, rfl, rfl, by decide +kernel, rfl, by decide +kernel, by decide +kernel⟩
def b_is_all_tied : FS :=
  (sSeq (sIf (fTest (fBin gEq (fVar 0) (fC (.str "pairs")))) (sRet (fBin gLt (fVar 2) (fBin gMul (fC (.int 2)) (fVar 1)))) sSkip)
    (sRet (fIf (fTest (fBin gEq (fVar 0) (fC (.str "core")))) (fBin gLt (fVar 2) (fVar 1)) (fBin gLe (fVar 2) (fVar 1)))))
def d_is_all_tied : FD := runD 3 (b_is_all_tied)
theorem ok_is_all_tied {k : Nat} (T : Txt w K mg ct C_Thing) : Callee P w K mg base ct (k + 1) "is_all_tied" 3 (d_is_all_tied) :=
  callee_of T.d_is_all_tied sc_is_all_tied fun f cdv A outer s H E hr =>
    (sss_cons (ss_if (st_cmp (op_eqAll hr) od_eq (se_var 0) se_str (nomark _)) (sss_one (ss_ret (se_cmp op_lt od_lt (se_var 2) (se_op op_mulW od_mul se_int (se_var 1)) (nomark _)))) sss_nil)
      (sss_one (ss_ret (se_if (st_cmp (op_eqAll hr) od_eq (se_var 0) se_str (nomark _)) (se_cmp op_lt od_lt (se_var 2) (se_var 1) (nomark _)) (se_cmp op_le od_le (se_var 2) (se_var 1) (nomark _))))))
abbrev s_most_of : Stmt := topS 24
theorem sc_most_of : FnScope ["kind", "number", "people"] ["kind", "number", "people"] (defScope s_most_of) := ⟨rfl, rfl, rfl, by decide +kernel, rfl, by decide +kernel, by decide +kernel⟩
def b_most_of (c_pairs_of : FD) (c_most_pairs : FD) (c_is_all_tied : FD) (c_most_groups : FD) (c_most_rings : FD) : FS :=
  (sSeq (sIf (fTest (fBin gIn (fC (.str "ring")) (fVar 0))) (sRet (fCall c_most_rings (fCons (fVar 0) (fCons (fVar 1) (fCons (fVar 2) fNil))))) sSkip)
    (sSeq (sIf (fTest (fBin gIn (fVar 0) (fTup (fCons (fC (.str "crowd")) (fCons (fC (.str "star")) (fCons (fC (.str "row")) fNil)))))) (sRet (fCall c_most_groups (fCons (fVar 0) (fCons (fVar 1) (fCons (fVar 2) fNil))))) sSkip)
    (sSeq (sIf (fTest (fCall c_is_all_tied (fCons (fVar 0) (fCons (fVar 1) (fCons (fVar 2) fNil))))) (sRet (fCall c_pairs_of (fCons (fVar 2) fNil))) sSkip)
    (sSeq (sIf (fTest (fBin gEq (fVar 0) (fC (.str "pairs")))) (sRet (fCall cMaxT (fCons (fCall c_most_pairs (fCons (fVar 1) (fCons (fVar 2) fNil))) fNil))) sSkip)
    (sSeq (sIf (fTest (fBin gEq (fVar 0) (fC (.str "core")))) (sRet (fBin gSubI (fBin gMul (fBin gSubI (fVar 1) (fC (.int 1))) (fVar 2)) (fCall c_pairs_of (fCons (fVar 1) fNil)))) sSkip)
    (sRet (fBin gSubI (fBin gAdd (fCall c_pairs_of (fCons (fBin gSubI (fVar 2) (fC (.int 1))) fNil)) (fVar 1)) (fC (.int 1)))))))))
def d_most_of (c_pairs_of : FD) (c_most_pairs : FD) (c_is_all_tied : FD) (c_most_groups : FD) (c_most_rings : FD) : FD := runD 3 (b_most_of c_pairs_of c_most_pairs c_is_all_tied c_most_groups c_most_rings)
theorem ok_most_of {c_pairs_of : FD} {c_most_pairs : FD} {c_is_all_tied : FD} {c_most_groups : FD} {c_most_rings : FD} {k : Nat} (T : Txt w K mg ct C_Thing) (C_pairs_of : Callee P w K mg base ct k "pairs_of" 1 c_pairs_of) (C_most_pairs : Callee P w K mg base ct k "most_pairs" 2 c_most_pairs) (C_is_all_tied : Callee P w K mg base ct k "is_all_tied" 3 c_is_all_tied) (C_most_groups : Callee P w K mg base ct k "most_groups" 3 c_most_groups) (C_most_rings : Callee P w K mg base ct k "most_rings" 3 c_most_rings) : Callee P w K mg base ct (k + 1) "most_of" 3 (d_most_of c_pairs_of c_most_pairs c_is_all_tied c_most_groups c_most_rings) :=
  callee_of T.d_most_of sc_most_of fun f cdv A outer s H E hr =>
    (sss_cons (ss_if (st_cmp op_inAll od_in se_str (se_var 0) (by rfl)) (sss_one (ss_ret (se_fn C_most_rings hr (by rfl) (sa_cons (se_var 0) (sa_cons (se_var 1) (sa_cons (se_var 2) sa_nil))) (fCons_len (fCons_len (fCons_len (fun _ _ _ _ h => fNil_len h))))))) sss_nil)
      (sss_cons (ss_if (st_cmp op_inAll od_in (se_var 0) (se_tup (sa_cons se_str (sa_cons se_str (sa_cons se_str sa_nil)))) (by rfl)) (sss_one (ss_ret (se_fn C_most_groups hr (by rfl) (sa_cons (se_var 0) (sa_cons (se_var 1) (sa_cons (se_var 2) sa_nil))) (fCons_len (fCons_len (fCons_len (fun _ _ _ _ h => fNil_len h))))))) sss_nil)
      (sss_cons (ss_if (st_val (se_fn C_is_all_tied hr (by rfl) (sa_cons (se_var 0) (sa_cons (se_var 1) (sa_cons (se_var 2) sa_nil))) (fCons_len (fCons_len (fCons_len (fun _ _ _ _ h => fNil_len h)))))) (sss_one (ss_ret (se_fn C_pairs_of hr (by rfl) (sa_cons (se_var 2) sa_nil) (fCons_len (fun _ _ _ _ h => fNil_len h))))) sss_nil)
      (sss_cons (ss_if (st_cmp (op_eqAll hr) od_eq (se_var 0) se_str (nomark _)) (sss_one (ss_ret (se_callB (cr_maxT rfl) cd_maxT (by rfl) T.n_max (by decide +kernel) (sa_cons (se_fn C_most_pairs hr (by rfl) (sa_cons (se_var 1) (sa_cons (se_var 2) sa_nil)) (fCons_len (fCons_len (fun _ _ _ _ h => fNil_len h)))) sa_nil)))) sss_nil)
      (sss_cons (ss_if (st_cmp (op_eqAll hr) od_eq (se_var 0) se_str (nomark _)) (sss_one (ss_ret (se_op op_sub od_sub (se_op op_mulW od_mul (se_op op_sub od_sub (se_var 1) se_int) (se_var 2)) (se_fn C_pairs_of hr (by rfl) (sa_cons (se_var 1) sa_nil) (fCons_len (fun _ _ _ _ h => fNil_len h)))))) sss_nil)
      (sss_one (ss_ret (se_op op_sub od_sub (se_op op_addAll od_add (se_fn C_pairs_of hr (by rfl) (sa_cons (se_op op_sub od_sub (se_var 2) se_int) sa_nil) (fCons_len (fun _ _ _ _ h => fNil_len h))) (se_var 1)) se_int))))))))
abbrev s_is_star_tie : Stmt := topS 26
theorem sc_is_star_tie : FnScope ["number", "people", "one", "other", "far"] ["number", "people", "one", "other"] (defScope s_is_star_tie) := ⟨rfl, rfl, rfl, by decide +kernel, rfl, by decide +kernel, by decide +kernel⟩
def b_is_star_tie : FS :=
  (sSeq (sAsg (fBin gSubI (fVar 3) (fVar 2)) (gN 4))
    (sSeq (sIf (fTest (fBin gLe (fCall cMin2 (fCons (fVar 4) (fCons (fBin gSubI (fVar 1) (fVar 4)) fNil))) (fBin gFdiv (fBin gSubI (fVar 0) (fC (.int 1))) (fC (.int 2))))) (sRet (fC (.bl true))) sSkip)
    (sSeq (sIf (tOrD (fTest (fBin gEq (fBin gMod (fVar 0) (fC (.int 2))) (fC (.int 1)))) (fTest (fBin gNe (fVar 4) (fBin gFdiv (fVar 1) (fC (.int 2)))))) (sRet (fC (.bl false))) sSkip)
    (sRet (fOr (fBin gEq (fBin gMod (fVar 1) (fC (.int 2))) (fC (.int 0))) (fBin gLt (fVar 2) (fBin gFdiv (fVar 1) (fC (.int 2)))))))))
def d_is_star_tie : FD := runD 5 (b_is_star_tie)
theorem ok_is_star_tie {k : Nat} (T : Txt w K mg ct C_Thing) : Callee P w K mg base ct (k + 1) "is_star_tie" 4 (d_is_star_tie) :=
  callee_of T.d_is_star_tie sc_is_star_tie fun f cdv A outer s H E hr =>
    (sss_cons (ss_set (i := 4) sc_is_star_tie.nd rfl (Or.inl rfl) (se_op op_sub od_sub (se_var 3) (se_var 2)))
      (sss_cons (ss_if (st_cmp op_le od_le (se_callB (call_min2 rfl) cd_min2 (by rfl) T.n_min (by decide +kernel) (sa_cons (se_var 4) (sa_cons (se_op op_sub od_sub (se_var 1) (se_var 4)) sa_nil))) (se_op op_fdivW od_fdiv (se_op op_sub od_sub (se_var 0) se_int) se_int) (nomark _)) (sss_one (ss_ret se_bl)) sss_nil)
      (sss_cons (ss_if (SW.st (sw_or (st_cmp (op_eqAll hr) od_eq (se_op op_mod od_mod (se_var 0) se_int) se_int (nomark _)) (sw_or1 (st_cmp (op_neAll hr) od_ne (se_var 4) (se_op op_fdivW od_fdiv (se_var 1) se_int) (nomark _))))) (sss_one (ss_ret se_bl)) sss_nil)
      (sss_one (ss_ret (se_or (se_cmp (op_eqAll hr) od_eq (se_op op_mod od_mod (se_var 1) se_int) se_int (nomark _)) (se_one (se_cmp op_lt od_lt (se_var 2) (se_op op_fdivW od_fdiv (se_var 1) se_int) (nomark _)))))))))
abbrev s_is_ring_tie : Stmt := topS 27
theorem sc_is_ring_tie : FnScope ["kind", "number", "one", "other"] ["kind", "number", "one", "other"] (defScope s_is_ring_tie) := ⟨rfl, rfl, rfl, by decide +kernel, rfl, by decide +kernel, by decide +kernel⟩
def b_is_ring_tie : FS :=
  (sSeq (sIf (fTest (fBin gEq (fVar 0) (fC (.str "ring")))) (sRet (fOr (fBin gEq (fVar 2) (fC (.int 0))) (fBin gEq (fBin gFdiv (fBin gSubI (fVar 2) (fC (.int 1))) (fBin gSubI (fVar 1) (fC (.int 2)))) (fBin gFdiv (fBin gSubI (fVar 3) (fC (.int 1))) (fBin gSubI (fVar 1) (fC (.int 2))))))) sSkip)
    (sSeq (sIf (fTest (fBin gEq (fVar 0) (fC (.str "odd ring")))) (sRet (fBin gNe (fBin gMod (fVar 2) (fC (.int 2))) (fBin gMod (fVar 3) (fC (.int 2))))) sSkip)
    (sRet (fOr (fBin gEq (fVar 2) (fC (.int 0))) (fAnd (fBin gEq (fBin gMod (fVar 2) (fC (.int 2))) (fC (.int 1))) (fBin gEq (fVar 3) (fBin gAdd (fVar 2) (fC (.int 1)))))))))
def d_is_ring_tie : FD := runD 4 (b_is_ring_tie)
theorem ok_is_ring_tie {k : Nat} (T : Txt w K mg ct C_Thing) : Callee P w K mg base ct (k + 1) "is_ring_tie" 4 (d_is_ring_tie) :=
  callee_of T.d_is_ring_tie sc_is_ring_tie fun f cdv A outer s H E hr =>
    (sss_cons (ss_if (st_cmp (op_eqAll hr) od_eq (se_var 0) se_str (nomark _)) (sss_one (ss_ret (se_or (se_cmp (op_eqAll hr) od_eq (se_var 2) se_int (nomark _)) (se_one (se_cmp (op_eqAll hr) od_eq (se_op op_fdivW od_fdiv (se_op op_sub od_sub (se_var 2) se_int) (se_op op_sub od_sub (se_var 1) se_int)) (se_op op_fdivW od_fdiv (se_op op_sub od_sub (se_var 3) se_int) (se_op op_sub od_sub (se_var 1) se_int)) (nomark _)))))) sss_nil)
      (sss_cons (ss_if (st_cmp (op_eqAll hr) od_eq (se_var 0) se_str (nomark _)) (sss_one (ss_ret (se_cmp (op_neAll hr) od_ne (se_op op_mod od_mod (se_var 2) se_int) (se_op op_mod od_mod (se_var 3) se_int) (nomark _)))) sss_nil)
      (sss_one (ss_ret (se_or (se_cmp (op_eqAll hr) od_eq (se_var 2) se_int (nomark _)) (se_one (se_and (se_cmp (op_eqAll hr) od_eq (se_op op_mod od_mod (se_var 2) se_int) se_int (nomark _)) (se_one (se_cmp (op_eqAll hr) od_eq (se_var 3) (se_op op_addAll od_add (se_var 2) se_int) (nomark _))))))))))
abbrev s_is_rule_tie : Stmt := topS 28
theorem sc_is_rule_tie : FnScope ["kind", "number", "people", "one", "other", "few", "all_with"] ["kind", "number", "people", "one", "other"] (defScope s_is_rule_tie) := ⟨rfl, rfl, rfl, by decide +kernel, rfl, by decide +kernel, by decide +kernel⟩
def b_is_rule_tie (c_most_pairs : FD) (c_is_star_tie : FD) (c_is_all_tied : FD) (c_is_ring_tie : FD) : FS :=
  (sSeq (sIf (fTest (fBin gIn (fC (.str "ring")) (fVar 0))) (sRet (fCall c_is_ring_tie (fCons (fVar 0) (fCons (fVar 1) (fCons (fVar 3) (fCons (fVar 4) fNil)))))) sSkip)
    (sSeq (sIf (fTest (fBin gEq (fVar 0) (fC (.str "crowd")))) (sRet (fBin gNe (fBin gMod (fVar 3) (fBin gSubI (fVar 1) (fC (.int 1)))) (fBin gMod (fVar 4) (fBin gSubI (fVar 1) (fC (.int 1)))))) sSkip)
    (sSeq (sIf (fTest (fBin gEq (fVar 0) (fC (.str "row")))) (sRet (fBin gEq (fBin gFdiv (fVar 3) (fBin gSubI (fVar 1) (fC (.int 1)))) (fBin gFdiv (fVar 4) (fBin gSubI (fVar 1) (fC (.int 1)))))) sSkip)
    (sSeq (sIf (fTest (fCall c_is_all_tied (fCons (fVar 0) (fCons (fVar 1) (fCons (fVar 2) fNil))))) (sRet (fC (.bl true))) sSkip)
    (sSeq (sIf (fTest (fBin gEq (fVar 0) (fC (.str "star")))) (sRet (fCall c_is_star_tie (fCons (fVar 1) (fCons (fVar 2) (fCons (fVar 3) (fCons (fVar 4) fNil)))))) sSkip)
    (sSeq (sIf (fTest (fBin gEq (fVar 0) (fC (.str "linked")))) (sRet (fOr (fBin gNe (fVar 4) (fBin gSubI (fVar 2) (fC (.int 1)))) (fBin gLt (fVar 3) (fBin gSubI (fVar 1) (fC (.int 1)))))) sSkip)
    (sSeq (sIf (fTest (fBin gEq (fVar 0) (fC (.str "pairs")))) (sSeq (sAsg (fCall c_most_pairs (fCons (fVar 1) (fCons (fVar 2) fNil))) (gTup 2 (gCons (gN 5) (gCons (gN 6) gNil))))
    (sRet (fIf (fTest (fBin gGe (fVar 5) (fVar 6))) (fBin gLt (fVar 4) (fBin gSubI (fBin gMul (fC (.int 2)) (fVar 1)) (fC (.int 1)))) (fBin gLt (fVar 3) (fBin gSubI (fVar 1) (fC (.int 1))))))) sSkip)
    (sRet (fBin gLt (fVar 3) (fBin gSubI (fVar 1) (fC (.int 1))))))))))))
def d_is_rule_tie (c_most_pairs : FD) (c_is_star_tie : FD) (c_is_all_tied : FD) (c_is_ring_tie : FD) : FD := runD 7 (b_is_rule_tie c_most_pairs c_is_star_tie c_is_all_tied c_is_ring_tie)
theorem ok_is_rule_tie {c_most_pairs : FD} {c_is_star_tie : FD} {c_is_all_tied : FD} {c_is_ring_tie : FD} {k : Nat} (T : Txt w K mg ct C_Thing) (C_most_pairs : Callee P w K mg base ct k "most_pairs" 2 c_most_pairs) (C_is_star_tie : Callee P w K mg base ct k "is_star_tie" 4 c_is_star_tie) (C_is_all_tied : Callee P w K mg base ct k "is_all_tied" 3 c_is_all_tied) (C_is_ring_tie : Callee P w K mg base ct k "is_ring_tie" 4 c_is_ring_tie) : Callee P w K mg base ct (k + 1) "is_rule_tie" 5 (d_is_rule_tie c_most_pairs c_is_star_tie c_is_all_tied c_is_ring_tie) :=
  callee_of T.d_is_rule_tie sc_is_rule_tie fun f cdv A outer s H E hr =>
    (sss_cons (ss_if (st_cmp op_inAll od_in se_str (se_var 0) (by rfl)) (sss_one (ss_ret (se_fn C_is_ring_tie hr (by rfl) (sa_cons (se_var 0) (sa_cons (se_var 1) (sa_cons (se_var 3) (sa_cons (se_var 4) sa_nil)))) (fCons_len (fCons_len (fCons_len (fCons_len (fun _ _ _ _ h => fNil_len h)))))))) sss_nil)
      (sss_cons (ss_if (st_cmp (op_eqAll hr) od_eq (se_var 0) se_str (nomark _)) (sss_one (ss_ret (se_cmp (op_neAll hr) od_ne (se_op op_mod od_mod (se_var 3) (se_op op_sub od_sub (se_var 1) se_int)) (se_op op_mod od_mod (se_var 4) (se_op op_sub od_sub (se_var 1) se_int)) (nomark _)))) sss_nil)
      (sss_cons (ss_if (st_cmp (op_eqAll hr) od_eq (se_var 0) se_str (nomark _)) (sss_one (ss_ret (se_cmp (op_eqAll hr) od_eq (se_op op_fdivW od_fdiv (se_var 3) (se_op op_sub od_sub (se_var 1) se_int)) (se_op op_fdivW od_fdiv (se_var 4) (se_op op_sub od_sub (se_var 1) se_int)) (nomark _)))) sss_nil)
      (sss_cons (ss_if (st_val (se_fn C_is_all_tied hr (by rfl) (sa_cons (se_var 0) (sa_cons (se_var 1) (sa_cons (se_var 2) sa_nil))) (fCons_len (fCons_len (fCons_len (fun _ _ _ _ h => fNil_len h)))))) (sss_one (ss_ret se_bl)) sss_nil)
      (sss_cons (ss_if (st_cmp (op_eqAll hr) od_eq (se_var 0) se_str (nomark _)) (sss_one (ss_ret (se_fn C_is_star_tie hr (by rfl) (sa_cons (se_var 1) (sa_cons (se_var 2) (sa_cons (se_var 3) (sa_cons (se_var 4) sa_nil)))) (fCons_len (fCons_len (fCons_len (fCons_len (fun _ _ _ _ h => fNil_len h)))))))) sss_nil)
      (sss_cons (ss_if (st_cmp (op_eqAll hr) od_eq (se_var 0) se_str (nomark _)) (sss_one (ss_ret (se_or (se_cmp (op_neAll hr) od_ne (se_var 4) (se_op op_sub od_sub (se_var 2) se_int) (nomark _)) (se_one (se_cmp op_lt od_lt (se_var 3) (se_op op_sub od_sub (se_var 1) se_int) (nomark _)))))) sss_nil)
      (sss_cons (ss_if (st_cmp (op_eqAll hr) od_eq (se_var 0) se_str (nomark _)) (sss_cons (ss_asg (se_fn C_most_pairs hr (by rfl) (sa_cons (se_var 1) (sa_cons (se_var 2) sa_nil)) (fCons_len (fCons_len (fun _ _ _ _ h => fNil_len h)))) (sg_tup rfl (sgs_cons (sg_name (i := 5) sc_is_rule_tie.nd rfl (Or.inl rfl)) (sgs_cons (sg_name (i := 6) sc_is_rule_tie.nd rfl (Or.inl rfl)) sgs_nil))))
      (sss_one (ss_ret (se_if (st_cmp op_ge od_ge (se_var 5) (se_var 6) (nomark _)) (se_cmp op_lt od_lt (se_var 4) (se_op op_sub od_sub (se_op op_mulW od_mul se_int (se_var 1)) se_int) (nomark _)) (se_cmp op_lt od_lt (se_var 3) (se_op op_sub od_sub (se_var 1) se_int) (nomark _)))))) sss_nil)
      (sss_one (ss_ret (se_cmp op_lt od_lt (se_var 3) (se_op op_sub od_sub (se_var 1) se_int) (nomark _)))))))))))
abbrev s_Thing___init__ : Stmt := inClass (topS 32) 0
theorem sc_Thing___init__ : FnScope ["self", "kind", "size"] ["self", "kind", "size"] (defScope s_Thing___init__) := ⟨rfl, rfl, rfl, by decide +kernel, rfl, by decide +kernel, by decide +kernel⟩
def b_Thing___init__ (c_is_between : FD) : FS :=
  (sSeq (sIf (tOrD (tNotD (fTest (fIsi "str" (fVar 1)))) (tAndD (fTest (fKIn true tab_LEAST (fVar 1))) (fTest (fBin gNotIn (fVar 1) (fC (.tup [.str "odd ring", .str "even ring"])))))) sNever sSkip)
    (sSeq (sIf (tOrD (tAndD (fTest (fBin gIn (fVar 1) (fC (.tup [.str "odd ring", .str "even ring"])))) (fTest (fBin gNotN (fVar 2) (fC .non)))) (tAndD (fTest (fKIn false tab_LEAST (fVar 1))) (tNotD (fTest (fCall c_is_between (fCons (fVar 2) (fCons (fKIx tab_LEAST (fVar 1)) (fCons (fC (.int 10000000000000000000000000000000000000000)) fNil)))))))) sNever sSkip)
    (sSeq (sFldD "Thing" "word" (fVar 0) (fVar 1))
    (sFldD "Thing" "many" (fVar 0) (fVar 2)))))
def d_Thing___init__ (c_is_between : FD) : FD := runD 3 (b_Thing___init__ c_is_between)
theorem ok_Thing___init__ {c_is_between : FD} {k : Nat} (T : Txt w K mg ct C_Thing) (C_is_between : Callee P w K mg base ct k "is_between" 3 c_is_between) : Initer P w K mg base ct (k + 1) "Thing" [.non] 3 (d_Thing___init__ c_is_between) :=
  initer_of T.kc_Thing T.g_Thing T.i_Thing sc_Thing___init__ fun f cdv A outer s H E hr =>
    (sss_cons (ss_if (SW.st (sw_or (st_not (st_val (se_isi (by rfl) T.n_isinstance (se_var 1) (by rfl) T.n_str (by decide +kernel)))) (sw_or1 (SW.st (sw_and (st_knotinG T.k_LEAST (by rfl) (se_var 1)) (sw_and1 (st_cmp op_notInAll od_notIn (se_var 1) (se_globT (ds := [.str "odd ring", .str "even ring"]) (vs := [.str "odd ring", .str "even ring"]) (by rfl) T.t_PLAIN (fun _ _ => ⟨_, _, rfl, rfl, ⟨_, _, rfl, rfl, rfl⟩⟩)) (by rfl)))))))) (sss_one ss_never) sss_nil)
      (sss_cons (ss_if (SW.st (sw_or (SW.st (sw_and (st_cmp op_inAll od_in (se_var 1) (se_globT (ds := [.str "odd ring", .str "even ring"]) (vs := [.str "odd ring", .str "even ring"]) (by rfl) T.t_PLAIN (fun _ _ => ⟨_, _, rfl, rfl, ⟨_, _, rfl, rfl, rfl⟩⟩)) (by rfl)) (sw_and1 (st_cmp op_notN od_notN (se_var 2) se_non (nomark _))))) (sw_or1 (SW.st (sw_and (st_kinG T.k_LEAST (by rfl) (se_var 1)) (sw_and1 (st_not (st_val (se_fn C_is_between hr (by rfl) (sa_cons (se_var 2) (sa_cons (se_kixG T.k_LEAST (by rfl) (se_var 1) (fun _ _ => rfl)) (sa_cons (se_globC (d := (.int 10000000000000000000000000000000000000000)) (by rfl) T.c_MOST_ASKED (fun _ _ => rfl)) sa_nil))) (fCons_len (fCons_len (fCons_len (fun _ _ _ _ h => fNil_len h))))))))))))) (sss_one ss_never) sss_nil)
      (sss_cons (ss_fld T.kc_Thing T.na_Thing_word (se_var 0) (se_var 1))
      (sss_one (ss_fld T.kc_Thing T.na_Thing_many (se_var 0) (se_var 2))))))
abbrev s_Thing_most : Stmt := inClass (topS 32) 4
theorem sc_Thing_most : FnScope ["self", "people"] ["self", "people"] (defScope s_Thing_most) := ⟨rfl, rfl, rfl, by decide +kernel, rfl, by decide +kernel, by decide +kernel⟩
def b_Thing_most (c_most_of : FD) (c_check_people : FD) : FS :=
  (sSeq (sExpr (fCall c_check_people (fCons (fVar 1) (fCons (fC (.int 10000000000000000000000000000000000000000)) fNil))))
    (sRet (fCall c_most_of (fCons (fFld "Thing" "word" (fVar 0)) (fCons (fFld "Thing" "many" (fVar 0)) (fCons (fVar 1) fNil))))))
def d_Thing_most (c_most_of : FD) (c_check_people : FD) : FD := runD 2 (b_Thing_most c_most_of c_check_people)
theorem ok_Thing_most {c_most_of : FD} {c_check_people : FD} {k : Nat} (T : Txt w K mg ct C_Thing) (C_most_of : Callee P w K mg base ct k "most_of" 3 c_most_of) (C_check_people : Callee P w K mg base ct k "check_people" 2 c_check_people) : CalleeM P w K mg base ct (k + 1) C_Thing "most" 2 (d_Thing_most c_most_of c_check_people) :=
  calleeM_of T.m_Thing_most sc_Thing_most fun f cdv A outer s H E hr =>
    (sss_cons (ss_expr (se_fn C_check_people hr (by rfl) (sa_cons (se_var 1) (sa_cons (se_globC (d := (.int 10000000000000000000000000000000000000000)) (by rfl) T.c_MOST_ASKED (fun _ _ => rfl)) sa_nil)) (fCons_len (fCons_len (fun _ _ _ _ h => fNil_len h)))))
      (sss_one (ss_ret (se_fn C_most_of hr (by rfl) (sa_cons (se_fld T.kc_Thing T.na_Thing_word (se_var 0)) (sa_cons (se_fld T.kc_Thing T.na_Thing_many (se_var 0)) (sa_cons (se_var 1) sa_nil))) (fCons_len (fCons_len (fCons_len (fun _ _ _ _ h => fNil_len h))))))))
abbrev s_Thing_tied : Stmt := inClass (topS 32) 6
theorem sc_Thing_tied : FnScope ["self", "people", "one", "other"] ["self", "people", "one", "other"] (defScope s_Thing_tied) := ⟨rfl, rfl, rfl, by decide +kernel, rfl, by decide +kernel, by decide +kernel⟩
def b_Thing_tied (c_is_rule_tie : FD) (c_check_two : FD) (c_check_people : FD) : FS :=
  (sSeq (sExpr (fCall c_check_people (fCons (fVar 1) (fCons (fC (.int 10000000000000000000000000000000000000000)) fNil))))
    (sSeq (sExpr (fCall c_check_two (fCons (fVar 2) (fCons (fVar 3) (fCons (fVar 1) fNil)))))
    (sRet (fCall c_is_rule_tie (fCons (fFld "Thing" "word" (fVar 0)) (fCons (fFld "Thing" "many" (fVar 0)) (fCons (fVar 1) (fCons (fCall cMin2 (fCons (fVar 2) (fCons (fVar 3) fNil))) (fCons (fCall cMax2 (fCons (fVar 2) (fCons (fVar 3) fNil))) fNil)))))))))
def d_Thing_tied (c_is_rule_tie : FD) (c_check_two : FD) (c_check_people : FD) : FD := runD 4 (b_Thing_tied c_is_rule_tie c_check_two c_check_people)
theorem ok_Thing_tied {c_is_rule_tie : FD} {c_check_two : FD} {c_check_people : FD} {k : Nat} (T : Txt w K mg ct C_Thing) (C_is_rule_tie : Callee P w K mg base ct k "is_rule_tie" 5 c_is_rule_tie) (C_check_two : Callee P w K mg base ct k "check_two" 3 c_check_two) (C_check_people : Callee P w K mg base ct k "check_people" 2 c_check_people) : CalleeM P w K mg base ct (k + 1) C_Thing "tied" 4 (d_Thing_tied c_is_rule_tie c_check_two c_check_people) :=
  calleeM_of T.m_Thing_tied sc_Thing_tied fun f cdv A outer s H E hr =>
    (sss_cons (ss_expr (se_fn C_check_people hr (by rfl) (sa_cons (se_var 1) (sa_cons (se_globC (d := (.int 10000000000000000000000000000000000000000)) (by rfl) T.c_MOST_ASKED (fun _ _ => rfl)) sa_nil)) (fCons_len (fCons_len (fun _ _ _ _ h => fNil_len h)))))
      (sss_cons (ss_expr (se_fn C_check_two hr (by rfl) (sa_cons (se_var 2) (sa_cons (se_var 3) (sa_cons (se_var 1) sa_nil))) (fCons_len (fCons_len (fCons_len (fun _ _ _ _ h => fNil_len h))))))
      (sss_one (ss_ret (se_fn C_is_rule_tie hr (by rfl) (sa_cons (se_fld T.kc_Thing T.na_Thing_word (se_var 0)) (sa_cons (se_fld T.kc_Thing T.na_Thing_many (se_var 0)) (sa_cons (se_var 1) (sa_cons (se_callB (call_min2 rfl) cd_min2 (by rfl) T.n_min (by decide +kernel) (sa_cons (se_var 2) (sa_cons (se_var 3) sa_nil))) (sa_cons (se_callB (call_max2 rfl) cd_max2 (by rfl) T.n_max (by decide +kernel) (sa_cons (se_var 2) (sa_cons (se_var 3) sa_nil))) sa_nil))))) (fCons_len (fCons_len (fCons_len (fCons_len (fCons_len (fun _ _ _ _ h => fNil_len h)))))))))))
abbrev s__law_purse : Stmt := topS 35
theorem sc__law_purse : FnScope ["_law_script", "_law_spot", "_law_cell", "_law_seed", "_law_one"] ["_law_script", "_law_spot"] (defScope s__law_purse) := ⟨rfl, rfl, rfl, by decide +kernel, rfl, by decide +kernel, by decide +kernel⟩
def b__law_purse : FS :=
  (sSeq (sAsg (fIf (fTest (fBin gLt (fVar 1) (fCall cLen (fCons (fVar 0) fNil)))) (fBin gIx (fVar 0) (fVar 1)) (fBin gMul (fC (.int 7919)) (fBin gAdd (fVar 1) (fC (.int 5))))) (gN 2))
    (sSeq (sAsg (fBin gAdd (fC (.int 211)) (fVar 1)) (gN 3))
    (sSeq (sFor (iLst (fBin gAdd (fSl (fVar 0) oNone (oSome (fC (.int 5)))) (fLst (fCons (fVar 2) fNil)))) (gN 4) (sAsg (fBin gMod (fCall cInt (fCons (fBin gAdd (fBin gAdd (fBin gMul (fVar 3) (fC (.int 48271))) (fBin gMod (fCall cInt (fCons (fVar 4) fNil)) (fC (.int 2147483647)))) (fC (.int 101))) fNil)) (fC (.int 2147483647))) (gN 3)))
    (sRet (fLstM (fCons (fIf (fTest (fBin gGe (fCall cAbs (fCons (fVar 2) fNil)) (fBin gPow (fC (.int 10)) (fC (.int 18))))) (fCall cAbs (fCons (fVar 2) fNil)) (fC (.int 0))) (fCons (fVar 3) fNil)))))))
def d__law_purse : FD := runD 5 (b__law_purse)
theorem ok__law_purse {k : Nat} (T : Txt w K mg ct C_Thing) : Callee P w K mg base ct (k + 1) "_law_purse" 2 (d__law_purse) :=
  callee_of T.d__law_purse sc__law_purse fun f cdv A outer s H E hr =>
    (sss_cons (ss_set (i := 2) sc__law_purse.nd rfl (Or.inl rfl) (se_if (st_cmp op_lt od_lt (se_var 1) (se_callB call_lenAll cd_len (by rfl) T.n_len (by decide +kernel) (sa_cons (se_var 0) sa_nil)) (nomark _)) (se_ix ix_seq od_ix (se_var 0) (se_var 1) (fun _ _ => rfl)) (se_op op_mulW od_mul se_int (se_op op_addAll od_add (se_var 1) se_int))))
      (sss_cons (ss_set (i := 3) sc__law_purse.nd rfl (Or.inl rfl) (se_op op_addAll od_add se_int (se_var 1)))
      (sss_cons (ss_for PassesOwn.never rfl (si_list (se_op op_addAll od_add (se_slice (se_var 0) so_none (so_some se_int)) (se_lst (sa_cons (se_var 2) sa_nil)))) (sg_name (i := 4) sc__law_purse.nd rfl (Or.inl rfl)) (sss_one (ss_set (i := 3) sc__law_purse.nd rfl (Or.inl rfl) (se_op op_mod od_mod (se_callTy call_intAll cd_int (by rfl) T.n_int (by decide +kernel) (sa_cons (se_op op_addAll od_add (se_op op_addAll od_add (se_op op_mulW od_mul (se_var 3) se_int) (se_op op_mod od_mod (se_callTy call_intAll cd_int (by rfl) T.n_int (by decide +kernel) (sa_cons (se_var 4) sa_nil)) se_int)) se_int) sa_nil)) se_int))))
      (sss_one (ss_ret (se_lstM (sa_cons (se_if (st_cmp op_ge od_ge (se_callB call_abs cd_abs (by rfl) T.n_abs (by decide +kernel) (sa_cons (se_var 2) sa_nil)) (se_op op_pow od_pow se_int se_int) (nomark _)) (se_callB call_abs cd_abs (by rfl) T.n_abs (by decide +kernel) (sa_cons (se_var 2) sa_nil)) se_int) (sa_cons (se_var 3) sa_nil))))))))
abbrev s__law_draw : Stmt := topS 36
theorem sc__law_draw : FnScope ["_law_purse_here", "_law_many", "_law_digit"] ["_law_purse_here", "_law_many"] (defScope s__law_draw) := ⟨rfl, rfl, rfl, by decide +kernel, rfl, by decide +kernel, by decide +kernel⟩
def b__law_draw : FS :=
  (sSeq (sIf (fTest (fBin gGt (fBin gIx (fVar 0) (fC (.int 0))) (fC (.int 0)))) (sSeq (sAsg (fCall cDivmod (fCons (fBin gIx (fVar 0) (fC (.int 0))) (fCons (fVar 1) fNil))) (gTup 2 (gCons (gSub gSetA (fVar 0) (fC (.int 0))) (gCons (gN 2) gNil))))
    (sRet (fVar 2))) sSkip)
    (sSeq (sAsg (fBin gMod (fCall cInt (fCons (fBin gAdd (fBin gMul (fBin gIx (fVar 0) (fC (.int 1))) (fC (.int 69621))) (fC (.int 40503))) fNil)) (fC (.int 2147483647))) (gSub gSetA (fVar 0) (fC (.int 1))))
    (sRet (fBin gMod (fCall cInt (fCons (fBin gFdiv (fBin gIx (fVar 0) (fC (.int 1))) (fC (.int 1024))) fNil)) (fVar 1)))))
def d__law_draw : FD := runD 3 (b__law_draw)
theorem ok__law_draw {k : Nat} (T : Txt w K mg ct C_Thing) : Callee P w K mg base ct (k + 1) "_law_draw" 2 (d__law_draw) :=
  callee_of T.d__law_draw sc__law_draw fun f cdv A outer s H E hr =>
    (sss_cons (ss_if (st_cmp op_gt od_gt (se_ix ix_seq od_ix (se_var 0) se_int (fun _ _ => rfl)) se_int (nomark _)) (sss_cons (ss_asg (se_callB call_divmodW cd_divmod (by rfl) T.n_divmod (by decide +kernel) (sa_cons (se_ix ix_seq od_ix (se_var 0) se_int (fun _ _ => rfl)) (sa_cons (se_var 1) sa_nil))) (sg_tup rfl (sgs_cons (sg_sub (se_var 0) se_int (set_all hr) sd_all) (sgs_cons (sg_name (i := 2) sc__law_draw.nd rfl (Or.inl rfl)) sgs_nil))))
      (sss_one (ss_ret (se_var 2)))) sss_nil)
      (sss_cons (ss_asg (se_op op_mod od_mod (se_callTy call_intAll cd_int (by rfl) T.n_int (by decide +kernel) (sa_cons (se_op op_addAll od_add (se_op op_mulW od_mul (se_ix ix_seq od_ix (se_var 0) se_int (fun _ _ => rfl)) se_int) se_int) sa_nil)) se_int) (sg_sub (se_var 0) se_int (set_all hr) sd_all))
      (sss_one (ss_ret (se_op op_mod od_mod (se_callTy call_intAll cd_int (by rfl) T.n_int (by decide +kernel) (sa_cons (se_op op_fdivW od_fdiv (se_ix ix_seq od_ix (se_var 0) se_int (fun _ _ => rfl)) se_int) sa_nil)) (se_var 1))))))
abbrev s__law_all : Stmt := topS 37
theorem sc__law_all : FnScope ["_law_many", "_law_found", "_law_x", "_law_y"] ["_law_many"] (defScope s__law_all) := ⟨rfl, rfl, rfl, by decide +kernel, rfl, by decide +kernel, by decide +kernel⟩
def b__law_all : FS :=
  (sSeq (sAsg (fLst fNil) (gN 1))
    (sSeq (sFor (iRange1 (fCons (fVar 0) fNil)) (gN 2) (sAsg (fBin gAdd (fVar 1) (fLc (iRange2 (fCons (fBin gAdd (fVar 2) (fC (.int 1))) (fCons (fVar 0) fNil))) (gN 3) tYesD (fTup (fCons (fVar 2) (fCons (fVar 3) fNil))) [3])) (gN 1)))
    (sRet (fCall cTuple (fCons (fVar 1) fNil)))))
def d__law_all : FD := runD 4 (b__law_all)
theorem ok__law_all {k : Nat} (T : Txt w K mg ct C_Thing) : Callee P w K mg base ct (k + 1) "_law_all" 1 (d__law_all) :=
  callee_of T.d__law_all sc__law_all fun f cdv A outer s H E hr =>
    (sss_cons (ss_set (i := 1) sc__law_all.nd rfl (Or.inl rfl) (se_lst sa_nil))
      (sss_cons (ss_for PassesOwn.never rfl (si_range1 (by rfl) T.n_range (sa_cons (se_var 0) sa_nil)) (sg_name (i := 2) sc__law_all.nd rfl (Or.inr rfl)) (sss_one (ss_set (i := 1) sc__law_all.nd rfl (Or.inl rfl) (se_op op_addAll od_add (se_var 1) (se_lc (own := [("_law_y", 3)]) rfl sc__law_all.nd (si_range2 (by rfl) T.n_range (sa_cons (se_op op_addAll od_add (se_var 2) se_int) (sa_cons (se_var 0) sa_nil))) (blkOk_by (own := [("_law_y", 3)]) (N := ["_law_many", "_law_found", "_law_x", "_law_y"]) (sc := defScope s__law_all) (by decide +kernel)) (fun _ _ _ _ _ => (sgw_name (i := 3) sc__law_all.nd rfl (Or.inl rfl) (by decide))) (fun _ _ _ _ _ => sts_nil) (fun _ _ _ _ _ => (se_tup (sa_cons (se_var 2) (sa_cons (se_var 3) sa_nil)))))))))
      (sss_one (ss_ret (se_callTy call_tuple_of cd_tuple (by rfl) T.n_tuple (by decide +kernel) (sa_cons (se_var 1) sa_nil))))))
abbrev s__law_two : Stmt := topS 38
theorem sc__law_two : FnScope ["_law_many"] ["_law_many"] (defScope s__law_two) := ⟨rfl, rfl, rfl, by decide +kernel, rfl, by decide +kernel, by decide +kernel⟩
def b__law_two : FS :=
  (sRet (fBin gFdiv (fBin gMul (fVar 0) (fBin gSubI (fVar 0) (fC (.int 1)))) (fC (.int 2))))
def d__law_two : FD := runD 1 (b__law_two)
theorem ok__law_two {k : Nat} (T : Txt w K mg ct C_Thing) : Callee P w K mg base ct (k + 1) "_law_two" 1 (d__law_two) :=
  callee_of T.d__law_two sc__law_two fun f cdv A outer s H E hr =>
    (sss_one (ss_ret (se_op op_fdivW od_fdiv (se_op op_mulW od_mul (se_var 0) (se_op op_sub od_sub (se_var 0) se_int)) se_int)))
abbrev s__law_most : Stmt := topS 39
theorem sc__law_most : FnScope ["_law_kind", "_law_k", "_law_n", "_law_size", "_law_rest", "_law_more"] ["_law_kind", "_law_k", "_law_n"] (defScope s__law_most) := ⟨rfl, rfl, rfl, by decide +kernel, rfl, by decide +kernel, by decide +kernel⟩
def b__law_most (c__law_two : FD) : FS :=
  (sSeq (sIf (fTest (fBin gEq (fVar 0) (fC (.str "crowd")))) (sSeq (sPar 3 4 (fCons (fBin gFdiv (fVar 2) (fBin gSubI (fVar 1) (fC (.int 1)))) (fCons (fBin gMod (fCall cInt (fCons (fVar 2) fNil)) (fBin gSubI (fVar 1) (fC (.int 1)))) fNil)))
    (sRet (fBin gSubI (fBin gSubI (fCall c__law_two (fCons (fVar 2) fNil)) (fBin gMul (fVar 4) (fCall c__law_two (fCons (fBin gAdd (fVar 3) (fC (.int 1))) fNil)))) (fBin gMul (fBin gSubI (fBin gSubI (fVar 1) (fC (.int 1))) (fVar 4)) (fCall c__law_two (fCons (fVar 3) fNil)))))) sSkip)
    (sSeq (sIf (fTest (fBin gEq (fVar 0) (fC (.str "star")))) (sRet (fCall cMin2 (fCons (fCall c__law_two (fCons (fVar 2) fNil)) (fCons (fBin gFdiv (fBin gMul (fVar 2) (fBin gSubI (fVar 1) (fC (.int 1)))) (fC (.int 2))) fNil)))) sSkip)
    (sSeq (sIf (fTest (fBin gEq (fVar 0) (fC (.str "pairs")))) (sSeq (sAsg (fBin gAdd (fCall c__law_two (fCons (fBin gSubI (fVar 1) (fC (.int 1))) fNil)) (fBin gMul (fBin gSubI (fVar 1) (fC (.int 1))) (fBin gAdd (fBin gSubI (fVar 2) (fVar 1)) (fC (.int 1))))) (gN 5))
    (sRet (fIf (fTest (fBin gLt (fVar 2) (fBin gMul (fC (.int 2)) (fVar 1)))) (fCall c__law_two (fCons (fVar 2) fNil)) (fCall cMax2 (fCons (fCall c__law_two (fCons (fBin gSubI (fBin gMul (fC (.int 2)) (fVar 1)) (fC (.int 1))) fNil)) (fCons (fVar 5) fNil)))))) sSkip)
    (sSeq (sIf (fTest (fBin gEq (fVar 0) (fC (.str "row")))) (sRet (fBin gAdd (fBin gMul (fBin gFdiv (fVar 2) (fBin gSubI (fVar 1) (fC (.int 1)))) (fCall c__law_two (fCons (fBin gSubI (fVar 1) (fC (.int 1))) fNil))) (fCall c__law_two (fCons (fBin gMod (fCall cInt (fCons (fVar 2) fNil)) (fBin gSubI (fVar 1) (fC (.int 1)))) fNil)))) sSkip)
    (sSeq (sIf (fTest (fBin gEq (fVar 0) (fC (.str "core")))) (sRet (fIf (fTest (fBin gLt (fVar 2) (fVar 1))) (fCall c__law_two (fCons (fVar 2) fNil)) (fBin gSubI (fBin gMul (fBin gSubI (fVar 1) (fC (.int 1))) (fVar 2)) (fCall c__law_two (fCons (fVar 1) fNil))))) sSkip)
    (sSeq (sIf (fTest (fBin gEq (fVar 0) (fC (.str "linked")))) (sRet (fIf (fTest (fBin gLe (fVar 2) (fVar 1))) (fCall c__law_two (fCons (fVar 2) fNil)) (fBin gSubI (fBin gAdd (fCall c__law_two (fCons (fBin gSubI (fVar 2) (fC (.int 1))) fNil)) (fVar 1)) (fC (.int 1))))) sSkip)
    (sSeq (sIf (tOrD (fTest (fBin gEq (fVar 2) (fC (.int 0)))) (fTest (fBin gEq (fVar 0) (fC (.str "odd ring"))))) (sRet (fBin gFdiv (fBin gMul (fVar 2) (fVar 2)) (fC (.int 4)))) sSkip)
    (sSeq (sIf (fTest (fBin gEq (fVar 0) (fC (.str "even ring")))) (sRet (fBin gFdiv (fBin gMul (fC (.int 3)) (fBin gSubI (fVar 2) (fC (.int 1)))) (fC (.int 2)))) sSkip)
    (sRet (fBin gAdd (fBin gMul (fBin gFdiv (fBin gSubI (fVar 2) (fC (.int 1))) (fBin gSubI (fVar 1) (fC (.int 2)))) (fCall c__law_two (fCons (fBin gSubI (fVar 1) (fC (.int 1))) fNil))) (fCall c__law_two (fCons (fBin gAdd (fBin gMod (fCall cInt (fCons (fBin gSubI (fVar 2) (fC (.int 1))) fNil)) (fBin gSubI (fVar 1) (fC (.int 2)))) (fC (.int 1))) fNil))))))))))))
def d__law_most (c__law_two : FD) : FD := runD 6 (b__law_most c__law_two)
theorem ok__law_most {c__law_two : FD} {k : Nat} (T : Txt w K mg ct C_Thing) (C__law_two : Callee P w K mg base ct k "_law_two" 1 c__law_two) : Callee P w K mg base ct (k + 1) "_law_most" 3 (d__law_most c__law_two) :=
  callee_of T.d__law_most sc__law_most fun f cdv A outer s H E hr =>
    (sss_cons (ss_if (st_cmp (op_eqAll hr) od_eq (se_var 0) se_str (nomark _)) (sss_cons (ss_par (i := 3) (j := 4) (fun ta h => ps_par rfl sc__law_most.nd rfl rfl (by decide) rfl rfl h (by rfl)) (sa_cons (se_op op_fdivW od_fdiv (se_var 2) (se_op op_sub od_sub (se_var 1) se_int)) (sa_cons (se_op op_mod od_mod (se_callTy call_intAll cd_int (by rfl) T.n_int (by decide +kernel) (sa_cons (se_var 2) sa_nil)) (se_op op_sub od_sub (se_var 1) se_int)) sa_nil)))
      (sss_one (ss_ret (se_op op_sub od_sub (se_op op_sub od_sub (se_fn C__law_two hr (by rfl) (sa_cons (se_var 2) sa_nil) (fCons_len (fun _ _ _ _ h => fNil_len h))) (se_op op_mulW od_mul (se_var 4) (se_fn C__law_two hr (by rfl) (sa_cons (se_op op_addAll od_add (se_var 3) se_int) sa_nil) (fCons_len (fun _ _ _ _ h => fNil_len h))))) (se_op op_mulW od_mul (se_op op_sub od_sub (se_op op_sub od_sub (se_var 1) se_int) (se_var 4)) (se_fn C__law_two hr (by rfl) (sa_cons (se_var 3) sa_nil) (fCons_len (fun _ _ _ _ h => fNil_len h)))))))) sss_nil)
      (sss_cons (ss_if (st_cmp (op_eqAll hr) od_eq (se_var 0) se_str (nomark _)) (sss_one (ss_ret (se_callB (call_min2 rfl) cd_min2 (by rfl) T.n_min (by decide +kernel) (sa_cons (se_fn C__law_two hr (by rfl) (sa_cons (se_var 2) sa_nil) (fCons_len (fun _ _ _ _ h => fNil_len h))) (sa_cons (se_op op_fdivW od_fdiv (se_op op_mulW od_mul (se_var 2) (se_op op_sub od_sub (se_var 1) se_int)) se_int) sa_nil))))) sss_nil)
      (sss_cons (ss_if (st_cmp (op_eqAll hr) od_eq (se_var 0) se_str (nomark _)) (sss_cons (ss_set (i := 5) sc__law_most.nd rfl (Or.inl rfl) (se_op op_addAll od_add (se_fn C__law_two hr (by rfl) (sa_cons (se_op op_sub od_sub (se_var 1) se_int) sa_nil) (fCons_len (fun _ _ _ _ h => fNil_len h))) (se_op op_mulW od_mul (se_op op_sub od_sub (se_var 1) se_int) (se_op op_addAll od_add (se_op op_sub od_sub (se_var 2) (se_var 1)) se_int))))
      (sss_one (ss_ret (se_if (st_cmp op_lt od_lt (se_var 2) (se_op op_mulW od_mul se_int (se_var 1)) (nomark _)) (se_fn C__law_two hr (by rfl) (sa_cons (se_var 2) sa_nil) (fCons_len (fun _ _ _ _ h => fNil_len h))) (se_callB (call_max2 rfl) cd_max2 (by rfl) T.n_max (by decide +kernel) (sa_cons (se_fn C__law_two hr (by rfl) (sa_cons (se_op op_sub od_sub (se_op op_mulW od_mul se_int (se_var 1)) se_int) sa_nil) (fCons_len (fun _ _ _ _ h => fNil_len h))) (sa_cons (se_var 5) sa_nil))))))) sss_nil)
      (sss_cons (ss_if (st_cmp (op_eqAll hr) od_eq (se_var 0) se_str (nomark _)) (sss_one (ss_ret (se_op op_addAll od_add (se_op op_mulW od_mul (se_op op_fdivW od_fdiv (se_var 2) (se_op op_sub od_sub (se_var 1) se_int)) (se_fn C__law_two hr (by rfl) (sa_cons (se_op op_sub od_sub (se_var 1) se_int) sa_nil) (fCons_len (fun _ _ _ _ h => fNil_len h)))) (se_fn C__law_two hr (by rfl) (sa_cons (se_op op_mod od_mod (se_callTy call_intAll cd_int (by rfl) T.n_int (by decide +kernel) (sa_cons (se_var 2) sa_nil)) (se_op op_sub od_sub (se_var 1) se_int)) sa_nil) (fCons_len (fun _ _ _ _ h => fNil_len h)))))) sss_nil)
      (sss_cons (ss_if (st_cmp (op_eqAll hr) od_eq (se_var 0) se_str (nomark _)) (sss_one (ss_ret (se_if (st_cmp op_lt od_lt (se_var 2) (se_var 1) (nomark _)) (se_fn C__law_two hr (by rfl) (sa_cons (se_var 2) sa_nil) (fCons_len (fun _ _ _ _ h => fNil_len h))) (se_op op_sub od_sub (se_op op_mulW od_mul (se_op op_sub od_sub (se_var 1) se_int) (se_var 2)) (se_fn C__law_two hr (by rfl) (sa_cons (se_var 1) sa_nil) (fCons_len (fun _ _ _ _ h => fNil_len h))))))) sss_nil)
      (sss_cons (ss_if (st_cmp (op_eqAll hr) od_eq (se_var 0) se_str (nomark _)) (sss_one (ss_ret (se_if (st_cmp op_le od_le (se_var 2) (se_var 1) (nomark _)) (se_fn C__law_two hr (by rfl) (sa_cons (se_var 2) sa_nil) (fCons_len (fun _ _ _ _ h => fNil_len h))) (se_op op_sub od_sub (se_op op_addAll od_add (se_fn C__law_two hr (by rfl) (sa_cons (se_op op_sub od_sub (se_var 2) se_int) sa_nil) (fCons_len (fun _ _ _ _ h => fNil_len h))) (se_var 1)) se_int)))) sss_nil)
      (sss_cons (ss_if (SW.st (sw_or (st_cmp (op_eqAll hr) od_eq (se_var 2) se_int (nomark _)) (sw_or1 (st_cmp (op_eqAll hr) od_eq (se_var 0) se_str (nomark _))))) (sss_one (ss_ret (se_op op_fdivW od_fdiv (se_op op_mulW od_mul (se_var 2) (se_var 2)) se_int))) sss_nil)
      (sss_cons (ss_if (st_cmp (op_eqAll hr) od_eq (se_var 0) se_str (nomark _)) (sss_one (ss_ret (se_op op_fdivW od_fdiv (se_op op_mulW od_mul se_int (se_op op_sub od_sub (se_var 2) se_int)) se_int))) sss_nil)
      (sss_one (ss_ret (se_op op_addAll od_add (se_op op_mulW od_mul (se_op op_fdivW od_fdiv (se_op op_sub od_sub (se_var 2) se_int) (se_op op_sub od_sub (se_var 1) se_int)) (se_fn C__law_two hr (by rfl) (sa_cons (se_op op_sub od_sub (se_var 1) se_int) sa_nil) (fCons_len (fun _ _ _ _ h => fNil_len h)))) (se_fn C__law_two hr (by rfl) (sa_cons (se_op op_addAll od_add (se_op op_mod od_mod (se_callTy call_intAll cd_int (by rfl) T.n_int (by decide +kernel) (sa_cons (se_op op_sub od_sub (se_var 2) se_int) sa_nil)) (se_op op_sub od_sub (se_var 1) se_int)) se_int) sa_nil) (fCons_len (fun _ _ _ _ h => fNil_len h))))))))))))))
abbrev s__law_right : Stmt := topS 40
theorem sc__law_right : FnScope ["_law_purse_here", "_law_sorts", "_law_sort", "_law_base", "_law_more", "_law_k", "_law_what", "_law_many", "_law_counts", "_law_size", "_law_x", "_law_y"] ["_law_purse_here"] (defScope s__law_right) := ⟨rfl, rfl, rfl, by decide +kernel, rfl, by decide +kernel, by decide +kernel⟩
def b__law_right (c_Thing_most : FD) (c__law_most : FD) (c__law_all : FD) (c_Thing_tied : FD) (c__law_draw : FD) (c_Thing_F : List D → Option (List D)) : FS :=
  (sSeq (sAsg (fLst (fCons (fTup (fCons (fC (.str "crowd")) (fCons (fC (.int 2)) fNil))) (fCons (fTup (fCons (fC (.str "star")) (fCons (fC (.int 1)) fNil))) (fCons (fTup (fCons (fC (.str "pairs")) (fCons (fC (.int 1)) fNil))) (fCons (fTup (fCons (fC (.str "row")) (fCons (fC (.int 2)) fNil))) (fCons (fTup (fCons (fC (.str "ring")) (fCons (fC (.int 3)) fNil))) (fCons (fTup (fCons (fC (.str "core")) (fCons (fC (.int 1)) fNil))) (fCons (fTup (fCons (fC (.str "linked")) (fCons (fC (.int 1)) fNil))) fNil)))))))) (gN 1))
    (sSeq (sFor (iLst (fBin gAdd (fVar 1) (fLst (fCons (fTup (fCons (fC (.str "odd ring")) (fCons (fC .non) fNil))) (fCons (fTup (fCons (fC (.str "even ring")) (fCons (fC .non) fNil))) fNil))))) (gTup 2 (gCons (gN 2) (gCons (gN 3) gNil))) (sSeq (sAsg (fCall c__law_draw (fCons (fVar 0) (fCons (fBin gIx (fLst (fCons (fC (.int 6)) (fCons (fC (.int 40)) fNil))) (fCall c__law_draw (fCons (fVar 0) (fCons (fC (.int 2)) fNil)))) fNil))) (gN 4))
    (sSeq (sAsg (fIf (fTest (fBin gIsN (fVar 3) (fC .non))) (fC .non) (fBin gAdd (fVar 3) (fVar 4))) (gN 5))
    (sSeq (sPar 6 7 (fCons (fMakeF "Thing" ["word", "many"] c_Thing_F [] (fCons (fVar 2) (fCons (fVar 5) fNil))) (fCons (fCall c__law_draw (fCons (fVar 0) (fCons (fC (.int 41)) fNil))) fNil)))
    (sSeq (sPar 8 9 (fCons (fBin gRepM (fLst (fCons (fC (.int 0)) fNil)) (fVar 7)) (fCons (fC (.int 0)) fNil)))
    (sSeq (sFor (iTup (fCall c__law_all (fCons (fVar 7) fNil))) (gTup 2 (gCons (gN 10) (gCons (gN 11) gNil))) (sSeq (sIf (fTest (fBin gNe (fMeth "Thing" "tied" c_Thing_tied (fVar 6) (fCons (fVar 7) (fCons (fVar 11) (fCons (fVar 10) fNil)))) (fMeth "Thing" "tied" c_Thing_tied (fVar 6) (fCons (fVar 7) (fCons (fVar 10) (fCons (fVar 11) fNil)))))) (sRet (fC (.bl false))) sSkip)
    (sIf (fTest (fMeth "Thing" "tied" c_Thing_tied (fVar 6) (fCons (fVar 7) (fCons (fVar 10) (fCons (fVar 11) fNil))))) (sSeq (sAsg (fBin gAdd (fVar 9) (fC (.int 1))) (gN 9))
    (sSeq (sAsg (fBin gAdd (fBin gIx (fVar 8) (fVar 10)) (fC (.int 1))) (gSub gSetA (fVar 8) (fVar 10)))
    (sAsg (fBin gAdd (fBin gIx (fVar 8) (fVar 11)) (fC (.int 1))) (gSub gSetA (fVar 8) (fVar 11))))) sSkip)))
    (sSeq (sIf (tOrD (fTest (fBin gNe (fVar 9) (fMeth "Thing" "most" c_Thing_most (fVar 6) (fCons (fVar 7) fNil)))) (fTest (fBin gNe (fVar 9) (fCall c__law_most (fCons (fVar 2) (fCons (fVar 5) (fCons (fVar 7) fNil))))))) (sRet (fC (.bl false))) sSkip)
    (sIf (tAndD (fTest (fBin gEq (fVar 2) (fC (.str "star")))) (fTest (fBin gGe (fCall cMaxL (fCons (fBin gAddC (fLst (fCons (fC (.int 0)) fNil)) (fVar 8)) fNil)) (fVar 5)))) (sRet (fC (.bl false))) sSkip))))))))
    (sRet (fC (.bl true)))))
def d__law_right (c_Thing_most : FD) (c__law_most : FD) (c__law_all : FD) (c_Thing_tied : FD) (c__law_draw : FD) (c_Thing_F : List D → Option (List D)) : FD := runD 12 (b__law_right c_Thing_most c__law_most c__law_all c_Thing_tied c__law_draw c_Thing_F)
theorem ok__law_right {c_Thing_most : FD} {c__law_most : FD} {c__law_all : FD} {c_Thing_tied : FD} {c__law_draw : FD} {c_Thing_F : List D → Option (List D)} {k : Nat} (T : Txt w K mg ct C_Thing) (C_Thing_most : CalleeM P w K mg base ct k C_Thing "most" 2 c_Thing_most) (C__law_most : Callee P w K mg base ct k "_law_most" 3 c__law_most) (C__law_all : Callee P w K mg base ct k "_law_all" 1 c__law_all) (C_Thing_tied : CalleeM P w K mg base ct k C_Thing "tied" 4 c_Thing_tied) (C__law_draw : Callee P w K mg base ct k "_law_draw" 2 c__law_draw) (C_Thing_mf2 : MakerF P w K mg base ct k "Thing" ["word", "many"] [] 3 c_Thing_F) : Callee P w K mg base ct (k + 1) "_law_right" 1 (d__law_right c_Thing_most c__law_most c__law_all c_Thing_tied c__law_draw c_Thing_F) :=
  callee_of T.d__law_right sc__law_right fun f cdv A outer s H E hr =>
    (sss_cons (ss_set (i := 1) sc__law_right.nd rfl (Or.inl rfl) (se_lst (sa_cons (se_tup (sa_cons se_str (sa_cons se_int sa_nil))) (sa_cons (se_tup (sa_cons se_str (sa_cons se_int sa_nil))) (sa_cons (se_tup (sa_cons se_str (sa_cons se_int sa_nil))) (sa_cons (se_tup (sa_cons se_str (sa_cons se_int sa_nil))) (sa_cons (se_tup (sa_cons se_str (sa_cons se_int sa_nil))) (sa_cons (se_tup (sa_cons se_str (sa_cons se_int sa_nil))) (sa_cons (se_tup (sa_cons se_str (sa_cons se_int sa_nil))) sa_nil)))))))))
      (sss_cons (ss_for PassesOwn.never rfl (si_list (se_op op_addAll od_add (se_var 1) (se_lst (sa_cons (se_tup (sa_cons se_str (sa_cons se_non sa_nil))) (sa_cons (se_tup (sa_cons se_str (sa_cons se_non sa_nil))) sa_nil))))) (sg_tup rfl (sgs_cons (sg_name (i := 2) sc__law_right.nd rfl (Or.inl rfl)) (sgs_cons (sg_name (i := 3) sc__law_right.nd rfl (Or.inl rfl)) sgs_nil))) (sss_cons (ss_set (i := 4) sc__law_right.nd rfl (Or.inl rfl) (se_fn C__law_draw hr (by rfl) (sa_cons (se_var 0) (sa_cons (se_ix ix_seq od_ix (se_lst (sa_cons se_int (sa_cons se_int sa_nil))) (se_fn C__law_draw hr (by rfl) (sa_cons (se_var 0) (sa_cons se_int sa_nil)) (fCons_len (fCons_len (fun _ _ _ _ h => fNil_len h)))) (fun _ _ => rfl)) sa_nil)) (fCons_len (fCons_len (fun _ _ _ _ h => fNil_len h)))))
      (sss_cons (ss_set (i := 5) sc__law_right.nd rfl (Or.inl rfl) (se_if (st_cmp op_isN od_isN (se_var 3) se_non (nomark _)) se_non (se_op op_addAll od_add (se_var 3) (se_var 4))))
      (sss_cons (ss_par (i := 6) (j := 7) (fun ta h => ps_par rfl sc__law_right.nd rfl rfl (by decide) rfl rfl h (by rfl)) (sa_cons (se_mkF (n := 2) (dds := []) C_Thing_mf2 hr (by rfl) (sa_cons (se_var 2) (sa_cons (se_var 5) sa_nil)) (fCons_len (fCons_len (fun _ _ _ _ h => fNil_len h)))) (sa_cons (se_fn C__law_draw hr (by rfl) (sa_cons (se_var 0) (sa_cons se_int sa_nil)) (fCons_len (fCons_len (fun _ _ _ _ h => fNil_len h)))) sa_nil)))
      (sss_cons (ss_par (i := 8) (j := 9) (fun ta h => ps_par rfl sc__law_right.nd rfl rfl (by decide) rfl rfl h (by rfl)) (sa_cons (se_op op_rep od_repM (se_lst (sa_cons se_int sa_nil)) (se_var 7)) (sa_cons se_int sa_nil)))
      (sss_cons (ss_for PassesOwn.never rfl (si_tup (se_fn C__law_all hr (by rfl) (sa_cons (se_var 7) sa_nil) (fCons_len (fun _ _ _ _ h => fNil_len h)))) (sg_tup rfl (sgs_cons (sg_name (i := 10) sc__law_right.nd rfl (Or.inl rfl)) (sgs_cons (sg_name (i := 11) sc__law_right.nd rfl (Or.inl rfl)) sgs_nil))) (sss_cons (ss_if (st_cmp (op_neAll hr) od_ne (se_meth T.kc_Thing C_Thing_tied hr (se_var 6) (sa_cons (se_var 7) (sa_cons (se_var 11) (sa_cons (se_var 10) sa_nil))) (fCons_len (fCons_len (fCons_len (fun _ _ _ _ h => fNil_len h))))) (se_meth T.kc_Thing C_Thing_tied hr (se_var 6) (sa_cons (se_var 7) (sa_cons (se_var 10) (sa_cons (se_var 11) sa_nil))) (fCons_len (fCons_len (fCons_len (fun _ _ _ _ h => fNil_len h))))) (nomark _)) (sss_one (ss_ret se_bl)) sss_nil)
      (sss_one (ss_if (st_val (se_meth T.kc_Thing C_Thing_tied hr (se_var 6) (sa_cons (se_var 7) (sa_cons (se_var 10) (sa_cons (se_var 11) sa_nil))) (fCons_len (fCons_len (fCons_len (fun _ _ _ _ h => fNil_len h)))))) (sss_cons (ss_set (i := 9) sc__law_right.nd rfl (Or.inl rfl) (se_op op_addAll od_add (se_var 9) se_int))
      (sss_cons (ss_asg (se_op op_addAll od_add (se_ix ix_seq od_ix (se_var 8) (se_var 10) (fun _ _ => rfl)) se_int) (sg_sub (se_var 8) (se_var 10) (set_all hr) sd_all))
      (sss_one (ss_asg (se_op op_addAll od_add (se_ix ix_seq od_ix (se_var 8) (se_var 11) (fun _ _ => rfl)) se_int) (sg_sub (se_var 8) (se_var 11) (set_all hr) sd_all))))) sss_nil))))
      (sss_cons (ss_if (SW.st (sw_or (st_cmp (op_neAll hr) od_ne (se_var 9) (se_meth T.kc_Thing C_Thing_most hr (se_var 6) (sa_cons (se_var 7) sa_nil) (fCons_len (fun _ _ _ _ h => fNil_len h))) (nomark _)) (sw_or1 (st_cmp (op_neAll hr) od_ne (se_var 9) (se_fn C__law_most hr (by rfl) (sa_cons (se_var 2) (sa_cons (se_var 5) (sa_cons (se_var 7) sa_nil))) (fCons_len (fCons_len (fCons_len (fun _ _ _ _ h => fNil_len h))))) (nomark _))))) (sss_one (ss_ret se_bl)) sss_nil)
      (sss_one (ss_if (SW.st (sw_and (st_cmp (op_eqAll hr) od_eq (se_var 2) se_str (nomark _)) (sw_and1 (st_cmp op_ge od_ge (se_callB (cr_max rfl) cd_maxL (by rfl) T.n_max (by decide +kernel) (sa_cons (se_op op_cat od_addC (se_lst (sa_cons se_int sa_nil)) (se_var 8)) sa_nil)) (se_var 5) (nomark _))))) (sss_one (ss_ret se_bl)) sss_nil)))))))))
      (sss_one (ss_ret se_bl))))
abbrev s_law : Stmt := topS 41
theorem sc_law : FnScope ["_law_script", "_law_spot"] ["_law_script"] (defScope s_law) := ⟨rfl, rfl, rfl, by decide +kernel, rfl, by decide +kernel, by decide +kernel⟩
def b_law (c__law_right : FD) (c__law_purse : FD) : FS :=
  (sRet (fCall cAll (fCons (fLc (iRange1 (fCons (fC (.int 2)) fNil)) (gN 1) tYesD (fCall c__law_right (fCons (fCall c__law_purse (fCons (fVar 0) (fCons (fVar 1) fNil))) fNil)) [1]) fNil)))
def d_law (c__law_right : FD) (c__law_purse : FD) : FD := runD 2 (b_law c__law_right c__law_purse)
theorem fn_law {c__law_right : FD} {c__law_purse : FD} {k : Nat} {f : Addr} {fd : FuncData} (F : Fun K "law" "law" s_law f fd) (T : Txt w K mg ct C_Thing) (C__law_right : Callee P w K mg base ct k "_law_right" 1 c__law_right) (C__law_purse : Callee P w K mg base ct k "_law_purse" 2 c__law_purse) : FnG P w K mg base (k + 1) f fd ["_law_script"] (spD K ct 1 (d_law c__law_right c__law_purse)) :=
  def_ok F sc_law fun cdv A outer s H E hr =>
    (sss_one (ss_ret (se_callB (cr_all rfl) cd_all (by rfl) T.n_all (by decide +kernel) (sa_cons (se_lc (own := [("_law_spot", 1)]) rfl sc_law.nd (si_range1 (by rfl) T.n_range (sa_cons se_int sa_nil)) (blkOk_by (own := [("_law_spot", 1)]) (N := ["_law_script", "_law_spot"]) (sc := defScope s_law) (by decide +kernel)) (fun _ _ _ _ _ => (sgw_name (i := 1) sc_law.nd rfl (Or.inl rfl) (by decide))) (fun _ _ _ _ _ => sts_nil) (fun _ _ _ _ _ => (se_fn C__law_right hr (by rfl) (sa_cons (se_fn C__law_purse hr (by rfl) (sa_cons (se_var 0) (sa_cons (se_var 1) sa_nil)) (fCons_len (fCons_len (fun _ _ _ _ h => fNil_len h)))) sa_nil) (fCons_len (fun _ _ _ _ h => fNil_len h))))) sa_nil))))
abbrev w_is_integer : FD := d_is_integer
theorem wk_is_integer (T : Txt w K mg ct C_Thing) : Callee P w K mg base ct 1 "is_integer" 1 w_is_integer :=
  ok_is_integer (k := 0) T
abbrev w_is_between : FD := d_is_between w_is_integer
theorem wk_is_between (T : Txt w K mg ct C_Thing) : Callee P w K mg base ct 2 "is_between" 3 w_is_between :=
  ok_is_between (k := 1) T ((wk_is_integer T).mono (by decide))
abbrev w_check_people : FD := d_check_people w_is_integer
theorem wk_check_people (T : Txt w K mg ct C_Thing) : Callee P w K mg base ct 2 "check_people" 2 w_check_people :=
  ok_check_people (k := 1) T ((wk_is_integer T).mono (by decide))
abbrev w_check_two : FD := d_check_two w_is_between
theorem wk_check_two (T : Txt w K mg ct C_Thing) : Callee P w K mg base ct 3 "check_two" 3 w_check_two :=
  ok_check_two (k := 2) T ((wk_is_between T).mono (by decide))
abbrev w_pairs_of : FD := d_pairs_of
theorem wk_pairs_of (T : Txt w K mg ct C_Thing) : Callee P w K mg base ct 1 "pairs_of" 1 w_pairs_of :=
  ok_pairs_of (k := 0) T
abbrev w_most_pairs : FD := d_most_pairs w_pairs_of
theorem wk_most_pairs (T : Txt w K mg ct C_Thing) : Callee P w K mg base ct 2 "most_pairs" 2 w_most_pairs :=
  ok_most_pairs (k := 1) T ((wk_pairs_of T).mono (by decide))
abbrev w_most_rings : FD := d_most_rings w_pairs_of
theorem wk_most_rings (T : Txt w K mg ct C_Thing) : Callee P w K mg base ct 2 "most_rings" 3 w_most_rings :=
  ok_most_rings (k := 1) T ((wk_pairs_of T).mono (by decide))
abbrev w_most_groups : FD := d_most_groups w_pairs_of
theorem wk_most_groups (T : Txt w K mg ct C_Thing) : Callee P w K mg base ct 2 "most_groups" 3 w_most_groups :=
  ok_most_groups (k := 1) T ((wk_pairs_of T).mono (by decide))
abbrev w_is_all_tied : FD := d_is_all_tied
theorem wk_is_all_tied (T : Txt w K mg ct C_Thing) : Callee P w K mg base ct 1 "is_all_tied" 3 w_is_all_tied :=
  ok_is_all_tied (k := 0) T
abbrev w_most_of : FD := d_most_of w_pairs_of w_most_pairs w_is_all_tied w_most_groups w_most_rings
theorem wk_most_of (T : Txt w K mg ct C_Thing) : Callee P w K mg base ct 3 "most_of" 3 w_most_of :=
  ok_most_of (k := 2) T ((wk_pairs_of T).mono (by decide)) ((wk_most_pairs T).mono (by decide)) ((wk_is_all_tied T).mono (by decide)) ((wk_most_groups T).mono (by decide)) ((wk_most_rings T).mono (by decide))
abbrev w_is_star_tie : FD := d_is_star_tie
theorem wk_is_star_tie (T : Txt w K mg ct C_Thing) : Callee P w K mg base ct 1 "is_star_tie" 4 w_is_star_tie :=
  ok_is_star_tie (k := 0) T
abbrev w_is_ring_tie : FD := d_is_ring_tie
theorem wk_is_ring_tie (T : Txt w K mg ct C_Thing) : Callee P w K mg base ct 1 "is_ring_tie" 4 w_is_ring_tie :=
  ok_is_ring_tie (k := 0) T
abbrev w_is_rule_tie : FD := d_is_rule_tie w_most_pairs w_is_star_tie w_is_all_tied w_is_ring_tie
theorem wk_is_rule_tie (T : Txt w K mg ct C_Thing) : Callee P w K mg base ct 3 "is_rule_tie" 5 w_is_rule_tie :=
  ok_is_rule_tie (k := 2) T ((wk_most_pairs T).mono (by decide)) ((wk_is_star_tie T).mono (by decide)) ((wk_is_all_tied T).mono (by decide)) ((wk_is_ring_tie T).mono (by decide))
abbrev w_Thing___init__ : FD := d_Thing___init__ w_is_between
theorem wk_Thing___init__ (T : Txt w K mg ct C_Thing) : Initer P w K mg base ct 3 "Thing" [.non] 3 w_Thing___init__ :=
  ok_Thing___init__ (k := 2) T ((wk_is_between T).mono (by decide))
theorem isint_int (i : Int) (S : Sto) : w_is_integer [.int i] S = some (.bl true, S) := by
  rw [← R_eq]
  unfold w_is_integer d_is_integer b_is_integer
  simp only [R_some, wb_bl, wi_int, wstr_str, wtup_tup, wlst_lst, wref_ref, wp_var0, wp_varS, wp_C, wp_Bin, wp_neg, wp_nil, wp_cons, wp_tup, wp_lst, wp_lstM, wp_Call, wp_And, wp_Or, wp_Not, wp_Test, wp_tAnd, wp_tOr, wp_tNot, wp_If, wp_Chain, wp_Skip, wp_Break, wp_Cont, wp_Never, wp_fNever, wp_Seq, wp_pfl_nx, wp_pfl_rt, wp_pfl_bk, wp_pfl_ct, wp_Expr, wp_Ret, wp_sIf, wp_Asg, wp_N, wp_gNil, wp_gCons, wp_gTup, wp_gSub, wp_Par, wp_two, wp_Run, wp_run_rt, wp_run_nx, wp_bk_nx, wp_bk_ct, wp_bk_bk, wp_bk_rt, wp_r1, wp_r2, wp_add, wp_addL, wp_addS, wp_mul, wp_fdiv, wp_mod, wp_I0, wp_eqI, wp_eqS, wp_eqB, wp_neI, wp_neS, wp_neB, wp_isN, wp_notN, isn_int, isn_non, isn_str, isn_tup, isn_lst, isn_ref, isn_bl, wp_isi, wp_someB, isi_str_str, isi_int_int, isi_int_bl, isi_bool_int, isi_bool_bl, isi_int_non, isi_int_str, isi_tuple_tup, wp_abs, wp_max2, wp_min2, wp_maxT, wp_intI, wp_intB, wp_lenS, wp_lenT, wp_lenL, wp_lenC, wp_divmod, wp_listL, wp_listT, wp_tupL, wp_tupT, wp_KIn, wp_strE, wp_Fld, wp_FldO, wp_Meth, wp_MakeF, wp_someL, wp_iR1, wp_iR2, wp_iLst, wp_iTup, wp_Prop, wp_IsC, wp_DGet1, wp_DIn, wp_gUnl, wp_DictK, wp_rep, wp_MethK, wp_CallK, wp_DispF, wp_DIx, wp_someX, wp_ixL, wp_ixT, wp_ixC, atI0, atI1, atI2, ixN0, ixN1, wp_Sl, wp_oNone, wp_oSome, wp_slC, wp_slL, wp_slS, str_eq, String.reduceEq, in_ring_crowd, in_ring_star, in_ring_pairs, in_ring_row, in_ring_ring, in_ring_core, in_ring_linked, in_ring_odd_ring, in_ring_even_ring, Bool.or_self, Bool.and_self, wp_Lc, wp_Yes, wp_pow10_9, wp_pow10_18, wp_pow10_40, wp_For, wp_sFld, wp_last, set_last, wp_KIx, wp_inT, wp_inL, eqF_str, flat_str, flat_int, flat_non, List.any_cons, List.any_nil, List.all_cons, List.all_nil, Bool.and_true, Bool.or_false, Bool.true_and, Bool.false_and, Bool.and_false, Bool.false_or, Bool.or_true, Bool.true_or, Bool.not_not, List.map_cons, List.map_nil, List.length_cons, List.length_nil, List.cons_append, List.nil_append, List.append_nil, List.set_cons_zero, List.set_cons_succ, List.replicate_succ, List.replicate_zero, Nat.reduceSub, Nat.reduceAdd, Nat.reduceLeDiff, Nat.zero_add, Nat.sub_self, decide_eq_true_eq, Bool.not_eq_true', Bool.not_eq_eq_eq_not, Bool.not_true, Bool.not_false, decide_eq_false_iff_not, if_true, if_false, reduceIte, Bool.false_eq_true, true_and, and_true, decide_true, decide_false, Bool.true_eq_false, eq_self]
theorem between_int (i a b : Int) (S : Sto) : w_is_between [.int i, .int a, .int b] S = some (.bl (decide (a ≤ i) && decide (i ≤ b)), S) := by
  rw [← R_eq]
  unfold w_is_between d_is_between b_is_between
  simp only [R_some, wb_bl, wi_int, wstr_str, wtup_tup, wlst_lst, wref_ref, wp_var0, wp_varS, wp_C, wp_Bin, wp_neg, wp_nil, wp_cons, wp_tup, wp_lst, wp_lstM, wp_Call, wp_And, wp_Or, wp_Not, wp_Test, wp_tAnd, wp_tOr, wp_tNot, wp_If, wp_Chain, wp_Skip, wp_Break, wp_Cont, wp_Never, wp_fNever, wp_Seq, wp_pfl_nx, wp_pfl_rt, wp_pfl_bk, wp_pfl_ct, wp_Expr, wp_Ret, wp_sIf, wp_Asg, wp_N, wp_gNil, wp_gCons, wp_gTup, wp_gSub, wp_Par, wp_two, wp_Run, wp_run_rt, wp_run_nx, wp_bk_nx, wp_bk_ct, wp_bk_bk, wp_bk_rt, wp_r1, wp_r2, wp_add, wp_addL, wp_addS, wp_mul, wp_fdiv, wp_mod, wp_I0, wp_eqI, wp_eqS, wp_eqB, wp_neI, wp_neS, wp_neB, wp_isN, wp_notN, isn_int, isn_non, isn_str, isn_tup, isn_lst, isn_ref, isn_bl, wp_isi, wp_someB, isi_str_str, isi_int_int, isi_int_bl, isi_bool_int, isi_bool_bl, isi_int_non, isi_int_str, isi_tuple_tup, wp_abs, wp_max2, wp_min2, wp_maxT, wp_intI, wp_intB, wp_lenS, wp_lenT, wp_lenL, wp_lenC, wp_divmod, wp_listL, wp_listT, wp_tupL, wp_tupT, wp_KIn, wp_strE, wp_Fld, wp_FldO, wp_Meth, wp_MakeF, wp_someL, wp_iR1, wp_iR2, wp_iLst, wp_iTup, wp_Prop, wp_IsC, wp_DGet1, wp_DIn, wp_gUnl, wp_DictK, wp_rep, wp_MethK, wp_CallK, wp_DispF, wp_DIx, wp_someX, wp_ixL, wp_ixT, wp_ixC, atI0, atI1, atI2, ixN0, ixN1, wp_Sl, wp_oNone, wp_oSome, wp_slC, wp_slL, wp_slS, str_eq, String.reduceEq, in_ring_crowd, in_ring_star, in_ring_pairs, in_ring_row, in_ring_ring, in_ring_core, in_ring_linked, in_ring_odd_ring, in_ring_even_ring, Bool.or_self, Bool.and_self, wp_Lc, wp_Yes, wp_pow10_9, wp_pow10_18, wp_pow10_40, wp_For, wp_sFld, wp_last, set_last, wp_KIx, wp_inT, wp_inL, eqF_str, flat_str, flat_int, flat_non, List.any_cons, List.any_nil, List.all_cons, List.all_nil, Bool.and_true, Bool.or_false, Bool.true_and, Bool.false_and, Bool.and_false, Bool.false_or, Bool.or_true, Bool.true_or, Bool.not_not, List.map_cons, List.map_nil, List.length_cons, List.length_nil, List.cons_append, List.nil_append, List.append_nil, List.set_cons_zero, List.set_cons_succ, List.replicate_succ, List.replicate_zero, Nat.reduceSub, Nat.reduceAdd, Nat.reduceLeDiff, Nat.zero_add, Nat.sub_self, decide_eq_true_eq, Bool.not_eq_true', Bool.not_eq_eq_eq_not, Bool.not_true, Bool.not_false, decide_eq_false_iff_not, if_true, if_false, reduceIte, Bool.false_eq_true, true_and, and_true, decide_true, decide_false, Bool.true_eq_false, eq_self, eq_R (isint_int _ _)]
  by_cases h : a ≤ i
  · simp [h]
  · simp [h]
def mkF_Thing : List D → Option (List D)
  | [.str k, .non] => if k = "odd ring" ∨ k = "even ring" then some [.str k, .non] else none
  | [.str k, .int n] => match tab_LEAST.lookup k with
    | some lo => if lo ≤ n ∧ n ≤ 10000000000000000000000000000000000000000 then some [.str k, .int n] else none
    | none => none
  | _ => none
theorem mkF_Thing_ok : MkSpec "Thing" ["word", "many"] w_Thing___init__ mkF_Thing := by
  intro S args vals h
  unfold mkF_Thing at h
  split at h
  · rename_i k
    split at h
    · rename_i hk
      cases h
      refine ⟨?_, rfl⟩
      rw [← R_eq]
      have hl : (tab_LEAST.lookup k) = none := by rcases hk with rfl | rfl <;> decide +kernel
      have hk' : (decide (("odd ring" : Str) = k) || decide (("even ring" : Str) = k)) = true := by rcases hk with rfl | rfl <;> simp
      unfold w_Thing___init__ d_Thing___init__ b_Thing___init__
      simp only [R_some, wb_bl, wi_int, wstr_str, wtup_tup, wlst_lst, wref_ref, wp_var0, wp_varS, wp_C, wp_Bin, wp_neg, wp_nil, wp_cons, wp_tup, wp_lst, wp_lstM, wp_Call, wp_And, wp_Or, wp_Not, wp_Test, wp_tAnd, wp_tOr, wp_tNot, wp_If, wp_Chain, wp_Skip, wp_Break, wp_Cont, wp_Never, wp_fNever, wp_Seq, wp_pfl_nx, wp_pfl_rt, wp_pfl_bk, wp_pfl_ct, wp_Expr, wp_Ret, wp_sIf, wp_Asg, wp_N, wp_gNil, wp_gCons, wp_gTup, wp_gSub, wp_Par, wp_two, wp_Run, wp_run_rt, wp_run_nx, wp_bk_nx, wp_bk_ct, wp_bk_bk, wp_bk_rt, wp_r1, wp_r2, wp_add, wp_addL, wp_addS, wp_mul, wp_fdiv, wp_mod, wp_I0, wp_eqI, wp_eqS, wp_eqB, wp_neI, wp_neS, wp_neB, wp_isN, wp_notN, isn_int, isn_non, isn_str, isn_tup, isn_lst, isn_ref, isn_bl, wp_isi, wp_someB, isi_str_str, isi_int_int, isi_int_bl, isi_bool_int, isi_bool_bl, isi_int_non, isi_int_str, isi_tuple_tup, wp_abs, wp_max2, wp_min2, wp_maxT, wp_intI, wp_intB, wp_lenS, wp_lenT, wp_lenL, wp_lenC, wp_divmod, wp_listL, wp_listT, wp_tupL, wp_tupT, wp_KIn, wp_strE, wp_Fld, wp_FldO, wp_Meth, wp_MakeF, wp_someL, wp_iR1, wp_iR2, wp_iLst, wp_iTup, wp_Prop, wp_IsC, wp_DGet1, wp_DIn, wp_gUnl, wp_DictK, wp_rep, wp_MethK, wp_CallK, wp_DispF, wp_DIx, wp_someX, wp_ixL, wp_ixT, wp_ixC, atI0, atI1, atI2, ixN0, ixN1, wp_Sl, wp_oNone, wp_oSome, wp_slC, wp_slL, wp_slS, str_eq, String.reduceEq, in_ring_crowd, in_ring_star, in_ring_pairs, in_ring_row, in_ring_ring, in_ring_core, in_ring_linked, in_ring_odd_ring, in_ring_even_ring, Bool.or_self, Bool.and_self, wp_Lc, wp_Yes, wp_pow10_9, wp_pow10_18, wp_pow10_40, wp_For, wp_sFld, wp_last, set_last, wp_KIx, wp_inT, wp_inL, eqF_str, flat_str, flat_int, flat_non, List.any_cons, List.any_nil, List.all_cons, List.all_nil, Bool.and_true, Bool.or_false, Bool.true_and, Bool.false_and, Bool.and_false, Bool.false_or, Bool.or_true, Bool.true_or, Bool.not_not, List.map_cons, List.map_nil, List.length_cons, List.length_nil, List.cons_append, List.nil_append, List.append_nil, List.set_cons_zero, List.set_cons_succ, List.replicate_succ, List.replicate_zero, Nat.reduceSub, Nat.reduceAdd, Nat.reduceLeDiff, Nat.zero_add, Nat.sub_self, decide_eq_true_eq, Bool.not_eq_true', Bool.not_eq_eq_eq_not, Bool.not_true, Bool.not_false, decide_eq_false_iff_not, if_true, if_false, reduceIte, Bool.false_eq_true, true_and, and_true, decide_true, decide_false, Bool.true_eq_false, eq_self, hl, Option.isSome_none, hk']
      exact ⟨by decide, by decide, rfl⟩
    · cases h
  · rename_i k n
    split at h
    · rename_i lo hl
      split at h
      · rename_i hn
        cases h
        refine ⟨?_, rfl⟩
        rw [← R_eq]
        have hk' : (decide (("odd ring" : Str) = k) || decide (("even ring" : Str) = k)) = false := by
          rw [Bool.or_eq_false_iff]
          refine ⟨decide_eq_false ?_, decide_eq_false ?_⟩ <;> (rintro rfl; rw [show (tab_LEAST.lookup _) = none by decide +kernel] at hl; cases hl)
        unfold w_Thing___init__ d_Thing___init__ b_Thing___init__
        simp only [R_some, wb_bl, wi_int, wstr_str, wtup_tup, wlst_lst, wref_ref, wp_var0, wp_varS, wp_C, wp_Bin, wp_neg, wp_nil, wp_cons, wp_tup, wp_lst, wp_lstM, wp_Call, wp_And, wp_Or, wp_Not, wp_Test, wp_tAnd, wp_tOr, wp_tNot, wp_If, wp_Chain, wp_Skip, wp_Break, wp_Cont, wp_Never, wp_fNever, wp_Seq, wp_pfl_nx, wp_pfl_rt, wp_pfl_bk, wp_pfl_ct, wp_Expr, wp_Ret, wp_sIf, wp_Asg, wp_N, wp_gNil, wp_gCons, wp_gTup, wp_gSub, wp_Par, wp_two, wp_Run, wp_run_rt, wp_run_nx, wp_bk_nx, wp_bk_ct, wp_bk_bk, wp_bk_rt, wp_r1, wp_r2, wp_add, wp_addL, wp_addS, wp_mul, wp_fdiv, wp_mod, wp_I0, wp_eqI, wp_eqS, wp_eqB, wp_neI, wp_neS, wp_neB, wp_isN, wp_notN, isn_int, isn_non, isn_str, isn_tup, isn_lst, isn_ref, isn_bl, wp_isi, wp_someB, isi_str_str, isi_int_int, isi_int_bl, isi_bool_int, isi_bool_bl, isi_int_non, isi_int_str, isi_tuple_tup, wp_abs, wp_max2, wp_min2, wp_maxT, wp_intI, wp_intB, wp_lenS, wp_lenT, wp_lenL, wp_lenC, wp_divmod, wp_listL, wp_listT, wp_tupL, wp_tupT, wp_KIn, wp_strE, wp_Fld, wp_FldO, wp_Meth, wp_MakeF, wp_someL, wp_iR1, wp_iR2, wp_iLst, wp_iTup, wp_Prop, wp_IsC, wp_DGet1, wp_DIn, wp_gUnl, wp_DictK, wp_rep, wp_MethK, wp_CallK, wp_DispF, wp_DIx, wp_someX, wp_ixL, wp_ixT, wp_ixC, atI0, atI1, atI2, ixN0, ixN1, wp_Sl, wp_oNone, wp_oSome, wp_slC, wp_slL, wp_slS, str_eq, String.reduceEq, in_ring_crowd, in_ring_star, in_ring_pairs, in_ring_row, in_ring_ring, in_ring_core, in_ring_linked, in_ring_odd_ring, in_ring_even_ring, Bool.or_self, Bool.and_self, wp_Lc, wp_Yes, wp_pow10_9, wp_pow10_18, wp_pow10_40, wp_For, wp_sFld, wp_last, set_last, wp_KIx, wp_inT, wp_inL, eqF_str, flat_str, flat_int, flat_non, List.any_cons, List.any_nil, List.all_cons, List.all_nil, Bool.and_true, Bool.or_false, Bool.true_and, Bool.false_and, Bool.and_false, Bool.false_or, Bool.or_true, Bool.true_or, Bool.not_not, List.map_cons, List.map_nil, List.length_cons, List.length_nil, List.cons_append, List.nil_append, List.append_nil, List.set_cons_zero, List.set_cons_succ, List.replicate_succ, List.replicate_zero, Nat.reduceSub, Nat.reduceAdd, Nat.reduceLeDiff, Nat.zero_add, Nat.sub_self, decide_eq_true_eq, Bool.not_eq_true', Bool.not_eq_eq_eq_not, Bool.not_true, Bool.not_false, decide_eq_false_iff_not, if_true, if_false, reduceIte, Bool.false_eq_true, true_and, and_true, decide_true, decide_false, Bool.true_eq_false, eq_self, hl, Option.isSome_some, hk', eq_R (between_int _ _ _ _), hn.1, hn.2]
        exact ⟨by decide, by decide, rfl⟩
      · cases h
    · cases h
  · cases h

abbrev w_Thing_most : FD := d_Thing_most w_most_of w_check_people
theorem wk_Thing_most (T : Txt w K mg ct C_Thing) : CalleeM P w K mg base ct 4 C_Thing "most" 2 w_Thing_most :=
  ok_Thing_most (k := 3) T ((wk_most_of T).mono (by decide)) ((wk_check_people T).mono (by decide))
abbrev w_Thing_tied : FD := d_Thing_tied w_is_rule_tie w_check_two w_check_people
theorem wk_Thing_tied (T : Txt w K mg ct C_Thing) : CalleeM P w K mg base ct 4 C_Thing "tied" 4 w_Thing_tied :=
  ok_Thing_tied (k := 3) T ((wk_is_rule_tie T).mono (by decide)) ((wk_check_two T).mono (by decide)) ((wk_check_people T).mono (by decide))
abbrev w__law_purse : FD := d__law_purse
theorem wk__law_purse (T : Txt w K mg ct C_Thing) : Callee P w K mg base ct 1 "_law_purse" 2 w__law_purse :=
  ok__law_purse (k := 0) T
abbrev w__law_draw : FD := d__law_draw
theorem wk__law_draw (T : Txt w K mg ct C_Thing) : Callee P w K mg base ct 1 "_law_draw" 2 w__law_draw :=
  ok__law_draw (k := 0) T
abbrev w__law_all : FD := d__law_all
theorem wk__law_all (T : Txt w K mg ct C_Thing) : Callee P w K mg base ct 1 "_law_all" 1 w__law_all :=
  ok__law_all (k := 0) T
abbrev w__law_two : FD := d__law_two
theorem wk__law_two (T : Txt w K mg ct C_Thing) : Callee P w K mg base ct 1 "_law_two" 1 w__law_two :=
  ok__law_two (k := 0) T
abbrev w__law_most : FD := d__law_most w__law_two
theorem wk__law_most (T : Txt w K mg ct C_Thing) : Callee P w K mg base ct 2 "_law_most" 3 w__law_most :=
  ok__law_most (k := 1) T ((wk__law_two T).mono (by decide))
abbrev w__law_right : FD := d__law_right w_Thing_most w__law_most w__law_all w_Thing_tied w__law_draw mkF_Thing
theorem wk__law_right (T : Txt w K mg ct C_Thing) : Callee P w K mg base ct 5 "_law_right" 1 w__law_right :=
  ok__law_right (k := 4) T ((wk_Thing_most T).mono (by decide)) ((wk__law_most T).mono (by decide)) ((wk__law_all T).mono (by decide)) ((wk_Thing_tied T).mono (by decide)) ((wk__law_draw T).mono (by decide)) ((makerF_of (maker_of (dds := []) (wk_Thing___init__ T) 1 (by decide) (fun _ _ => rfl)) mkF_Thing_ok).mono (by decide))
def lawD : FD := d_law w__law_right w__law_purse
theorem law_fn {f : Addr} {fd : FuncData} (F : Fun K "law" "law" s_law f fd) (T : Txt w K mg ct C_Thing) : FnG P w K mg base 12 f fd ["_law_script"] (spD K ct 1 lawD) :=
  fn_law (k := 11) F T ((wk__law_right T).mono (by decide)) ((wk__law_purse T).mono (by decide))
end LW

set_option exponentiation.threshold 2000
namespace LW
open PySem PySem.Spec PyProof.Rows L2 DL
/-! ## the purse: what is left of a great number, a mixed number -/
def Prs (S : Sto) (i : Nat) : Prop := ∃ a b : Int, S[i]? = some (.lst [.int a, .int b]) ∧ 0 ≤ b ∧ b < 2147483647
theorem small_lit {i : Int} (h : -1000000000000000000000 ≤ i) (h2 : i ≤ 1000000000000000000000) : smallI i = true := small_bd (a := 80) (by
  unfold Bd
  have : (2 : Nat) ^ 80 = 1208925819614629174706176 := by decide
  omega) (by decide) (by decide)
theorem lg_lit {i : Int} (h : 0 ≤ i) (h2 : i ≤ 10000000000000000000000000000000000000000000000000000000000000000000000000000000000) : lgI i := lg_bd (a := 300) (by
  unfold Bd
  have : (2 : Nat) ^ 300 = 2037035976334486086268445688409378161051468393665936250636140449354381299763336706183397376 := by decide
  omega) (by decide)
theorem r_draw {S : Sto} {i : Nat} {m : Int} {P : D → Sto → Prop} (h : Prs S i) (hm : 0 < m) (hm2 : m ≤ 10000000000000000000000000000000000000000000000000000000000000000000000000000000000)
    (k : ∀ r S', 0 ≤ r → r < m → Prs S' i → Apart S S' i → P (.int r) S') : R (w__law_draw [.ref i, .int m] S) P := by
  obtain ⟨a, b, hc, hb, hb2⟩ := h
  unfold w__law_draw d__law_draw b__law_draw
  simp only [R_some, wb_bl, wi_int, wstr_str, wtup_tup, wlst_lst, wref_ref, wp_var0, wp_varS, wp_C, wp_Bin, wp_neg, wp_nil, wp_cons, wp_tup, wp_lst, wp_lstM, wp_Call, wp_And, wp_Or, wp_Not, wp_Test, wp_tAnd, wp_tOr, wp_tNot, wp_If, wp_Chain, wp_Skip, wp_Break, wp_Cont, wp_Never, wp_fNever, wp_Seq, wp_pfl_nx, wp_pfl_rt, wp_pfl_bk, wp_pfl_ct, wp_Expr, wp_Ret, wp_sIf, wp_Asg, wp_N, wp_gNil, wp_gCons, wp_gTup, wp_gSub, wp_Par, wp_two, wp_Run, wp_run_rt, wp_run_nx, wp_bk_nx, wp_bk_ct, wp_bk_bk, wp_bk_rt, wp_r1, wp_r2, wp_add, wp_addL, wp_addS, wp_mul, wp_fdiv, wp_mod, wp_I0, wp_eqI, wp_eqS, wp_eqB, wp_neI, wp_neS, wp_neB, wp_isN, wp_notN, isn_int, isn_non, isn_str, isn_tup, isn_lst, isn_ref, isn_bl, wp_isi, wp_someB, isi_str_str, isi_int_int, isi_int_bl, isi_bool_int, isi_bool_bl, isi_int_non, isi_int_str, isi_tuple_tup, wp_abs, wp_max2, wp_min2, wp_maxT, wp_intI, wp_intB, wp_lenS, wp_lenT, wp_lenL, wp_lenC, wp_divmod, wp_listL, wp_listT, wp_tupL, wp_tupT, wp_KIn, wp_strE, wp_Fld, wp_FldO, wp_Meth, wp_MakeF, wp_someL, wp_iR1, wp_iR2, wp_iLst, wp_iTup, wp_Prop, wp_IsC, wp_DGet1, wp_DIn, wp_gUnl, wp_DictK, wp_rep, wp_MethK, wp_CallK, wp_DispF, wp_DIx, wp_someX, wp_ixL, wp_ixT, wp_ixC, atI0, atI1, atI2, ixN0, ixN1, wp_Sl, wp_oNone, wp_oSome, wp_slC, wp_slL, wp_slS, str_eq, String.reduceEq, in_ring_crowd, in_ring_star, in_ring_pairs, in_ring_row, in_ring_ring, in_ring_core, in_ring_linked, in_ring_odd_ring, in_ring_even_ring, Bool.or_self, Bool.and_self, wp_Lc, wp_Yes, wp_pow10_9, wp_pow10_18, wp_pow10_40, wp_For, wp_sFld, wp_last, set_last, wp_KIx, wp_inT, wp_inL, eqF_str, flat_str, flat_int, flat_non, List.any_cons, List.any_nil, List.all_cons, List.all_nil, Bool.and_true, Bool.or_false, Bool.true_and, Bool.false_and, Bool.and_false, Bool.false_or, Bool.or_true, Bool.true_or, Bool.not_not, List.map_cons, List.map_nil, List.length_cons, List.length_nil, List.cons_append, List.nil_append, List.append_nil, List.set_cons_zero, List.set_cons_succ, List.replicate_succ, List.replicate_zero, Nat.reduceSub, Nat.reduceAdd, Nat.reduceLeDiff, Nat.zero_add, Nat.sub_self, decide_eq_true_eq, Bool.not_eq_true', Bool.not_eq_eq_eq_not, Bool.not_true, Bool.not_false, decide_eq_false_iff_not, if_true, if_false, reduceIte, Bool.false_eq_true, true_and, and_true, decide_true, decide_false, Bool.true_eq_false, eq_self, wp_ixR hc, wp_setR hc]
  have hs : smallI b = true := small_lit (by omega) (by omega)
  by_cases ha : 0 < a
  · rw [if_pos ha]
    refine ⟨⟨hm, lg_lit (by omega) hm2⟩, k _ _ (Int.emod_nonneg _ (by omega)) (Int.emod_lt_of_pos _ hm) ⟨a / m, b, set_at hc, hb, hb2⟩ (Apart.set _ _ _)⟩
  · rw [if_neg ha]
    have hc2 : (S.set i (Cell.lst [.int a, .int ((b * 69621 + 40503) % 2147483647)]))[i]? = some (.lst [.int a, .int ((b * 69621 + 40503) % 2147483647)]) := set_at hc
    simp only [R_some, wb_bl, wi_int, wstr_str, wtup_tup, wlst_lst, wref_ref, wp_var0, wp_varS, wp_C, wp_Bin, wp_neg, wp_nil, wp_cons, wp_tup, wp_lst, wp_lstM, wp_Call, wp_And, wp_Or, wp_Not, wp_Test, wp_tAnd, wp_tOr, wp_tNot, wp_If, wp_Chain, wp_Skip, wp_Break, wp_Cont, wp_Never, wp_fNever, wp_Seq, wp_pfl_nx, wp_pfl_rt, wp_pfl_bk, wp_pfl_ct, wp_Expr, wp_Ret, wp_sIf, wp_Asg, wp_N, wp_gNil, wp_gCons, wp_gTup, wp_gSub, wp_Par, wp_two, wp_Run, wp_run_rt, wp_run_nx, wp_bk_nx, wp_bk_ct, wp_bk_bk, wp_bk_rt, wp_r1, wp_r2, wp_add, wp_addL, wp_addS, wp_mul, wp_fdiv, wp_mod, wp_I0, wp_eqI, wp_eqS, wp_eqB, wp_neI, wp_neS, wp_neB, wp_isN, wp_notN, isn_int, isn_non, isn_str, isn_tup, isn_lst, isn_ref, isn_bl, wp_isi, wp_someB, isi_str_str, isi_int_int, isi_int_bl, isi_bool_int, isi_bool_bl, isi_int_non, isi_int_str, isi_tuple_tup, wp_abs, wp_max2, wp_min2, wp_maxT, wp_intI, wp_intB, wp_lenS, wp_lenT, wp_lenL, wp_lenC, wp_divmod, wp_listL, wp_listT, wp_tupL, wp_tupT, wp_KIn, wp_strE, wp_Fld, wp_FldO, wp_Meth, wp_MakeF, wp_someL, wp_iR1, wp_iR2, wp_iLst, wp_iTup, wp_Prop, wp_IsC, wp_DGet1, wp_DIn, wp_gUnl, wp_DictK, wp_rep, wp_MethK, wp_CallK, wp_DispF, wp_DIx, wp_someX, wp_ixL, wp_ixT, wp_ixC, atI0, atI1, atI2, ixN0, ixN1, wp_Sl, wp_oNone, wp_oSome, wp_slC, wp_slL, wp_slS, str_eq, String.reduceEq, in_ring_crowd, in_ring_star, in_ring_pairs, in_ring_row, in_ring_ring, in_ring_core, in_ring_linked, in_ring_odd_ring, in_ring_even_ring, Bool.or_self, Bool.and_self, wp_Lc, wp_Yes, wp_pow10_9, wp_pow10_18, wp_pow10_40, wp_For, wp_sFld, wp_last, set_last, wp_KIx, wp_inT, wp_inL, eqF_str, flat_str, flat_int, flat_non, List.any_cons, List.any_nil, List.all_cons, List.all_nil, Bool.and_true, Bool.or_false, Bool.true_and, Bool.false_and, Bool.and_false, Bool.false_or, Bool.or_true, Bool.true_or, Bool.not_not, List.map_cons, List.map_nil, List.length_cons, List.length_nil, List.cons_append, List.nil_append, List.append_nil, List.set_cons_zero, List.set_cons_succ, List.replicate_succ, List.replicate_zero, Nat.reduceSub, Nat.reduceAdd, Nat.reduceLeDiff, Nat.zero_add, Nat.sub_self, decide_eq_true_eq, Bool.not_eq_true', Bool.not_eq_eq_eq_not, Bool.not_true, Bool.not_false, decide_eq_false_iff_not, if_true, if_false, reduceIte, Bool.false_eq_true, true_and, and_true, decide_true, decide_false, Bool.true_eq_false, eq_self, wp_ixR hc2]
    refine ⟨⟨hs, small_lit (by decide) (by decide)⟩, by decide, ⟨by decide, lg_lit (by decide) (by decide)⟩, hm, ?_⟩
    exact k _ _ (Int.emod_nonneg _ (by omega)) (Int.emod_lt_of_pos _ hm) ⟨a, _, hc2, Int.emod_nonneg _ (by decide), Int.emod_lt_of_pos _ (by decide)⟩ (Apart.set _ _ _)
theorem r_purse (ns : List Int) (hns : ns.length ≤ 63) (k : Int) (h0 : 0 ≤ k) (hk : k ≤ 1000) (S : Sto) {P : D → Sto → Prop} (hP : ∀ S', S'.length = S.length + 1 → Prs S' S.length → (∀ j, j < S.length → S'[j]? = S[j]?) → P (.ref S.length) S') : R (w__law_purse [.scr ns, .int k] S) P := by
  have hcell : ∀ Q : D → Sto → Prop, (∀ z, Q (.int z) S) → R ((fIf (fTest (fBin gLt (fVar 1) (fCall cLen (fCons (fVar 0) fNil)))) (fBin gIx (fVar 0) (fVar 1)) (fBin gMul (fC (.int 7919)) (fBin gAdd (fVar 1) (fC (.int 5))))) [some (.scr ns), some (.int k), none, none, none] S) Q := by
    intro Q hQ
    simp only [R_some, wb_bl, wi_int, wstr_str, wtup_tup, wlst_lst, wref_ref, wp_var0, wp_varS, wp_C, wp_Bin, wp_neg, wp_nil, wp_cons, wp_tup, wp_lst, wp_lstM, wp_Call, wp_And, wp_Or, wp_Not, wp_Test, wp_tAnd, wp_tOr, wp_tNot, wp_If, wp_Chain, wp_Skip, wp_Break, wp_Cont, wp_Never, wp_fNever, wp_Seq, wp_pfl_nx, wp_pfl_rt, wp_pfl_bk, wp_pfl_ct, wp_Expr, wp_Ret, wp_sIf, wp_Asg, wp_N, wp_gNil, wp_gCons, wp_gTup, wp_gSub, wp_Par, wp_two, wp_Run, wp_run_rt, wp_run_nx, wp_bk_nx, wp_bk_ct, wp_bk_bk, wp_bk_rt, wp_r1, wp_r2, wp_add, wp_addL, wp_addS, wp_mul, wp_fdiv, wp_mod, wp_I0, wp_eqI, wp_eqS, wp_eqB, wp_neI, wp_neS, wp_neB, wp_isN, wp_notN, isn_int, isn_non, isn_str, isn_tup, isn_lst, isn_ref, isn_bl, wp_isi, wp_someB, isi_str_str, isi_int_int, isi_int_bl, isi_bool_int, isi_bool_bl, isi_int_non, isi_int_str, isi_tuple_tup, wp_abs, wp_max2, wp_min2, wp_maxT, wp_intI, wp_intB, wp_lenS, wp_lenT, wp_lenL, wp_lenC, wp_divmod, wp_listL, wp_listT, wp_tupL, wp_tupT, wp_KIn, wp_strE, wp_Fld, wp_FldO, wp_Meth, wp_MakeF, wp_someL, wp_iR1, wp_iR2, wp_iLst, wp_iTup, wp_Prop, wp_IsC, wp_DGet1, wp_DIn, wp_gUnl, wp_DictK, wp_rep, wp_MethK, wp_CallK, wp_DispF, wp_DIx, wp_someX, wp_ixL, wp_ixT, wp_ixC, atI0, atI1, atI2, ixN0, ixN1, wp_Sl, wp_oNone, wp_oSome, wp_slC, wp_slL, wp_slS, str_eq, String.reduceEq, in_ring_crowd, in_ring_star, in_ring_pairs, in_ring_row, in_ring_ring, in_ring_core, in_ring_linked, in_ring_odd_ring, in_ring_even_ring, Bool.or_self, Bool.and_self, wp_Lc, wp_Yes, wp_pow10_9, wp_pow10_18, wp_pow10_40, wp_For, wp_sFld, wp_last, set_last, wp_KIx, wp_inT, wp_inL, eqF_str, flat_str, flat_int, flat_non, List.any_cons, List.any_nil, List.all_cons, List.all_nil, Bool.and_true, Bool.or_false, Bool.true_and, Bool.false_and, Bool.and_false, Bool.false_or, Bool.or_true, Bool.true_or, Bool.not_not, List.map_cons, List.map_nil, List.length_cons, List.length_nil, List.cons_append, List.nil_append, List.append_nil, List.set_cons_zero, List.set_cons_succ, List.replicate_succ, List.replicate_zero, Nat.reduceSub, Nat.reduceAdd, Nat.reduceLeDiff, Nat.zero_add, Nat.sub_self, decide_eq_true_eq, Bool.not_eq_true', Bool.not_eq_eq_eq_not, Bool.not_true, Bool.not_false, decide_eq_false_iff_not, if_true, if_false, reduceIte, Bool.false_eq_true, true_and, and_true, decide_true, decide_false, Bool.true_eq_false, eq_self]
    split
    · rename_i hk
      obtain ⟨x, hx, _⟩ := atI_in (xs := ns) h0 hk
      exact ⟨x, hx, hQ x⟩
    · exact ⟨⟨small_lit (by decide) (by decide), small_lit (by omega) (by omega)⟩, hQ _⟩
  unfold w__law_purse d__law_purse b__law_purse
  simp only [R_some, wb_bl, wi_int, wstr_str, wtup_tup, wlst_lst, wref_ref, wp_var0, wp_varS, wp_C, wp_Bin, wp_neg, wp_nil, wp_cons, wp_tup, wp_lst, wp_lstM, wp_Call, wp_And, wp_Or, wp_Not, wp_Test, wp_tAnd, wp_tOr, wp_tNot, wp_Chain, wp_Skip, wp_Break, wp_Cont, wp_Never, wp_fNever, wp_Seq, wp_pfl_nx, wp_pfl_rt, wp_pfl_bk, wp_pfl_ct, wp_Expr, wp_Ret, wp_sIf, wp_Asg, wp_N, wp_gNil, wp_gCons, wp_gTup, wp_gSub, wp_Par, wp_two, wp_Run, wp_run_rt, wp_run_nx, wp_bk_nx, wp_bk_ct, wp_bk_bk, wp_bk_rt, wp_r1, wp_r2, wp_add, wp_addL, wp_addS, wp_mul, wp_fdiv, wp_mod, wp_I0, wp_eqI, wp_eqS, wp_eqB, wp_neI, wp_neS, wp_neB, wp_isN, wp_notN, isn_int, isn_non, isn_str, isn_tup, isn_lst, isn_ref, isn_bl, wp_isi, wp_someB, isi_str_str, isi_int_int, isi_int_bl, isi_bool_int, isi_bool_bl, isi_int_non, isi_int_str, isi_tuple_tup, wp_abs, wp_max2, wp_min2, wp_maxT, wp_intI, wp_intB, wp_lenS, wp_lenT, wp_lenL, wp_lenC, wp_divmod, wp_listL, wp_listT, wp_tupL, wp_tupT, wp_KIn, wp_strE, wp_Fld, wp_FldO, wp_Meth, wp_MakeF, wp_someL, wp_iR1, wp_iR2, wp_iLst, wp_iTup, wp_Prop, wp_IsC, wp_DGet1, wp_DIn, wp_gUnl, wp_DictK, wp_rep, wp_MethK, wp_CallK, wp_DispF, wp_DIx, wp_someX, wp_ixL, wp_ixT, wp_ixC, atI0, atI1, atI2, ixN0, ixN1, wp_Sl, wp_oNone, wp_oSome, wp_slC, wp_slL, wp_slS, str_eq, String.reduceEq, in_ring_crowd, in_ring_star, in_ring_pairs, in_ring_row, in_ring_ring, in_ring_core, in_ring_linked, in_ring_odd_ring, in_ring_even_ring, Bool.or_self, Bool.and_self, wp_Lc, wp_Yes, wp_pow10_9, wp_pow10_18, wp_pow10_40, wp_sFld, wp_last, set_last, wp_KIx, wp_inT, wp_inL, eqF_str, flat_str, flat_int, flat_non, List.any_cons, List.any_nil, List.all_cons, List.all_nil, Bool.and_true, Bool.or_false, Bool.true_and, Bool.false_and, Bool.and_false, Bool.false_or, Bool.or_true, Bool.true_or, Bool.not_not, List.map_cons, List.map_nil, List.length_cons, List.length_nil, List.cons_append, List.nil_append, List.append_nil, List.set_cons_zero, List.set_cons_succ, List.replicate_succ, List.replicate_zero, Nat.reduceSub, Nat.reduceAdd, Nat.reduceLeDiff, Nat.zero_add, Nat.sub_self, decide_eq_true_eq, Bool.not_eq_true', Bool.not_eq_eq_eq_not, Bool.not_true, Bool.not_false, decide_eq_false_iff_not, if_true, if_false, reduceIte, Bool.false_eq_true, true_and, and_true, decide_true, decide_false, Bool.true_eq_false, eq_self]
  refine hcell _ fun z => ?_
  refine r_forM (S1 := S) (items := (cutD ns none (some 5)).map D.int ++ [D.int z]) ?_ (fun env S2 => S2 = S ∧ ∃ (b : Int) (e : Option D), env = [some (.scr ns), some (.int k), some (.int z), some (.int b), e] ∧ 0 ≤ b ∧ b < 2147483647) ⟨rfl, _, _, rfl, by omega, by omega⟩ ?_ ?_
  · rw [← R_eq]
    simp only [R_some, wb_bl, wi_int, wstr_str, wtup_tup, wlst_lst, wref_ref, wp_var0, wp_varS, wp_C, wp_Bin, wp_neg, wp_nil, wp_cons, wp_tup, wp_lst, wp_lstM, wp_Call, wp_And, wp_Or, wp_Not, wp_Test, wp_tAnd, wp_tOr, wp_tNot, wp_If, wp_Chain, wp_Skip, wp_Break, wp_Cont, wp_Never, wp_fNever, wp_Seq, wp_pfl_nx, wp_pfl_rt, wp_pfl_bk, wp_pfl_ct, wp_Expr, wp_Ret, wp_sIf, wp_Asg, wp_N, wp_gNil, wp_gCons, wp_gTup, wp_gSub, wp_Par, wp_two, wp_Run, wp_run_rt, wp_run_nx, wp_bk_nx, wp_bk_ct, wp_bk_bk, wp_bk_rt, wp_r1, wp_r2, wp_add, wp_addL, wp_addS, wp_mul, wp_fdiv, wp_mod, wp_I0, wp_eqI, wp_eqS, wp_eqB, wp_neI, wp_neS, wp_neB, wp_isN, wp_notN, isn_int, isn_non, isn_str, isn_tup, isn_lst, isn_ref, isn_bl, wp_isi, wp_someB, isi_str_str, isi_int_int, isi_int_bl, isi_bool_int, isi_bool_bl, isi_int_non, isi_int_str, isi_tuple_tup, wp_abs, wp_max2, wp_min2, wp_maxT, wp_intI, wp_intB, wp_lenS, wp_lenT, wp_lenL, wp_lenC, wp_divmod, wp_listL, wp_listT, wp_tupL, wp_tupT, wp_KIn, wp_strE, wp_Fld, wp_FldO, wp_Meth, wp_MakeF, wp_someL, wp_iR1, wp_iR2, wp_iLst, wp_iTup, wp_Prop, wp_IsC, wp_DGet1, wp_DIn, wp_gUnl, wp_DictK, wp_rep, wp_MethK, wp_CallK, wp_DispF, wp_DIx, wp_someX, wp_ixL, wp_ixT, wp_ixC, atI0, atI1, atI2, ixN0, ixN1, wp_Sl, wp_oNone, wp_oSome, wp_slC, wp_slL, wp_slS, str_eq, String.reduceEq, in_ring_crowd, in_ring_star, in_ring_pairs, in_ring_row, in_ring_ring, in_ring_core, in_ring_linked, in_ring_odd_ring, in_ring_even_ring, Bool.or_self, Bool.and_self, wp_Lc, wp_Yes, wp_pow10_9, wp_pow10_18, wp_pow10_40, wp_For, wp_sFld, wp_last, set_last, wp_KIx, wp_inT, wp_inL, eqF_str, flat_str, flat_int, flat_non, List.any_cons, List.any_nil, List.all_cons, List.all_nil, Bool.and_true, Bool.or_false, Bool.true_and, Bool.false_and, Bool.and_false, Bool.false_or, Bool.or_true, Bool.true_or, Bool.not_not, List.map_cons, List.map_nil, List.length_cons, List.length_nil, List.cons_append, List.nil_append, List.append_nil, List.set_cons_zero, List.set_cons_succ, List.replicate_succ, List.replicate_zero, Nat.reduceSub, Nat.reduceAdd, Nat.reduceLeDiff, Nat.zero_add, Nat.sub_self, decide_eq_true_eq, Bool.not_eq_true', Bool.not_eq_eq_eq_not, Bool.not_true, Bool.not_false, decide_eq_false_iff_not, if_true, if_false, reduceIte, Bool.false_eq_true, true_and, and_true, decide_true, decide_false, Bool.true_eq_false, eq_self]
    rw [List.length_map]
    unfold DL.cutD
    rw [List.length_take, List.length_drop]
    omega
  · rintro d hd env S2 ⟨rfl, b, e, rfl, hb, hb2⟩
    have hz : ∃ y, d = .int y := by
      rcases List.mem_append.mp hd with q | q
      · obtain ⟨y, _, rfl⟩ := List.mem_map.mp q
        exact ⟨y, rfl⟩
      · exact ⟨z, by simpa using q⟩
    obtain ⟨y, rfl⟩ := hz
    simp only [R_some, wb_bl, wi_int, wstr_str, wtup_tup, wlst_lst, wref_ref, wp_var0, wp_varS, wp_C, wp_Bin, wp_neg, wp_nil, wp_cons, wp_tup, wp_lst, wp_lstM, wp_Call, wp_And, wp_Or, wp_Not, wp_Test, wp_tAnd, wp_tOr, wp_tNot, wp_If, wp_Chain, wp_Skip, wp_Break, wp_Cont, wp_Never, wp_fNever, wp_Seq, wp_pfl_nx, wp_pfl_rt, wp_pfl_bk, wp_pfl_ct, wp_Expr, wp_Ret, wp_sIf, wp_Asg, wp_N, wp_gNil, wp_gCons, wp_gTup, wp_gSub, wp_Par, wp_two, wp_Run, wp_run_rt, wp_run_nx, wp_bk_nx, wp_bk_ct, wp_bk_bk, wp_bk_rt, wp_r1, wp_r2, wp_add, wp_addL, wp_addS, wp_mul, wp_fdiv, wp_mod, wp_I0, wp_eqI, wp_eqS, wp_eqB, wp_neI, wp_neS, wp_neB, wp_isN, wp_notN, isn_int, isn_non, isn_str, isn_tup, isn_lst, isn_ref, isn_bl, wp_isi, wp_someB, isi_str_str, isi_int_int, isi_int_bl, isi_bool_int, isi_bool_bl, isi_int_non, isi_int_str, isi_tuple_tup, wp_abs, wp_max2, wp_min2, wp_maxT, wp_intI, wp_intB, wp_lenS, wp_lenT, wp_lenL, wp_lenC, wp_divmod, wp_listL, wp_listT, wp_tupL, wp_tupT, wp_KIn, wp_strE, wp_Fld, wp_FldO, wp_Meth, wp_MakeF, wp_someL, wp_iR1, wp_iR2, wp_iLst, wp_iTup, wp_Prop, wp_IsC, wp_DGet1, wp_DIn, wp_gUnl, wp_DictK, wp_rep, wp_MethK, wp_CallK, wp_DispF, wp_DIx, wp_someX, wp_ixL, wp_ixT, wp_ixC, atI0, atI1, atI2, ixN0, ixN1, wp_Sl, wp_oNone, wp_oSome, wp_slC, wp_slL, wp_slS, str_eq, String.reduceEq, in_ring_crowd, in_ring_star, in_ring_pairs, in_ring_row, in_ring_ring, in_ring_core, in_ring_linked, in_ring_odd_ring, in_ring_even_ring, Bool.or_self, Bool.and_self, wp_Lc, wp_Yes, wp_pow10_9, wp_pow10_18, wp_pow10_40, wp_For, wp_sFld, wp_last, set_last, wp_KIx, wp_inT, wp_inL, eqF_str, flat_str, flat_int, flat_non, List.any_cons, List.any_nil, List.all_cons, List.all_nil, Bool.and_true, Bool.or_false, Bool.true_and, Bool.false_and, Bool.and_false, Bool.false_or, Bool.or_true, Bool.true_or, Bool.not_not, List.map_cons, List.map_nil, List.length_cons, List.length_nil, List.cons_append, List.nil_append, List.append_nil, List.set_cons_zero, List.set_cons_succ, List.replicate_succ, List.replicate_zero, Nat.reduceSub, Nat.reduceAdd, Nat.reduceLeDiff, Nat.zero_add, Nat.sub_self, decide_eq_true_eq, Bool.not_eq_true', Bool.not_eq_eq_eq_not, Bool.not_true, Bool.not_false, decide_eq_false_iff_not, if_true, if_false, reduceIte, Bool.false_eq_true, true_and, and_true, decide_true, decide_false, Bool.true_eq_false, eq_self]
    refine ⟨⟨small_lit (by omega) (by omega), small_lit (by decide) (by decide)⟩, by decide, by decide, ⟨_, _, rfl, Int.emod_nonneg _ (by decide), Int.emod_lt_of_pos _ (by decide)⟩⟩
  · rintro env S2 ⟨rfl, b, e, rfl, hb, hb2⟩
    simp only [R_some, wb_bl, wi_int, wstr_str, wtup_tup, wlst_lst, wref_ref, wp_var0, wp_varS, wp_C, wp_Bin, wp_neg, wp_nil, wp_cons, wp_tup, wp_lst, wp_lstM, wp_Call, wp_And, wp_Or, wp_Not, wp_Test, wp_tAnd, wp_tOr, wp_tNot, wp_If, wp_Chain, wp_Skip, wp_Break, wp_Cont, wp_Never, wp_fNever, wp_Seq, wp_pfl_nx, wp_pfl_rt, wp_pfl_bk, wp_pfl_ct, wp_Expr, wp_Ret, wp_sIf, wp_Asg, wp_N, wp_gNil, wp_gCons, wp_gTup, wp_gSub, wp_Par, wp_two, wp_Run, wp_run_rt, wp_run_nx, wp_bk_nx, wp_bk_ct, wp_bk_bk, wp_bk_rt, wp_r1, wp_r2, wp_add, wp_addL, wp_addS, wp_mul, wp_fdiv, wp_mod, wp_I0, wp_eqI, wp_eqS, wp_eqB, wp_neI, wp_neS, wp_neB, wp_isN, wp_notN, isn_int, isn_non, isn_str, isn_tup, isn_lst, isn_ref, isn_bl, wp_isi, wp_someB, isi_str_str, isi_int_int, isi_int_bl, isi_bool_int, isi_bool_bl, isi_int_non, isi_int_str, isi_tuple_tup, wp_abs, wp_max2, wp_min2, wp_maxT, wp_intI, wp_intB, wp_lenS, wp_lenT, wp_lenL, wp_lenC, wp_divmod, wp_listL, wp_listT, wp_tupL, wp_tupT, wp_KIn, wp_strE, wp_Fld, wp_FldO, wp_Meth, wp_MakeF, wp_someL, wp_iR1, wp_iR2, wp_iLst, wp_iTup, wp_Prop, wp_IsC, wp_DGet1, wp_DIn, wp_gUnl, wp_DictK, wp_rep, wp_MethK, wp_CallK, wp_DispF, wp_DIx, wp_someX, wp_ixL, wp_ixT, wp_ixC, atI0, atI1, atI2, ixN0, ixN1, wp_Sl, wp_oNone, wp_oSome, wp_slC, wp_slL, wp_slS, str_eq, String.reduceEq, in_ring_crowd, in_ring_star, in_ring_pairs, in_ring_row, in_ring_ring, in_ring_core, in_ring_linked, in_ring_odd_ring, in_ring_even_ring, Bool.or_self, Bool.and_self, wp_Lc, wp_Yes, wp_pow10_9, wp_pow10_18, wp_pow10_40, wp_For, wp_sFld, wp_last, set_last, wp_KIx, wp_inT, wp_inL, eqF_str, flat_str, flat_int, flat_non, List.any_cons, List.any_nil, List.all_cons, List.all_nil, Bool.and_true, Bool.or_false, Bool.true_and, Bool.false_and, Bool.and_false, Bool.false_or, Bool.or_true, Bool.true_or, Bool.not_not, List.map_cons, List.map_nil, List.length_cons, List.length_nil, List.cons_append, List.nil_append, List.append_nil, List.set_cons_zero, List.set_cons_succ, List.replicate_succ, List.replicate_zero, Nat.reduceSub, Nat.reduceAdd, Nat.reduceLeDiff, Nat.zero_add, Nat.sub_self, decide_eq_true_eq, Bool.not_eq_true', Bool.not_eq_eq_eq_not, Bool.not_true, Bool.not_false, decide_eq_false_iff_not, if_true, if_false, reduceIte, Bool.false_eq_true, true_and, and_true, decide_true, decide_false, Bool.true_eq_false, eq_self]
    have q : ∀ a : Int, P (.ref S2.length) (S2 ++ [.lst [.int a, .int b]]) := fun a => hP _ (by simp) ⟨a, b, by simp, hb, hb2⟩ fun j hj => by rw [List.getElem?_append_left hj]
    repeat' split
    all_goals exact q _
theorem r_all (ns : List Int) (hns : ns.length ≤ 63) {env : DEnv} (h0 : env[0]? = some (some (.scr ns))) (hlen : env.length = 2) {S : Sto} {P : D → Sto → Prop} {fi : FA} {m : Int} (hm0 : 0 ≤ m) (hm : m ≤ 1000) (hi : ∀ S, fi env S = some (rangeD 0 m, S)) (hr : ∀ S i, Prs S i → R (w__law_right [.ref i] S) fun d _ => d = .bl true) (hP : ∀ S, P (.bl true) S) :
    R (fCall cAll (fCons (fLc fi (gN 1) tYesD (fCall w__law_right (fCons (fCall w__law_purse (fCons (fVar 0) (fCons (fVar 1) fNil))) fNil)) [1]) fNil) env S) P := by
  match env, hlen, h0 with
  | [e0, e1], _, h0 =>
    have h0 : e0 = some (.scr ns) := by simpa using h0
    subst h0
    simp only [R_some, wb_bl, wi_int, wstr_str, wtup_tup, wlst_lst, wref_ref, wp_var0, wp_varS, wp_C, wp_Bin, wp_neg, wp_nil, wp_cons, wp_tup, wp_lst, wp_lstM, wp_Call, wp_And, wp_Or, wp_Not, wp_Test, wp_tAnd, wp_tOr, wp_tNot, wp_If, wp_Chain, wp_Skip, wp_Break, wp_Cont, wp_Never, wp_fNever, wp_Seq, wp_pfl_nx, wp_pfl_rt, wp_pfl_bk, wp_pfl_ct, wp_Expr, wp_Ret, wp_sIf, wp_Asg, wp_N, wp_gNil, wp_gCons, wp_gTup, wp_gSub, wp_Par, wp_two, wp_Run, wp_run_rt, wp_run_nx, wp_bk_nx, wp_bk_ct, wp_bk_bk, wp_bk_rt, wp_r1, wp_r2, wp_add, wp_addL, wp_addS, wp_mul, wp_fdiv, wp_mod, wp_I0, wp_eqI, wp_eqS, wp_eqB, wp_neI, wp_neS, wp_neB, wp_isN, wp_notN, isn_int, isn_non, isn_str, isn_tup, isn_lst, isn_ref, isn_bl, wp_isi, wp_someB, isi_str_str, isi_int_int, isi_int_bl, isi_bool_int, isi_bool_bl, isi_int_non, isi_int_str, isi_tuple_tup, wp_abs, wp_max2, wp_min2, wp_maxT, wp_intI, wp_intB, wp_lenS, wp_lenT, wp_lenL, wp_lenC, wp_divmod, wp_listL, wp_listT, wp_tupL, wp_tupT, wp_KIn, wp_strE, wp_Fld, wp_FldO, wp_Meth, wp_MakeF, wp_someL, wp_iR1, wp_iR2, wp_iLst, wp_iTup, wp_Prop, wp_IsC, wp_DGet1, wp_DIn, wp_gUnl, wp_DictK, wp_rep, wp_MethK, wp_CallK, wp_DispF, wp_DIx, wp_someX, wp_ixL, wp_ixT, wp_ixC, atI0, atI1, atI2, ixN0, ixN1, wp_Sl, wp_oNone, wp_oSome, wp_slC, wp_slL, wp_slS, str_eq, String.reduceEq, in_ring_crowd, in_ring_star, in_ring_pairs, in_ring_row, in_ring_ring, in_ring_core, in_ring_linked, in_ring_odd_ring, in_ring_even_ring, Bool.or_self, Bool.and_self, wp_Lc, wp_Yes, wp_pow10_9, wp_pow10_18, wp_pow10_40, wp_For, wp_sFld, wp_last, set_last, wp_KIx, wp_inT, wp_inL, eqF_str, flat_str, flat_int, flat_non, List.any_cons, List.any_nil, List.all_cons, List.all_nil, Bool.and_true, Bool.or_false, Bool.true_and, Bool.false_and, Bool.and_false, Bool.false_or, Bool.or_true, Bool.true_or, Bool.not_not, List.map_cons, List.map_nil, List.length_cons, List.length_nil, List.cons_append, List.nil_append, List.append_nil, List.set_cons_zero, List.set_cons_succ, List.replicate_succ, List.replicate_zero, Nat.reduceSub, Nat.reduceAdd, Nat.reduceLeDiff, Nat.zero_add, Nat.sub_self, decide_eq_true_eq, Bool.not_eq_true', Bool.not_eq_eq_eq_not, Bool.not_true, Bool.not_false, decide_eq_false_iff_not, if_true, if_false, reduceIte, Bool.false_eq_true, true_and, and_true, decide_true, decide_false, Bool.true_eq_false, eq_self]
    refine ⟨_, _, hi S, by rw [len_range]; omega, ?_⟩
    refine (r_lcD (fun d => d = .bl true) (fun _ => True) ?_ trivial).imp fun ds S2 h => eq_R (all_true h.1) |>.mpr (hP _)
    intro d hd S _
    obtain ⟨k, rfl, hk0, hk⟩ := mem_range hd
    simp only [R_some, wb_bl, wi_int, wstr_str, wtup_tup, wlst_lst, wref_ref, wp_var0, wp_varS, wp_C, wp_Bin, wp_neg, wp_nil, wp_cons, wp_tup, wp_lst, wp_lstM, wp_Call, wp_And, wp_Or, wp_Not, wp_Test, wp_tAnd, wp_tOr, wp_tNot, wp_If, wp_Chain, wp_Skip, wp_Break, wp_Cont, wp_Never, wp_fNever, wp_Seq, wp_pfl_nx, wp_pfl_rt, wp_pfl_bk, wp_pfl_ct, wp_Expr, wp_Ret, wp_sIf, wp_Asg, wp_N, wp_gNil, wp_gCons, wp_gTup, wp_gSub, wp_Par, wp_two, wp_Run, wp_run_rt, wp_run_nx, wp_bk_nx, wp_bk_ct, wp_bk_bk, wp_bk_rt, wp_r1, wp_r2, wp_add, wp_addL, wp_addS, wp_mul, wp_fdiv, wp_mod, wp_I0, wp_eqI, wp_eqS, wp_eqB, wp_neI, wp_neS, wp_neB, wp_isN, wp_notN, isn_int, isn_non, isn_str, isn_tup, isn_lst, isn_ref, isn_bl, wp_isi, wp_someB, isi_str_str, isi_int_int, isi_int_bl, isi_bool_int, isi_bool_bl, isi_int_non, isi_int_str, isi_tuple_tup, wp_abs, wp_max2, wp_min2, wp_maxT, wp_intI, wp_intB, wp_lenS, wp_lenT, wp_lenL, wp_lenC, wp_divmod, wp_listL, wp_listT, wp_tupL, wp_tupT, wp_KIn, wp_strE, wp_Fld, wp_FldO, wp_Meth, wp_MakeF, wp_someL, wp_iR1, wp_iR2, wp_iLst, wp_iTup, wp_Prop, wp_IsC, wp_DGet1, wp_DIn, wp_gUnl, wp_DictK, wp_rep, wp_MethK, wp_CallK, wp_DispF, wp_DIx, wp_someX, wp_ixL, wp_ixT, wp_ixC, atI0, atI1, atI2, ixN0, ixN1, wp_Sl, wp_oNone, wp_oSome, wp_slC, wp_slL, wp_slS, str_eq, String.reduceEq, in_ring_crowd, in_ring_star, in_ring_pairs, in_ring_row, in_ring_ring, in_ring_core, in_ring_linked, in_ring_odd_ring, in_ring_even_ring, Bool.or_self, Bool.and_self, wp_Lc, wp_Yes, wp_pow10_9, wp_pow10_18, wp_pow10_40, wp_For, wp_sFld, wp_last, set_last, wp_KIx, wp_inT, wp_inL, eqF_str, flat_str, flat_int, flat_non, List.any_cons, List.any_nil, List.all_cons, List.all_nil, Bool.and_true, Bool.or_false, Bool.true_and, Bool.false_and, Bool.and_false, Bool.false_or, Bool.or_true, Bool.true_or, Bool.not_not, List.map_cons, List.map_nil, List.length_cons, List.length_nil, List.cons_append, List.nil_append, List.append_nil, List.set_cons_zero, List.set_cons_succ, List.replicate_succ, List.replicate_zero, Nat.reduceSub, Nat.reduceAdd, Nat.reduceLeDiff, Nat.zero_add, Nat.sub_self, decide_eq_true_eq, Bool.not_eq_true', Bool.not_eq_eq_eq_not, Bool.not_true, Bool.not_false, decide_eq_false_iff_not, if_true, if_false, reduceIte, Bool.false_eq_true, true_and, and_true, decide_true, decide_false, Bool.true_eq_false, eq_self, wipeD]
    refine r_purse ns hns k hk0 (by omega) S fun S' h1 h2 _ => (hr _ _ h2).imp fun d S3 h => h
theorem max_range (ns : List Int) (h : ns.length ≤ 63) (env : DEnv) (h0 : env[0]? = some (some (.scr ns))) {m4 : Int} (hm4 : 2 ≤ m4 ∧ m4 ≤ 100) : ∃ m, 0 ≤ m ∧ m ≤ 1000 ∧ ∀ S, (iRange1 (fCons (fCall cMax2 (fCons (fC (.int 2)) (fCons (fCall cMin2 (fCons (fCall cLen (fCons (fVar 0) fNil)) (fCons (fC (.int m4)) fNil))) fNil))) fNil)) env S = some (rangeD 0 m, S) := by
  match env, h0 with
  | e0 :: r, h0 =>
    have h0 : e0 = some (.scr ns) := by simpa using h0
    subst h0
    have main : ∃ m, 0 ≤ m ∧ m ≤ 1000 ∧ (if (if m4 < (ns.length : Int) then m4 else (ns.length : Int)) > 2 then (if m4 < (ns.length : Int) then m4 else (ns.length : Int)) else 2) = m := by
      refine ⟨_, ?_, ?_, rfl⟩ <;> (repeat' split) <;> omega
    obtain ⟨m, hm0, hm1, e⟩ := main
    refine ⟨m, hm0, hm1, fun S => ?_⟩
    rw [← R_eq]
    simp only [R_some, wb_bl, wi_int, wstr_str, wtup_tup, wlst_lst, wref_ref, wp_var0, wp_varS, wp_C, wp_Bin, wp_neg, wp_nil, wp_cons, wp_tup, wp_lst, wp_lstM, wp_Call, wp_And, wp_Or, wp_Not, wp_Test, wp_tAnd, wp_tOr, wp_tNot, wp_If, wp_Chain, wp_Skip, wp_Break, wp_Cont, wp_Never, wp_fNever, wp_Seq, wp_pfl_nx, wp_pfl_rt, wp_pfl_bk, wp_pfl_ct, wp_Expr, wp_Ret, wp_sIf, wp_Asg, wp_N, wp_gNil, wp_gCons, wp_gTup, wp_gSub, wp_Par, wp_two, wp_Run, wp_run_rt, wp_run_nx, wp_bk_nx, wp_bk_ct, wp_bk_bk, wp_bk_rt, wp_r1, wp_r2, wp_add, wp_addL, wp_addS, wp_mul, wp_fdiv, wp_mod, wp_I0, wp_eqI, wp_eqS, wp_eqB, wp_neI, wp_neS, wp_neB, wp_isN, wp_notN, isn_int, isn_non, isn_str, isn_tup, isn_lst, isn_ref, isn_bl, wp_isi, wp_someB, isi_str_str, isi_int_int, isi_int_bl, isi_bool_int, isi_bool_bl, isi_int_non, isi_int_str, isi_tuple_tup, wp_abs, wp_max2, wp_min2, wp_maxT, wp_intI, wp_intB, wp_lenS, wp_lenT, wp_lenL, wp_lenC, wp_divmod, wp_listL, wp_listT, wp_tupL, wp_tupT, wp_KIn, wp_strE, wp_Fld, wp_FldO, wp_Meth, wp_MakeF, wp_someL, wp_iR1, wp_iR2, wp_iLst, wp_iTup, wp_Prop, wp_IsC, wp_DGet1, wp_DIn, wp_gUnl, wp_DictK, wp_rep, wp_MethK, wp_CallK, wp_DispF, wp_DIx, wp_someX, wp_ixL, wp_ixT, wp_ixC, atI0, atI1, atI2, ixN0, ixN1, wp_Sl, wp_oNone, wp_oSome, wp_slC, wp_slL, wp_slS, str_eq, String.reduceEq, in_ring_crowd, in_ring_star, in_ring_pairs, in_ring_row, in_ring_ring, in_ring_core, in_ring_linked, in_ring_odd_ring, in_ring_even_ring, Bool.or_self, Bool.and_self, wp_Lc, wp_Yes, wp_pow10_9, wp_pow10_18, wp_pow10_40, wp_For, wp_sFld, wp_last, set_last, wp_KIx, wp_inT, wp_inL, eqF_str, flat_str, flat_int, flat_non, List.any_cons, List.any_nil, List.all_cons, List.all_nil, Bool.and_true, Bool.or_false, Bool.true_and, Bool.false_and, Bool.and_false, Bool.false_or, Bool.or_true, Bool.true_or, Bool.not_not, List.map_cons, List.map_nil, List.length_cons, List.length_nil, List.cons_append, List.nil_append, List.append_nil, List.set_cons_zero, List.set_cons_succ, List.replicate_succ, List.replicate_zero, Nat.reduceSub, Nat.reduceAdd, Nat.reduceLeDiff, Nat.zero_add, Nat.sub_self, decide_eq_true_eq, Bool.not_eq_true', Bool.not_eq_eq_eq_not, Bool.not_true, Bool.not_false, decide_eq_false_iff_not, if_true, if_false, reduceIte, Bool.false_eq_true, true_and, and_true, decide_true, decide_false, Bool.true_eq_false, eq_self, e]
    exact okR_of (by omega) (by omega)
end LW

set_option exponentiation.threshold 2000
namespace LW
open PySem PySem.Spec PyProof.Rows L2 DL
/-! ## the most ties, by kinds -/
def two (n : Int) : Int := n * (n - 1) / 2
theorem two_two (n : Int) : 2 * two n = n * (n - 1) := by
  have h : n * (n - 1) % 2 = 0 := by
    rcases (by omega : n % 2 = 0 ∨ n % 2 = 1) with h | h
    · rw [Int.mul_emod, h]; simp
    · rw [Int.mul_emod, show (n - 1) % 2 = 0 by omega]; simp
  unfold two
  omega
theorem bd_lit {n : Int} (h : -100000000000000000000000000000000000000000000 ≤ n) (h2 : n ≤ 100000000000000000000000000000000000000000000) : Bd 150 n := by
  unfold Bd
  have : (2 : Nat) ^ 150 = 1427247692705959881058285969449495136382746624 := by decide
  omega
theorem bd_two {n : Int} (h : Bd 150 n) (h' : Bd 150 (n - 1)) : Bd 301 (two n) := bd_div (bd_mul h h') (by decide)
theorem sm {n : Int} (h : Bd 150 n) : smallI n = true := small_bd h (by decide) (by decide)
theorem sm' {n : Int} (h : Bd 301 n) : smallI n = true := small_bd h (by decide) (by decide)
/-- a whole number of at most 44 figures -/
def Nb (n : Int) : Prop := -10000000000000000000000000000000000000000000 ≤ n ∧ n ≤ 10000000000000000000000000000000000000000000
theorem Nb.bd {n : Int} (h : Nb n) : Bd 150 n := by
  unfold Nb at h
  exact bd_lit (by omega) (by omega)
theorem Nb.sm {n : Int} (h : Nb n) : smallI n = true := LW.sm h.bd
theorem pairs_eq {n : Int} (h : Nb n) (S : Sto) : w_pairs_of [.int n] S = some (.int (two n), S) := by
  rw [← R_eq]
  unfold w_pairs_of d_pairs_of b_pairs_of
  simp only [R_some, wb_bl, wi_int, wstr_str, wtup_tup, wlst_lst, wref_ref, wp_var0, wp_varS, wp_C, wp_Bin, wp_neg, wp_nil, wp_cons, wp_tup, wp_lst, wp_lstM, wp_Call, wp_And, wp_Or, wp_Not, wp_Test, wp_tAnd, wp_tOr, wp_tNot, wp_If, wp_Chain, wp_Skip, wp_Break, wp_Cont, wp_Never, wp_fNever, wp_Seq, wp_pfl_nx, wp_pfl_rt, wp_pfl_bk, wp_pfl_ct, wp_Expr, wp_Ret, wp_sIf, wp_Asg, wp_N, wp_gNil, wp_gCons, wp_gTup, wp_gSub, wp_Par, wp_two, wp_Run, wp_run_rt, wp_run_nx, wp_bk_nx, wp_bk_ct, wp_bk_bk, wp_bk_rt, wp_r1, wp_r2, wp_add, wp_addL, wp_addS, wp_mul, wp_fdiv, wp_mod, wp_I0, wp_eqI, wp_eqS, wp_eqB, wp_neI, wp_neS, wp_neB, wp_isN, wp_notN, isn_int, isn_non, isn_str, isn_tup, isn_lst, isn_ref, isn_bl, wp_isi, wp_someB, isi_str_str, isi_int_int, isi_int_bl, isi_bool_int, isi_bool_bl, isi_int_non, isi_int_str, isi_tuple_tup, wp_abs, wp_max2, wp_min2, wp_maxT, wp_intI, wp_intB, wp_lenS, wp_lenT, wp_lenL, wp_lenC, wp_divmod, wp_listL, wp_listT, wp_tupL, wp_tupT, wp_KIn, wp_strE, wp_Fld, wp_FldO, wp_Meth, wp_MakeF, wp_someL, wp_iR1, wp_iR2, wp_iLst, wp_iTup, wp_Prop, wp_IsC, wp_DGet1, wp_DIn, wp_gUnl, wp_DictK, wp_rep, wp_MethK, wp_CallK, wp_DispF, wp_DIx, wp_someX, wp_ixL, wp_ixT, wp_ixC, atI0, atI1, atI2, ixN0, ixN1, wp_Sl, wp_oNone, wp_oSome, wp_slC, wp_slL, wp_slS, str_eq, String.reduceEq, in_ring_crowd, in_ring_star, in_ring_pairs, in_ring_row, in_ring_ring, in_ring_core, in_ring_linked, in_ring_odd_ring, in_ring_even_ring, Bool.or_self, Bool.and_self, wp_Lc, wp_Yes, wp_pow10_9, wp_pow10_18, wp_pow10_40, wp_For, wp_sFld, wp_last, set_last, wp_KIx, wp_inT, wp_inL, eqF_str, flat_str, flat_int, flat_non, List.any_cons, List.any_nil, List.all_cons, List.all_nil, Bool.and_true, Bool.or_false, Bool.true_and, Bool.false_and, Bool.and_false, Bool.false_or, Bool.or_true, Bool.true_or, Bool.not_not, List.map_cons, List.map_nil, List.length_cons, List.length_nil, List.cons_append, List.nil_append, List.append_nil, List.set_cons_zero, List.set_cons_succ, List.replicate_succ, List.replicate_zero, Nat.reduceSub, Nat.reduceAdd, Nat.reduceLeDiff, Nat.zero_add, Nat.sub_self, decide_eq_true_eq, Bool.not_eq_true', Bool.not_eq_eq_eq_not, Bool.not_true, Bool.not_false, decide_eq_false_iff_not, if_true, if_false, reduceIte, Bool.false_eq_true, true_and, and_true, decide_true, decide_false, Bool.true_eq_false, eq_self]
  exact ⟨⟨h.sm, sm (by unfold Nb at h; exact bd_lit (by omega) (by omega))⟩, ⟨by decide, lg_lit (by decide) (by decide)⟩, rfl⟩
theorem two_sm {n : Int} (h : Nb n) : smallI (two n) = true := sm' (bd_two h.bd (by unfold Nb at h; exact bd_lit (by omega) (by omega)))
/-- people, a number of a thing -/
def Pe (n : Int) : Prop := 0 ≤ n ∧ n ≤ 10000000000000000000000000000000000000000
theorem div_le {n j : Int} (h : 0 ≤ n) (hj : 0 < j) : 0 ≤ n / j ∧ n / j ≤ n := ⟨Int.ediv_nonneg h (by omega), Int.ediv_le_self _ h⟩
theorem mod_le {n j : Int} (h : 0 ≤ n) (hj : 0 < j) : 0 ≤ n % j ∧ n % j < j ∧ n % j ≤ n := ⟨Int.emod_nonneg _ (by omega), Int.emod_lt_of_pos _ hj, (by
  have h1 := Int.mul_ediv_add_emod n j
  have h2 := Int.mul_nonneg (show 0 ≤ j by omega) (Int.ediv_nonneg h (show 0 ≤ j by omega))
  omega)⟩
theorem lgk {n : Int} (h : 0 ≤ n) (h2 : n ≤ 10000000000000000000000000000000000000000) : lgI n := lg_lit h (by omega)
theorem check_eq {n m : Int} (h0 : 0 ≤ n) (hm : n ≤ m) (S : Sto) : w_check_people [.int n, .int m] S = some (.non, S) := by
  rw [← R_eq]
  unfold w_check_people d_check_people b_check_people
  simp only [R_some, wb_bl, wi_int, wstr_str, wtup_tup, wlst_lst, wref_ref, wp_var0, wp_varS, wp_C, wp_Bin, wp_neg, wp_nil, wp_cons, wp_tup, wp_lst, wp_lstM, wp_Call, wp_And, wp_Or, wp_Not, wp_Test, wp_tAnd, wp_tOr, wp_tNot, wp_If, wp_Chain, wp_Skip, wp_Break, wp_Cont, wp_Never, wp_fNever, wp_Seq, wp_pfl_nx, wp_pfl_rt, wp_pfl_bk, wp_pfl_ct, wp_Expr, wp_Ret, wp_sIf, wp_Asg, wp_N, wp_gNil, wp_gCons, wp_gTup, wp_gSub, wp_Par, wp_two, wp_Run, wp_run_rt, wp_run_nx, wp_bk_nx, wp_bk_ct, wp_bk_bk, wp_bk_rt, wp_r1, wp_r2, wp_add, wp_addL, wp_addS, wp_mul, wp_fdiv, wp_mod, wp_I0, wp_eqI, wp_eqS, wp_eqB, wp_neI, wp_neS, wp_neB, wp_isN, wp_notN, isn_int, isn_non, isn_str, isn_tup, isn_lst, isn_ref, isn_bl, wp_isi, wp_someB, isi_str_str, isi_int_int, isi_int_bl, isi_bool_int, isi_bool_bl, isi_int_non, isi_int_str, isi_tuple_tup, wp_abs, wp_max2, wp_min2, wp_maxT, wp_intI, wp_intB, wp_lenS, wp_lenT, wp_lenL, wp_lenC, wp_divmod, wp_listL, wp_listT, wp_tupL, wp_tupT, wp_KIn, wp_strE, wp_Fld, wp_FldO, wp_Meth, wp_MakeF, wp_someL, wp_iR1, wp_iR2, wp_iLst, wp_iTup, wp_Prop, wp_IsC, wp_DGet1, wp_DIn, wp_gUnl, wp_DictK, wp_rep, wp_MethK, wp_CallK, wp_DispF, wp_DIx, wp_someX, wp_ixL, wp_ixT, wp_ixC, atI0, atI1, atI2, ixN0, ixN1, wp_Sl, wp_oNone, wp_oSome, wp_slC, wp_slL, wp_slS, str_eq, String.reduceEq, in_ring_crowd, in_ring_star, in_ring_pairs, in_ring_row, in_ring_ring, in_ring_core, in_ring_linked, in_ring_odd_ring, in_ring_even_ring, Bool.or_self, Bool.and_self, wp_Lc, wp_Yes, wp_pow10_9, wp_pow10_18, wp_pow10_40, wp_For, wp_sFld, wp_last, set_last, wp_KIx, wp_inT, wp_inL, eqF_str, flat_str, flat_int, flat_non, List.any_cons, List.any_nil, List.all_cons, List.all_nil, Bool.and_true, Bool.or_false, Bool.true_and, Bool.false_and, Bool.and_false, Bool.false_or, Bool.or_true, Bool.true_or, Bool.not_not, List.map_cons, List.map_nil, List.length_cons, List.length_nil, List.cons_append, List.nil_append, List.append_nil, List.set_cons_zero, List.set_cons_succ, List.replicate_succ, List.replicate_zero, Nat.reduceSub, Nat.reduceAdd, Nat.reduceLeDiff, Nat.zero_add, Nat.sub_self, decide_eq_true_eq, Bool.not_eq_true', Bool.not_eq_eq_eq_not, Bool.not_true, Bool.not_false, decide_eq_false_iff_not, if_true, if_false, reduceIte, Bool.false_eq_true, true_and, and_true, decide_true, decide_false, Bool.true_eq_false, eq_self, eq_R (isint_int _ _)]
  rw [if_neg (by omega), if_neg (by omega)]
  trivial
/-- a thing as a value -/
abbrev thing (k : Str) (x : D) : D := .obj "Thing" ["word", "many"] [.str k, x]
theorem word_fld {k : Str} {x : D} : getF ["word", "many"] [.str k, x] "word" = some (.str k) := rfl
theorem many_fld {k : Str} {x : D} : getF ["word", "many"] [.str k, x] "many" = some x := by
  show (if ("word" : Str) = "many" then _ else _) = _
  rw [if_neg (by decide +kernel)]
  rfl
theorem mk_num {k : Str} {lo n : Int} (h : tab_LEAST.lookup k = some lo) (h1 : lo ≤ n) (h2 : n ≤ 10000000000000000000000000000000000000000) : mkF_Thing [.str k, .int n] = some [.str k, .int n] := by
  unfold mkF_Thing
  simp only [h]
  rw [if_pos ⟨h1, h2⟩]
theorem mk_odd : mkF_Thing [.str "odd ring", .non] = some [.str "odd ring", .non] := by
  show (if ("odd ring" : Str) = "odd ring" ∨ ("odd ring" : Str) = "even ring" then some [D.str "odd ring", .non] else none) = _
  rw [if_pos (.inl rfl)]
theorem mk_even : mkF_Thing [.str "even ring", .non] = some [.str "even ring", .non] := by
  show (if ("even ring" : Str) = "odd ring" ∨ ("even ring" : Str) = "even ring" then some [D.str "even ring", .non] else none) = _
  rw [if_pos (.inr rfl)]
theorem lk_crowd : tab_LEAST.lookup ("crowd" : Str) = some 2 := by decide +kernel
theorem lk_star : tab_LEAST.lookup ("star" : Str) = some 1 := by decide +kernel
theorem lk_pairs : tab_LEAST.lookup ("pairs" : Str) = some 1 := by decide +kernel
theorem lk_row : tab_LEAST.lookup ("row" : Str) = some 2 := by decide +kernel
theorem lk_ring : tab_LEAST.lookup ("ring" : Str) = some 3 := by decide +kernel
theorem lk_core : tab_LEAST.lookup ("core" : Str) = some 1 := by decide +kernel
theorem lk_linked : tab_LEAST.lookup ("linked" : Str) = some 1 := by decide +kernel
theorem ins_thing {k : Str} {x : D} {S : Sto} {m : Str} {Q : Prop} (h : hasF ["word", "many"] m = false) : ((∃ q, insOf "Thing" (thing k x) S = some q ∧ hasF q.1 m = false) ∧ Q) ↔ Q := by
  refine ⟨fun h => h.2, fun q => ⟨⟨(["word", "many"], [.str k, x]), ?_, h⟩, q⟩⟩
  show (if ("Thing" : Str) = "Thing" then some _ else none) = _
  rw [if_pos rfl]
end LW

set_option exponentiation.threshold 2000
namespace LW
open PySem PySem.Spec PyProof.Rows L2 DL
/-! ## the most ties, by kinds -/
def mCrowd (k n : Int) : Int := two n - n % (k - 1) * two (n / (k - 1) + 1) - (k - 1 - n % (k - 1)) * two (n / (k - 1))
def mStar (k n : Int) : Int := if n * (k - 1) / 2 < two n then n * (k - 1) / 2 else two n
def mRow (k n : Int) : Int := n / (k - 1) * two (k - 1) + two (n % (k - 1))
def mRing (k n : Int) : Int := if n = 0 then 0 else (n - 1) / (k - 2) * two (k - 1) + two ((n - 1) % (k - 2) + 1)
def mOdd (n : Int) : Int := if n = 0 then 0 else n * n / 4
def mEven (n : Int) : Int := if n = 0 then 0 else 3 * (n - 1) / 2
def mPairs (k n : Int) : Int := if n < 2 * k then two n else if two (k - 1) + (k - 1) * (n - k + 1) > two (2 * k - 1) then two (k - 1) + (k - 1) * (n - k + 1) else two (2 * k - 1)
def mCore (k n : Int) : Int := if n < k then two n else (k - 1) * n - two k
def mLinked (k n : Int) : Int := if n ≤ k then two n else two (n - 1) + k - 1
theorem most_crowd {k n : Int} (hk : Pe k) (h2 : 2 ≤ k) (hn : Pe n) (S : Sto) : w_most_of [.str "crowd", .int k, .int n] S = some (.int (mCrowd k n), S) := by
  unfold Pe at hk hn
  have h1 := div_le (n := n) (j := k - 1) (by omega) (by omega)
  have h3 := mod_le (n := n) (j := k - 1) (by omega) (by omega)
  have b1 : Nb (n / (k - 1)) := by unfold Nb; omega
  have b2 : Nb (n / (k - 1) + 1) := by unfold Nb; omega
  have b3 : Nb (n % (k - 1)) := by unfold Nb; omega
  have b4 : Nb (k - 1 - n % (k - 1)) := by unfold Nb; omega
  have b5 : Nb n := by unfold Nb; omega
  rw [← R_eq]
  unfold w_most_of d_most_of b_most_of w_most_groups d_most_groups b_most_groups
  simp only [R_some, wb_bl, wi_int, wstr_str, wtup_tup, wlst_lst, wref_ref, wp_var0, wp_varS, wp_C, wp_Bin, wp_neg, wp_nil, wp_cons, wp_tup, wp_lst, wp_lstM, wp_Call, wp_And, wp_Or, wp_Not, wp_Test, wp_tAnd, wp_tOr, wp_tNot, wp_If, wp_Chain, wp_Skip, wp_Break, wp_Cont, wp_Never, wp_fNever, wp_Seq, wp_pfl_nx, wp_pfl_rt, wp_pfl_bk, wp_pfl_ct, wp_Expr, wp_Ret, wp_sIf, wp_Asg, wp_N, wp_gNil, wp_gCons, wp_gTup, wp_gSub, wp_Par, wp_two, wp_Run, wp_run_rt, wp_run_nx, wp_bk_nx, wp_bk_ct, wp_bk_bk, wp_bk_rt, wp_r1, wp_r2, wp_add, wp_addL, wp_addS, wp_mul, wp_fdiv, wp_mod, wp_I0, wp_eqI, wp_eqS, wp_eqB, wp_neI, wp_neS, wp_neB, wp_isN, wp_notN, isn_int, isn_non, isn_str, isn_tup, isn_lst, isn_ref, isn_bl, wp_isi, wp_someB, isi_str_str, isi_int_int, isi_int_bl, isi_bool_int, isi_bool_bl, isi_int_non, isi_int_str, isi_tuple_tup, wp_abs, wp_max2, wp_min2, wp_maxT, wp_intI, wp_intB, wp_lenS, wp_lenT, wp_lenL, wp_lenC, wp_divmod, wp_listL, wp_listT, wp_tupL, wp_tupT, wp_KIn, wp_strE, wp_Fld, wp_FldO, wp_Meth, wp_MakeF, wp_someL, wp_iR1, wp_iR2, wp_iLst, wp_iTup, wp_Prop, wp_IsC, wp_DGet1, wp_DIn, wp_gUnl, wp_DictK, wp_rep, wp_MethK, wp_CallK, wp_DispF, wp_DIx, wp_someX, wp_ixL, wp_ixT, wp_ixC, atI0, atI1, atI2, ixN0, ixN1, wp_Sl, wp_oNone, wp_oSome, wp_slC, wp_slL, wp_slS, str_eq, String.reduceEq, in_ring_crowd, in_ring_star, in_ring_pairs, in_ring_row, in_ring_ring, in_ring_core, in_ring_linked, in_ring_odd_ring, in_ring_even_ring, Bool.or_self, Bool.and_self, wp_Lc, wp_Yes, wp_pow10_9, wp_pow10_18, wp_pow10_40, wp_For, wp_sFld, wp_last, set_last, wp_KIx, wp_inT, wp_inL, eqF_str, flat_str, flat_int, flat_non, List.any_cons, List.any_nil, List.all_cons, List.all_nil, Bool.and_true, Bool.or_false, Bool.true_and, Bool.false_and, Bool.and_false, Bool.false_or, Bool.or_true, Bool.true_or, Bool.not_not, List.map_cons, List.map_nil, List.length_cons, List.length_nil, List.cons_append, List.nil_append, List.append_nil, List.set_cons_zero, List.set_cons_succ, List.replicate_succ, List.replicate_zero, Nat.reduceSub, Nat.reduceAdd, Nat.reduceLeDiff, Nat.zero_add, Nat.sub_self, decide_eq_true_eq, Bool.not_eq_true', Bool.not_eq_eq_eq_not, Bool.not_true, Bool.not_false, decide_eq_false_iff_not, if_true, if_false, reduceIte, Bool.false_eq_true, true_and, and_true, decide_true, decide_false, Bool.true_eq_false, eq_self, eq_R (pairs_eq b1 _), eq_R (pairs_eq b2 _), eq_R (pairs_eq b5 _)]
  exact ⟨⟨by omega, lgk (by omega) (by omega)⟩, by omega, ⟨b3.sm, two_sm b2⟩, ⟨b4.sm, two_sm b1⟩, rfl⟩
theorem most_row {k n : Int} (hk : Pe k) (h2 : 2 ≤ k) (hn : Pe n) (S : Sto) : w_most_of [.str "row", .int k, .int n] S = some (.int (mRow k n), S) := by
  unfold Pe at hk hn
  have h1 := div_le (n := n) (j := k - 1) (by omega) (by omega)
  have h3 := mod_le (n := n) (j := k - 1) (by omega) (by omega)
  have b1 : Nb (n / (k - 1)) := by unfold Nb; omega
  have b2 : Nb (k - 1) := by unfold Nb; omega
  have b3 : Nb (n % (k - 1)) := by unfold Nb; omega
  rw [← R_eq]
  unfold w_most_of d_most_of b_most_of w_most_groups d_most_groups b_most_groups
  simp only [R_some, wb_bl, wi_int, wstr_str, wtup_tup, wlst_lst, wref_ref, wp_var0, wp_varS, wp_C, wp_Bin, wp_neg, wp_nil, wp_cons, wp_tup, wp_lst, wp_lstM, wp_Call, wp_And, wp_Or, wp_Not, wp_Test, wp_tAnd, wp_tOr, wp_tNot, wp_If, wp_Chain, wp_Skip, wp_Break, wp_Cont, wp_Never, wp_fNever, wp_Seq, wp_pfl_nx, wp_pfl_rt, wp_pfl_bk, wp_pfl_ct, wp_Expr, wp_Ret, wp_sIf, wp_Asg, wp_N, wp_gNil, wp_gCons, wp_gTup, wp_gSub, wp_Par, wp_two, wp_Run, wp_run_rt, wp_run_nx, wp_bk_nx, wp_bk_ct, wp_bk_bk, wp_bk_rt, wp_r1, wp_r2, wp_add, wp_addL, wp_addS, wp_mul, wp_fdiv, wp_mod, wp_I0, wp_eqI, wp_eqS, wp_eqB, wp_neI, wp_neS, wp_neB, wp_isN, wp_notN, isn_int, isn_non, isn_str, isn_tup, isn_lst, isn_ref, isn_bl, wp_isi, wp_someB, isi_str_str, isi_int_int, isi_int_bl, isi_bool_int, isi_bool_bl, isi_int_non, isi_int_str, isi_tuple_tup, wp_abs, wp_max2, wp_min2, wp_maxT, wp_intI, wp_intB, wp_lenS, wp_lenT, wp_lenL, wp_lenC, wp_divmod, wp_listL, wp_listT, wp_tupL, wp_tupT, wp_KIn, wp_strE, wp_Fld, wp_FldO, wp_Meth, wp_MakeF, wp_someL, wp_iR1, wp_iR2, wp_iLst, wp_iTup, wp_Prop, wp_IsC, wp_DGet1, wp_DIn, wp_gUnl, wp_DictK, wp_rep, wp_MethK, wp_CallK, wp_DispF, wp_DIx, wp_someX, wp_ixL, wp_ixT, wp_ixC, atI0, atI1, atI2, ixN0, ixN1, wp_Sl, wp_oNone, wp_oSome, wp_slC, wp_slL, wp_slS, str_eq, String.reduceEq, in_ring_crowd, in_ring_star, in_ring_pairs, in_ring_row, in_ring_ring, in_ring_core, in_ring_linked, in_ring_odd_ring, in_ring_even_ring, Bool.or_self, Bool.and_self, wp_Lc, wp_Yes, wp_pow10_9, wp_pow10_18, wp_pow10_40, wp_For, wp_sFld, wp_last, set_last, wp_KIx, wp_inT, wp_inL, eqF_str, flat_str, flat_int, flat_non, List.any_cons, List.any_nil, List.all_cons, List.all_nil, Bool.and_true, Bool.or_false, Bool.true_and, Bool.false_and, Bool.and_false, Bool.false_or, Bool.or_true, Bool.true_or, Bool.not_not, List.map_cons, List.map_nil, List.length_cons, List.length_nil, List.cons_append, List.nil_append, List.append_nil, List.set_cons_zero, List.set_cons_succ, List.replicate_succ, List.replicate_zero, Nat.reduceSub, Nat.reduceAdd, Nat.reduceLeDiff, Nat.zero_add, Nat.sub_self, decide_eq_true_eq, Bool.not_eq_true', Bool.not_eq_eq_eq_not, Bool.not_true, Bool.not_false, decide_eq_false_iff_not, if_true, if_false, reduceIte, Bool.false_eq_true, true_and, and_true, decide_true, decide_false, Bool.true_eq_false, eq_self, eq_R (pairs_eq b2 _), eq_R (pairs_eq b3 _)]
  exact ⟨⟨by omega, lgk (by omega) (by omega)⟩, by omega, ⟨b1.sm, two_sm b2⟩, rfl⟩
theorem most_star {k n : Int} (hk : Pe k) (h2 : 1 ≤ k) (hn : Pe n) (S : Sto) : w_most_of [.str "star", .int k, .int n] S = some (.int (mStar k n), S) := by
  unfold Pe at hk hn
  have b1 : Nb n := by unfold Nb; omega
  have b2 : Nb (k - 1) := by unfold Nb; omega
  rw [← R_eq]
  unfold w_most_of d_most_of b_most_of w_most_groups d_most_groups b_most_groups
  simp only [R_some, wb_bl, wi_int, wstr_str, wtup_tup, wlst_lst, wref_ref, wp_var0, wp_varS, wp_C, wp_Bin, wp_neg, wp_nil, wp_cons, wp_tup, wp_lst, wp_lstM, wp_Call, wp_And, wp_Or, wp_Not, wp_Test, wp_tAnd, wp_tOr, wp_tNot, wp_If, wp_Chain, wp_Skip, wp_Break, wp_Cont, wp_Never, wp_fNever, wp_Seq, wp_pfl_nx, wp_pfl_rt, wp_pfl_bk, wp_pfl_ct, wp_Expr, wp_Ret, wp_sIf, wp_Asg, wp_N, wp_gNil, wp_gCons, wp_gTup, wp_gSub, wp_Par, wp_two, wp_Run, wp_run_rt, wp_run_nx, wp_bk_nx, wp_bk_ct, wp_bk_bk, wp_bk_rt, wp_r1, wp_r2, wp_add, wp_addL, wp_addS, wp_mul, wp_fdiv, wp_mod, wp_I0, wp_eqI, wp_eqS, wp_eqB, wp_neI, wp_neS, wp_neB, wp_isN, wp_notN, isn_int, isn_non, isn_str, isn_tup, isn_lst, isn_ref, isn_bl, wp_isi, wp_someB, isi_str_str, isi_int_int, isi_int_bl, isi_bool_int, isi_bool_bl, isi_int_non, isi_int_str, isi_tuple_tup, wp_abs, wp_max2, wp_min2, wp_maxT, wp_intI, wp_intB, wp_lenS, wp_lenT, wp_lenL, wp_lenC, wp_divmod, wp_listL, wp_listT, wp_tupL, wp_tupT, wp_KIn, wp_strE, wp_Fld, wp_FldO, wp_Meth, wp_MakeF, wp_someL, wp_iR1, wp_iR2, wp_iLst, wp_iTup, wp_Prop, wp_IsC, wp_DGet1, wp_DIn, wp_gUnl, wp_DictK, wp_rep, wp_MethK, wp_CallK, wp_DispF, wp_DIx, wp_someX, wp_ixL, wp_ixT, wp_ixC, atI0, atI1, atI2, ixN0, ixN1, wp_Sl, wp_oNone, wp_oSome, wp_slC, wp_slL, wp_slS, str_eq, String.reduceEq, in_ring_crowd, in_ring_star, in_ring_pairs, in_ring_row, in_ring_ring, in_ring_core, in_ring_linked, in_ring_odd_ring, in_ring_even_ring, Bool.or_self, Bool.and_self, wp_Lc, wp_Yes, wp_pow10_9, wp_pow10_18, wp_pow10_40, wp_For, wp_sFld, wp_last, set_last, wp_KIx, wp_inT, wp_inL, eqF_str, flat_str, flat_int, flat_non, List.any_cons, List.any_nil, List.all_cons, List.all_nil, Bool.and_true, Bool.or_false, Bool.true_and, Bool.false_and, Bool.and_false, Bool.false_or, Bool.or_true, Bool.true_or, Bool.not_not, List.map_cons, List.map_nil, List.length_cons, List.length_nil, List.cons_append, List.nil_append, List.append_nil, List.set_cons_zero, List.set_cons_succ, List.replicate_succ, List.replicate_zero, Nat.reduceSub, Nat.reduceAdd, Nat.reduceLeDiff, Nat.zero_add, Nat.sub_self, decide_eq_true_eq, Bool.not_eq_true', Bool.not_eq_eq_eq_not, Bool.not_true, Bool.not_false, decide_eq_false_iff_not, if_true, if_false, reduceIte, Bool.false_eq_true, true_and, and_true, decide_true, decide_false, Bool.true_eq_false, eq_self, eq_R (pairs_eq b1 _)]
  exact ⟨⟨b1.sm, b2.sm⟩, ⟨by decide, lgk (by decide) (by decide)⟩, rfl⟩
theorem most_ring {k n : Int} (hk : Pe k) (h2 : 3 ≤ k) (hn : Pe n) (S : Sto) : w_most_of [.str "ring", .int k, .int n] S = some (.int (mRing k n), S) := by
  unfold Pe at hk hn
  rw [← R_eq]
  unfold w_most_of d_most_of b_most_of w_most_rings d_most_rings b_most_rings mRing
  by_cases h0 : n = 0
  · simp only [R_some, wb_bl, wi_int, wstr_str, wtup_tup, wlst_lst, wref_ref, wp_var0, wp_varS, wp_C, wp_Bin, wp_neg, wp_nil, wp_cons, wp_tup, wp_lst, wp_lstM, wp_Call, wp_And, wp_Or, wp_Not, wp_Test, wp_tAnd, wp_tOr, wp_tNot, wp_If, wp_Chain, wp_Skip, wp_Break, wp_Cont, wp_Never, wp_fNever, wp_Seq, wp_pfl_nx, wp_pfl_rt, wp_pfl_bk, wp_pfl_ct, wp_Expr, wp_Ret, wp_sIf, wp_Asg, wp_N, wp_gNil, wp_gCons, wp_gTup, wp_gSub, wp_Par, wp_two, wp_Run, wp_run_rt, wp_run_nx, wp_bk_nx, wp_bk_ct, wp_bk_bk, wp_bk_rt, wp_r1, wp_r2, wp_add, wp_addL, wp_addS, wp_mul, wp_fdiv, wp_mod, wp_I0, wp_eqI, wp_eqS, wp_eqB, wp_neI, wp_neS, wp_neB, wp_isN, wp_notN, isn_int, isn_non, isn_str, isn_tup, isn_lst, isn_ref, isn_bl, wp_isi, wp_someB, isi_str_str, isi_int_int, isi_int_bl, isi_bool_int, isi_bool_bl, isi_int_non, isi_int_str, isi_tuple_tup, wp_abs, wp_max2, wp_min2, wp_maxT, wp_intI, wp_intB, wp_lenS, wp_lenT, wp_lenL, wp_lenC, wp_divmod, wp_listL, wp_listT, wp_tupL, wp_tupT, wp_KIn, wp_strE, wp_Fld, wp_FldO, wp_Meth, wp_MakeF, wp_someL, wp_iR1, wp_iR2, wp_iLst, wp_iTup, wp_Prop, wp_IsC, wp_DGet1, wp_DIn, wp_gUnl, wp_DictK, wp_rep, wp_MethK, wp_CallK, wp_DispF, wp_DIx, wp_someX, wp_ixL, wp_ixT, wp_ixC, atI0, atI1, atI2, ixN0, ixN1, wp_Sl, wp_oNone, wp_oSome, wp_slC, wp_slL, wp_slS, str_eq, String.reduceEq, in_ring_crowd, in_ring_star, in_ring_pairs, in_ring_row, in_ring_ring, in_ring_core, in_ring_linked, in_ring_odd_ring, in_ring_even_ring, Bool.or_self, Bool.and_self, wp_Lc, wp_Yes, wp_pow10_9, wp_pow10_18, wp_pow10_40, wp_For, wp_sFld, wp_last, set_last, wp_KIx, wp_inT, wp_inL, eqF_str, flat_str, flat_int, flat_non, List.any_cons, List.any_nil, List.all_cons, List.all_nil, Bool.and_true, Bool.or_false, Bool.true_and, Bool.false_and, Bool.and_false, Bool.false_or, Bool.or_true, Bool.true_or, Bool.not_not, List.map_cons, List.map_nil, List.length_cons, List.length_nil, List.cons_append, List.nil_append, List.append_nil, List.set_cons_zero, List.set_cons_succ, List.replicate_succ, List.replicate_zero, Nat.reduceSub, Nat.reduceAdd, Nat.reduceLeDiff, Nat.zero_add, Nat.sub_self, decide_eq_true_eq, Bool.not_eq_true', Bool.not_eq_eq_eq_not, Bool.not_true, Bool.not_false, decide_eq_false_iff_not, if_true, if_false, reduceIte, Bool.false_eq_true, true_and, and_true, decide_true, decide_false, Bool.true_eq_false, eq_self, h0]
  have h1 := div_le (n := n - 1) (j := k - 2) (by omega) (by omega)
  have h3 := mod_le (n := n - 1) (j := k - 2) (by omega) (by omega)
  have b1 : Nb ((n - 1) / (k - 2)) := by unfold Nb; omega
  have b2 : Nb (k - 1) := by unfold Nb; omega
  have b3 : Nb ((n - 1) % (k - 2) + 1) := by unfold Nb; omega
  simp only [R_some, wb_bl, wi_int, wstr_str, wtup_tup, wlst_lst, wref_ref, wp_var0, wp_varS, wp_C, wp_Bin, wp_neg, wp_nil, wp_cons, wp_tup, wp_lst, wp_lstM, wp_Call, wp_And, wp_Or, wp_Not, wp_Test, wp_tAnd, wp_tOr, wp_tNot, wp_If, wp_Chain, wp_Skip, wp_Break, wp_Cont, wp_Never, wp_fNever, wp_Seq, wp_pfl_nx, wp_pfl_rt, wp_pfl_bk, wp_pfl_ct, wp_Expr, wp_Ret, wp_sIf, wp_Asg, wp_N, wp_gNil, wp_gCons, wp_gTup, wp_gSub, wp_Par, wp_two, wp_Run, wp_run_rt, wp_run_nx, wp_bk_nx, wp_bk_ct, wp_bk_bk, wp_bk_rt, wp_r1, wp_r2, wp_add, wp_addL, wp_addS, wp_mul, wp_fdiv, wp_mod, wp_I0, wp_eqI, wp_eqS, wp_eqB, wp_neI, wp_neS, wp_neB, wp_isN, wp_notN, isn_int, isn_non, isn_str, isn_tup, isn_lst, isn_ref, isn_bl, wp_isi, wp_someB, isi_str_str, isi_int_int, isi_int_bl, isi_bool_int, isi_bool_bl, isi_int_non, isi_int_str, isi_tuple_tup, wp_abs, wp_max2, wp_min2, wp_maxT, wp_intI, wp_intB, wp_lenS, wp_lenT, wp_lenL, wp_lenC, wp_divmod, wp_listL, wp_listT, wp_tupL, wp_tupT, wp_KIn, wp_strE, wp_Fld, wp_FldO, wp_Meth, wp_MakeF, wp_someL, wp_iR1, wp_iR2, wp_iLst, wp_iTup, wp_Prop, wp_IsC, wp_DGet1, wp_DIn, wp_gUnl, wp_DictK, wp_rep, wp_MethK, wp_CallK, wp_DispF, wp_DIx, wp_someX, wp_ixL, wp_ixT, wp_ixC, atI0, atI1, atI2, ixN0, ixN1, wp_Sl, wp_oNone, wp_oSome, wp_slC, wp_slL, wp_slS, str_eq, String.reduceEq, in_ring_crowd, in_ring_star, in_ring_pairs, in_ring_row, in_ring_ring, in_ring_core, in_ring_linked, in_ring_odd_ring, in_ring_even_ring, Bool.or_self, Bool.and_self, wp_Lc, wp_Yes, wp_pow10_9, wp_pow10_18, wp_pow10_40, wp_For, wp_sFld, wp_last, set_last, wp_KIx, wp_inT, wp_inL, eqF_str, flat_str, flat_int, flat_non, List.any_cons, List.any_nil, List.all_cons, List.all_nil, Bool.and_true, Bool.or_false, Bool.true_and, Bool.false_and, Bool.and_false, Bool.false_or, Bool.or_true, Bool.true_or, Bool.not_not, List.map_cons, List.map_nil, List.length_cons, List.length_nil, List.cons_append, List.nil_append, List.append_nil, List.set_cons_zero, List.set_cons_succ, List.replicate_succ, List.replicate_zero, Nat.reduceSub, Nat.reduceAdd, Nat.reduceLeDiff, Nat.zero_add, Nat.sub_self, decide_eq_true_eq, Bool.not_eq_true', Bool.not_eq_eq_eq_not, Bool.not_true, Bool.not_false, decide_eq_false_iff_not, if_true, if_false, reduceIte, Bool.false_eq_true, true_and, and_true, decide_true, decide_false, Bool.true_eq_false, eq_self, h0, eq_R (pairs_eq b2 _), eq_R (pairs_eq b3 _)]
  exact ⟨⟨by omega, lgk (by omega) (by omega)⟩, by omega, b1.sm, two_sm b2⟩
theorem most_odd {n : Int} (hn : Pe n) (S : Sto) : w_most_of [.str "odd ring", .non, .int n] S = some (.int (mOdd n), S) := by
  unfold Pe at hn
  have b1 : Nb n := by unfold Nb; omega
  rw [← R_eq]
  unfold w_most_of d_most_of b_most_of w_most_rings d_most_rings b_most_rings mOdd
  by_cases h0 : n = 0
  · simp only [R_some, wb_bl, wi_int, wstr_str, wtup_tup, wlst_lst, wref_ref, wp_var0, wp_varS, wp_C, wp_Bin, wp_neg, wp_nil, wp_cons, wp_tup, wp_lst, wp_lstM, wp_Call, wp_And, wp_Or, wp_Not, wp_Test, wp_tAnd, wp_tOr, wp_tNot, wp_If, wp_Chain, wp_Skip, wp_Break, wp_Cont, wp_Never, wp_fNever, wp_Seq, wp_pfl_nx, wp_pfl_rt, wp_pfl_bk, wp_pfl_ct, wp_Expr, wp_Ret, wp_sIf, wp_Asg, wp_N, wp_gNil, wp_gCons, wp_gTup, wp_gSub, wp_Par, wp_two, wp_Run, wp_run_rt, wp_run_nx, wp_bk_nx, wp_bk_ct, wp_bk_bk, wp_bk_rt, wp_r1, wp_r2, wp_add, wp_addL, wp_addS, wp_mul, wp_fdiv, wp_mod, wp_I0, wp_eqI, wp_eqS, wp_eqB, wp_neI, wp_neS, wp_neB, wp_isN, wp_notN, isn_int, isn_non, isn_str, isn_tup, isn_lst, isn_ref, isn_bl, wp_isi, wp_someB, isi_str_str, isi_int_int, isi_int_bl, isi_bool_int, isi_bool_bl, isi_int_non, isi_int_str, isi_tuple_tup, wp_abs, wp_max2, wp_min2, wp_maxT, wp_intI, wp_intB, wp_lenS, wp_lenT, wp_lenL, wp_lenC, wp_divmod, wp_listL, wp_listT, wp_tupL, wp_tupT, wp_KIn, wp_strE, wp_Fld, wp_FldO, wp_Meth, wp_MakeF, wp_someL, wp_iR1, wp_iR2, wp_iLst, wp_iTup, wp_Prop, wp_IsC, wp_DGet1, wp_DIn, wp_gUnl, wp_DictK, wp_rep, wp_MethK, wp_CallK, wp_DispF, wp_DIx, wp_someX, wp_ixL, wp_ixT, wp_ixC, atI0, atI1, atI2, ixN0, ixN1, wp_Sl, wp_oNone, wp_oSome, wp_slC, wp_slL, wp_slS, str_eq, String.reduceEq, in_ring_crowd, in_ring_star, in_ring_pairs, in_ring_row, in_ring_ring, in_ring_core, in_ring_linked, in_ring_odd_ring, in_ring_even_ring, Bool.or_self, Bool.and_self, wp_Lc, wp_Yes, wp_pow10_9, wp_pow10_18, wp_pow10_40, wp_For, wp_sFld, wp_last, set_last, wp_KIx, wp_inT, wp_inL, eqF_str, flat_str, flat_int, flat_non, List.any_cons, List.any_nil, List.all_cons, List.all_nil, Bool.and_true, Bool.or_false, Bool.true_and, Bool.false_and, Bool.and_false, Bool.false_or, Bool.or_true, Bool.true_or, Bool.not_not, List.map_cons, List.map_nil, List.length_cons, List.length_nil, List.cons_append, List.nil_append, List.append_nil, List.set_cons_zero, List.set_cons_succ, List.replicate_succ, List.replicate_zero, Nat.reduceSub, Nat.reduceAdd, Nat.reduceLeDiff, Nat.zero_add, Nat.sub_self, decide_eq_true_eq, Bool.not_eq_true', Bool.not_eq_eq_eq_not, Bool.not_true, Bool.not_false, decide_eq_false_iff_not, if_true, if_false, reduceIte, Bool.false_eq_true, true_and, and_true, decide_true, decide_false, Bool.true_eq_false, eq_self, h0]
  simp only [R_some, wb_bl, wi_int, wstr_str, wtup_tup, wlst_lst, wref_ref, wp_var0, wp_varS, wp_C, wp_Bin, wp_neg, wp_nil, wp_cons, wp_tup, wp_lst, wp_lstM, wp_Call, wp_And, wp_Or, wp_Not, wp_Test, wp_tAnd, wp_tOr, wp_tNot, wp_If, wp_Chain, wp_Skip, wp_Break, wp_Cont, wp_Never, wp_fNever, wp_Seq, wp_pfl_nx, wp_pfl_rt, wp_pfl_bk, wp_pfl_ct, wp_Expr, wp_Ret, wp_sIf, wp_Asg, wp_N, wp_gNil, wp_gCons, wp_gTup, wp_gSub, wp_Par, wp_two, wp_Run, wp_run_rt, wp_run_nx, wp_bk_nx, wp_bk_ct, wp_bk_bk, wp_bk_rt, wp_r1, wp_r2, wp_add, wp_addL, wp_addS, wp_mul, wp_fdiv, wp_mod, wp_I0, wp_eqI, wp_eqS, wp_eqB, wp_neI, wp_neS, wp_neB, wp_isN, wp_notN, isn_int, isn_non, isn_str, isn_tup, isn_lst, isn_ref, isn_bl, wp_isi, wp_someB, isi_str_str, isi_int_int, isi_int_bl, isi_bool_int, isi_bool_bl, isi_int_non, isi_int_str, isi_tuple_tup, wp_abs, wp_max2, wp_min2, wp_maxT, wp_intI, wp_intB, wp_lenS, wp_lenT, wp_lenL, wp_lenC, wp_divmod, wp_listL, wp_listT, wp_tupL, wp_tupT, wp_KIn, wp_strE, wp_Fld, wp_FldO, wp_Meth, wp_MakeF, wp_someL, wp_iR1, wp_iR2, wp_iLst, wp_iTup, wp_Prop, wp_IsC, wp_DGet1, wp_DIn, wp_gUnl, wp_DictK, wp_rep, wp_MethK, wp_CallK, wp_DispF, wp_DIx, wp_someX, wp_ixL, wp_ixT, wp_ixC, atI0, atI1, atI2, ixN0, ixN1, wp_Sl, wp_oNone, wp_oSome, wp_slC, wp_slL, wp_slS, str_eq, String.reduceEq, in_ring_crowd, in_ring_star, in_ring_pairs, in_ring_row, in_ring_ring, in_ring_core, in_ring_linked, in_ring_odd_ring, in_ring_even_ring, Bool.or_self, Bool.and_self, wp_Lc, wp_Yes, wp_pow10_9, wp_pow10_18, wp_pow10_40, wp_For, wp_sFld, wp_last, set_last, wp_KIx, wp_inT, wp_inL, eqF_str, flat_str, flat_int, flat_non, List.any_cons, List.any_nil, List.all_cons, List.all_nil, Bool.and_true, Bool.or_false, Bool.true_and, Bool.false_and, Bool.and_false, Bool.false_or, Bool.or_true, Bool.true_or, Bool.not_not, List.map_cons, List.map_nil, List.length_cons, List.length_nil, List.cons_append, List.nil_append, List.append_nil, List.set_cons_zero, List.set_cons_succ, List.replicate_succ, List.replicate_zero, Nat.reduceSub, Nat.reduceAdd, Nat.reduceLeDiff, Nat.zero_add, Nat.sub_self, decide_eq_true_eq, Bool.not_eq_true', Bool.not_eq_eq_eq_not, Bool.not_true, Bool.not_false, decide_eq_false_iff_not, if_true, if_false, reduceIte, Bool.false_eq_true, true_and, and_true, decide_true, decide_false, Bool.true_eq_false, eq_self, h0]
  exact ⟨⟨b1.sm, b1.sm⟩, by decide, lgk (by decide) (by decide)⟩
theorem most_even {n : Int} (hn : Pe n) (S : Sto) : w_most_of [.str "even ring", .non, .int n] S = some (.int (mEven n), S) := by
  unfold Pe at hn
  have b1 : Nb (n - 1) := by unfold Nb; omega
  have b2 : Nb 3 := by unfold Nb; omega
  rw [← R_eq]
  unfold w_most_of d_most_of b_most_of w_most_rings d_most_rings b_most_rings mEven
  by_cases h0 : n = 0
  · simp only [R_some, wb_bl, wi_int, wstr_str, wtup_tup, wlst_lst, wref_ref, wp_var0, wp_varS, wp_C, wp_Bin, wp_neg, wp_nil, wp_cons, wp_tup, wp_lst, wp_lstM, wp_Call, wp_And, wp_Or, wp_Not, wp_Test, wp_tAnd, wp_tOr, wp_tNot, wp_If, wp_Chain, wp_Skip, wp_Break, wp_Cont, wp_Never, wp_fNever, wp_Seq, wp_pfl_nx, wp_pfl_rt, wp_pfl_bk, wp_pfl_ct, wp_Expr, wp_Ret, wp_sIf, wp_Asg, wp_N, wp_gNil, wp_gCons, wp_gTup, wp_gSub, wp_Par, wp_two, wp_Run, wp_run_rt, wp_run_nx, wp_bk_nx, wp_bk_ct, wp_bk_bk, wp_bk_rt, wp_r1, wp_r2, wp_add, wp_addL, wp_addS, wp_mul, wp_fdiv, wp_mod, wp_I0, wp_eqI, wp_eqS, wp_eqB, wp_neI, wp_neS, wp_neB, wp_isN, wp_notN, isn_int, isn_non, isn_str, isn_tup, isn_lst, isn_ref, isn_bl, wp_isi, wp_someB, isi_str_str, isi_int_int, isi_int_bl, isi_bool_int, isi_bool_bl, isi_int_non, isi_int_str, isi_tuple_tup, wp_abs, wp_max2, wp_min2, wp_maxT, wp_intI, wp_intB, wp_lenS, wp_lenT, wp_lenL, wp_lenC, wp_divmod, wp_listL, wp_listT, wp_tupL, wp_tupT, wp_KIn, wp_strE, wp_Fld, wp_FldO, wp_Meth, wp_MakeF, wp_someL, wp_iR1, wp_iR2, wp_iLst, wp_iTup, wp_Prop, wp_IsC, wp_DGet1, wp_DIn, wp_gUnl, wp_DictK, wp_rep, wp_MethK, wp_CallK, wp_DispF, wp_DIx, wp_someX, wp_ixL, wp_ixT, wp_ixC, atI0, atI1, atI2, ixN0, ixN1, wp_Sl, wp_oNone, wp_oSome, wp_slC, wp_slL, wp_slS, str_eq, String.reduceEq, in_ring_crowd, in_ring_star, in_ring_pairs, in_ring_row, in_ring_ring, in_ring_core, in_ring_linked, in_ring_odd_ring, in_ring_even_ring, Bool.or_self, Bool.and_self, wp_Lc, wp_Yes, wp_pow10_9, wp_pow10_18, wp_pow10_40, wp_For, wp_sFld, wp_last, set_last, wp_KIx, wp_inT, wp_inL, eqF_str, flat_str, flat_int, flat_non, List.any_cons, List.any_nil, List.all_cons, List.all_nil, Bool.and_true, Bool.or_false, Bool.true_and, Bool.false_and, Bool.and_false, Bool.false_or, Bool.or_true, Bool.true_or, Bool.not_not, List.map_cons, List.map_nil, List.length_cons, List.length_nil, List.cons_append, List.nil_append, List.append_nil, List.set_cons_zero, List.set_cons_succ, List.replicate_succ, List.replicate_zero, Nat.reduceSub, Nat.reduceAdd, Nat.reduceLeDiff, Nat.zero_add, Nat.sub_self, decide_eq_true_eq, Bool.not_eq_true', Bool.not_eq_eq_eq_not, Bool.not_true, Bool.not_false, decide_eq_false_iff_not, if_true, if_false, reduceIte, Bool.false_eq_true, true_and, and_true, decide_true, decide_false, Bool.true_eq_false, eq_self, h0]
  simp only [R_some, wb_bl, wi_int, wstr_str, wtup_tup, wlst_lst, wref_ref, wp_var0, wp_varS, wp_C, wp_Bin, wp_neg, wp_nil, wp_cons, wp_tup, wp_lst, wp_lstM, wp_Call, wp_And, wp_Or, wp_Not, wp_Test, wp_tAnd, wp_tOr, wp_tNot, wp_If, wp_Chain, wp_Skip, wp_Break, wp_Cont, wp_Never, wp_fNever, wp_Seq, wp_pfl_nx, wp_pfl_rt, wp_pfl_bk, wp_pfl_ct, wp_Expr, wp_Ret, wp_sIf, wp_Asg, wp_N, wp_gNil, wp_gCons, wp_gTup, wp_gSub, wp_Par, wp_two, wp_Run, wp_run_rt, wp_run_nx, wp_bk_nx, wp_bk_ct, wp_bk_bk, wp_bk_rt, wp_r1, wp_r2, wp_add, wp_addL, wp_addS, wp_mul, wp_fdiv, wp_mod, wp_I0, wp_eqI, wp_eqS, wp_eqB, wp_neI, wp_neS, wp_neB, wp_isN, wp_notN, isn_int, isn_non, isn_str, isn_tup, isn_lst, isn_ref, isn_bl, wp_isi, wp_someB, isi_str_str, isi_int_int, isi_int_bl, isi_bool_int, isi_bool_bl, isi_int_non, isi_int_str, isi_tuple_tup, wp_abs, wp_max2, wp_min2, wp_maxT, wp_intI, wp_intB, wp_lenS, wp_lenT, wp_lenL, wp_lenC, wp_divmod, wp_listL, wp_listT, wp_tupL, wp_tupT, wp_KIn, wp_strE, wp_Fld, wp_FldO, wp_Meth, wp_MakeF, wp_someL, wp_iR1, wp_iR2, wp_iLst, wp_iTup, wp_Prop, wp_IsC, wp_DGet1, wp_DIn, wp_gUnl, wp_DictK, wp_rep, wp_MethK, wp_CallK, wp_DispF, wp_DIx, wp_someX, wp_ixL, wp_ixT, wp_ixC, atI0, atI1, atI2, ixN0, ixN1, wp_Sl, wp_oNone, wp_oSome, wp_slC, wp_slL, wp_slS, str_eq, String.reduceEq, in_ring_crowd, in_ring_star, in_ring_pairs, in_ring_row, in_ring_ring, in_ring_core, in_ring_linked, in_ring_odd_ring, in_ring_even_ring, Bool.or_self, Bool.and_self, wp_Lc, wp_Yes, wp_pow10_9, wp_pow10_18, wp_pow10_40, wp_For, wp_sFld, wp_last, set_last, wp_KIx, wp_inT, wp_inL, eqF_str, flat_str, flat_int, flat_non, List.any_cons, List.any_nil, List.all_cons, List.all_nil, Bool.and_true, Bool.or_false, Bool.true_and, Bool.false_and, Bool.and_false, Bool.false_or, Bool.or_true, Bool.true_or, Bool.not_not, List.map_cons, List.map_nil, List.length_cons, List.length_nil, List.cons_append, List.nil_append, List.append_nil, List.set_cons_zero, List.set_cons_succ, List.replicate_succ, List.replicate_zero, Nat.reduceSub, Nat.reduceAdd, Nat.reduceLeDiff, Nat.zero_add, Nat.sub_self, decide_eq_true_eq, Bool.not_eq_true', Bool.not_eq_eq_eq_not, Bool.not_true, Bool.not_false, decide_eq_false_iff_not, if_true, if_false, reduceIte, Bool.false_eq_true, true_and, and_true, decide_true, decide_false, Bool.true_eq_false, eq_self, h0]
  exact ⟨⟨b2.sm, b1.sm⟩, by decide, lgk (by decide) (by decide)⟩
theorem most_pairs {k n : Int} (hk : Pe k) (h2 : 1 ≤ k) (hn : Pe n) (S : Sto) : w_most_of [.str "pairs", .int k, .int n] S = some (.int (mPairs k n), S) := by
  unfold Pe at hk hn
  have b0 : Nb 2 := by unfold Nb; omega
  have bk : Nb k := by unfold Nb; omega
  have b1 : Nb n := by unfold Nb; omega
  have b2 : Nb (2 * k - 1) := by unfold Nb; omega
  have b3 : Nb (k - 1) := by unfold Nb; omega
  have b4 : Nb (n - k + 1) := by unfold Nb; omega
  rw [← R_eq]
  unfold w_most_of d_most_of b_most_of w_is_all_tied d_is_all_tied b_is_all_tied w_most_pairs d_most_pairs b_most_pairs mPairs
  by_cases h0 : n < 2 * k
  · simp only [R_some, wb_bl, wi_int, wstr_str, wtup_tup, wlst_lst, wref_ref, wp_var0, wp_varS, wp_C, wp_Bin, wp_neg, wp_nil, wp_cons, wp_tup, wp_lst, wp_lstM, wp_Call, wp_And, wp_Or, wp_Not, wp_Test, wp_tAnd, wp_tOr, wp_tNot, wp_If, wp_Chain, wp_Skip, wp_Break, wp_Cont, wp_Never, wp_fNever, wp_Seq, wp_pfl_nx, wp_pfl_rt, wp_pfl_bk, wp_pfl_ct, wp_Expr, wp_Ret, wp_sIf, wp_Asg, wp_N, wp_gNil, wp_gCons, wp_gTup, wp_gSub, wp_Par, wp_two, wp_Run, wp_run_rt, wp_run_nx, wp_bk_nx, wp_bk_ct, wp_bk_bk, wp_bk_rt, wp_r1, wp_r2, wp_add, wp_addL, wp_addS, wp_mul, wp_fdiv, wp_mod, wp_I0, wp_eqI, wp_eqS, wp_eqB, wp_neI, wp_neS, wp_neB, wp_isN, wp_notN, isn_int, isn_non, isn_str, isn_tup, isn_lst, isn_ref, isn_bl, wp_isi, wp_someB, isi_str_str, isi_int_int, isi_int_bl, isi_bool_int, isi_bool_bl, isi_int_non, isi_int_str, isi_tuple_tup, wp_abs, wp_max2, wp_min2, wp_maxT, wp_intI, wp_intB, wp_lenS, wp_lenT, wp_lenL, wp_lenC, wp_divmod, wp_listL, wp_listT, wp_tupL, wp_tupT, wp_KIn, wp_strE, wp_Fld, wp_FldO, wp_Meth, wp_MakeF, wp_someL, wp_iR1, wp_iR2, wp_iLst, wp_iTup, wp_Prop, wp_IsC, wp_DGet1, wp_DIn, wp_gUnl, wp_DictK, wp_rep, wp_MethK, wp_CallK, wp_DispF, wp_DIx, wp_someX, wp_ixL, wp_ixT, wp_ixC, atI0, atI1, atI2, ixN0, ixN1, wp_Sl, wp_oNone, wp_oSome, wp_slC, wp_slL, wp_slS, str_eq, String.reduceEq, in_ring_crowd, in_ring_star, in_ring_pairs, in_ring_row, in_ring_ring, in_ring_core, in_ring_linked, in_ring_odd_ring, in_ring_even_ring, Bool.or_self, Bool.and_self, wp_Lc, wp_Yes, wp_pow10_9, wp_pow10_18, wp_pow10_40, wp_For, wp_sFld, wp_last, set_last, wp_KIx, wp_inT, wp_inL, eqF_str, flat_str, flat_int, flat_non, List.any_cons, List.any_nil, List.all_cons, List.all_nil, Bool.and_true, Bool.or_false, Bool.true_and, Bool.false_and, Bool.and_false, Bool.false_or, Bool.or_true, Bool.true_or, Bool.not_not, List.map_cons, List.map_nil, List.length_cons, List.length_nil, List.cons_append, List.nil_append, List.append_nil, List.set_cons_zero, List.set_cons_succ, List.replicate_succ, List.replicate_zero, Nat.reduceSub, Nat.reduceAdd, Nat.reduceLeDiff, Nat.zero_add, Nat.sub_self, decide_eq_true_eq, Bool.not_eq_true', Bool.not_eq_eq_eq_not, Bool.not_true, Bool.not_false, decide_eq_false_iff_not, if_true, if_false, reduceIte, Bool.false_eq_true, true_and, and_true, decide_true, decide_false, Bool.true_eq_false, eq_self, h0, eq_R (pairs_eq b1 _)]
    exact ⟨b0.sm, bk.sm⟩
  simp only [R_some, wb_bl, wi_int, wstr_str, wtup_tup, wlst_lst, wref_ref, wp_var0, wp_varS, wp_C, wp_Bin, wp_neg, wp_nil, wp_cons, wp_tup, wp_lst, wp_lstM, wp_Call, wp_And, wp_Or, wp_Not, wp_Test, wp_tAnd, wp_tOr, wp_tNot, wp_If, wp_Chain, wp_Skip, wp_Break, wp_Cont, wp_Never, wp_fNever, wp_Seq, wp_pfl_nx, wp_pfl_rt, wp_pfl_bk, wp_pfl_ct, wp_Expr, wp_Ret, wp_sIf, wp_Asg, wp_N, wp_gNil, wp_gCons, wp_gTup, wp_gSub, wp_Par, wp_two, wp_Run, wp_run_rt, wp_run_nx, wp_bk_nx, wp_bk_ct, wp_bk_bk, wp_bk_rt, wp_r1, wp_r2, wp_add, wp_addL, wp_addS, wp_mul, wp_fdiv, wp_mod, wp_I0, wp_eqI, wp_eqS, wp_eqB, wp_neI, wp_neS, wp_neB, wp_isN, wp_notN, isn_int, isn_non, isn_str, isn_tup, isn_lst, isn_ref, isn_bl, wp_isi, wp_someB, isi_str_str, isi_int_int, isi_int_bl, isi_bool_int, isi_bool_bl, isi_int_non, isi_int_str, isi_tuple_tup, wp_abs, wp_max2, wp_min2, wp_maxT, wp_intI, wp_intB, wp_lenS, wp_lenT, wp_lenL, wp_lenC, wp_divmod, wp_listL, wp_listT, wp_tupL, wp_tupT, wp_KIn, wp_strE, wp_Fld, wp_FldO, wp_Meth, wp_MakeF, wp_someL, wp_iR1, wp_iR2, wp_iLst, wp_iTup, wp_Prop, wp_IsC, wp_DGet1, wp_DIn, wp_gUnl, wp_DictK, wp_rep, wp_MethK, wp_CallK, wp_DispF, wp_DIx, wp_someX, wp_ixL, wp_ixT, wp_ixC, atI0, atI1, atI2, ixN0, ixN1, wp_Sl, wp_oNone, wp_oSome, wp_slC, wp_slL, wp_slS, str_eq, String.reduceEq, in_ring_crowd, in_ring_star, in_ring_pairs, in_ring_row, in_ring_ring, in_ring_core, in_ring_linked, in_ring_odd_ring, in_ring_even_ring, Bool.or_self, Bool.and_self, wp_Lc, wp_Yes, wp_pow10_9, wp_pow10_18, wp_pow10_40, wp_For, wp_sFld, wp_last, set_last, wp_KIx, wp_inT, wp_inL, eqF_str, flat_str, flat_int, flat_non, List.any_cons, List.any_nil, List.all_cons, List.all_nil, Bool.and_true, Bool.or_false, Bool.true_and, Bool.false_and, Bool.and_false, Bool.false_or, Bool.or_true, Bool.true_or, Bool.not_not, List.map_cons, List.map_nil, List.length_cons, List.length_nil, List.cons_append, List.nil_append, List.append_nil, List.set_cons_zero, List.set_cons_succ, List.replicate_succ, List.replicate_zero, Nat.reduceSub, Nat.reduceAdd, Nat.reduceLeDiff, Nat.zero_add, Nat.sub_self, decide_eq_true_eq, Bool.not_eq_true', Bool.not_eq_eq_eq_not, Bool.not_true, Bool.not_false, decide_eq_false_iff_not, if_true, if_false, reduceIte, Bool.false_eq_true, true_and, and_true, decide_true, decide_false, Bool.true_eq_false, eq_self, h0, eq_R (pairs_eq b2 _), eq_R (pairs_eq b3 _)]
  exact ⟨⟨b0.sm, bk.sm⟩, ⟨b0.sm, bk.sm⟩, b3.sm, b4.sm⟩
theorem most_core {k n : Int} (hk : Pe k) (h2 : 1 ≤ k) (hn : Pe n) (S : Sto) : w_most_of [.str "core", .int k, .int n] S = some (.int (mCore k n), S) := by
  unfold Pe at hk hn
  have bk : Nb k := by unfold Nb; omega
  have b1 : Nb n := by unfold Nb; omega
  have b3 : Nb (k - 1) := by unfold Nb; omega
  rw [← R_eq]
  unfold w_most_of d_most_of b_most_of w_is_all_tied d_is_all_tied b_is_all_tied mCore
  by_cases h0 : n < k
  · simp only [R_some, wb_bl, wi_int, wstr_str, wtup_tup, wlst_lst, wref_ref, wp_var0, wp_varS, wp_C, wp_Bin, wp_neg, wp_nil, wp_cons, wp_tup, wp_lst, wp_lstM, wp_Call, wp_And, wp_Or, wp_Not, wp_Test, wp_tAnd, wp_tOr, wp_tNot, wp_If, wp_Chain, wp_Skip, wp_Break, wp_Cont, wp_Never, wp_fNever, wp_Seq, wp_pfl_nx, wp_pfl_rt, wp_pfl_bk, wp_pfl_ct, wp_Expr, wp_Ret, wp_sIf, wp_Asg, wp_N, wp_gNil, wp_gCons, wp_gTup, wp_gSub, wp_Par, wp_two, wp_Run, wp_run_rt, wp_run_nx, wp_bk_nx, wp_bk_ct, wp_bk_bk, wp_bk_rt, wp_r1, wp_r2, wp_add, wp_addL, wp_addS, wp_mul, wp_fdiv, wp_mod, wp_I0, wp_eqI, wp_eqS, wp_eqB, wp_neI, wp_neS, wp_neB, wp_isN, wp_notN, isn_int, isn_non, isn_str, isn_tup, isn_lst, isn_ref, isn_bl, wp_isi, wp_someB, isi_str_str, isi_int_int, isi_int_bl, isi_bool_int, isi_bool_bl, isi_int_non, isi_int_str, isi_tuple_tup, wp_abs, wp_max2, wp_min2, wp_maxT, wp_intI, wp_intB, wp_lenS, wp_lenT, wp_lenL, wp_lenC, wp_divmod, wp_listL, wp_listT, wp_tupL, wp_tupT, wp_KIn, wp_strE, wp_Fld, wp_FldO, wp_Meth, wp_MakeF, wp_someL, wp_iR1, wp_iR2, wp_iLst, wp_iTup, wp_Prop, wp_IsC, wp_DGet1, wp_DIn, wp_gUnl, wp_DictK, wp_rep, wp_MethK, wp_CallK, wp_DispF, wp_DIx, wp_someX, wp_ixL, wp_ixT, wp_ixC, atI0, atI1, atI2, ixN0, ixN1, wp_Sl, wp_oNone, wp_oSome, wp_slC, wp_slL, wp_slS, str_eq, String.reduceEq, in_ring_crowd, in_ring_star, in_ring_pairs, in_ring_row, in_ring_ring, in_ring_core, in_ring_linked, in_ring_odd_ring, in_ring_even_ring, Bool.or_self, Bool.and_self, wp_Lc, wp_Yes, wp_pow10_9, wp_pow10_18, wp_pow10_40, wp_For, wp_sFld, wp_last, set_last, wp_KIx, wp_inT, wp_inL, eqF_str, flat_str, flat_int, flat_non, List.any_cons, List.any_nil, List.all_cons, List.all_nil, Bool.and_true, Bool.or_false, Bool.true_and, Bool.false_and, Bool.and_false, Bool.false_or, Bool.or_true, Bool.true_or, Bool.not_not, List.map_cons, List.map_nil, List.length_cons, List.length_nil, List.cons_append, List.nil_append, List.append_nil, List.set_cons_zero, List.set_cons_succ, List.replicate_succ, List.replicate_zero, Nat.reduceSub, Nat.reduceAdd, Nat.reduceLeDiff, Nat.zero_add, Nat.sub_self, decide_eq_true_eq, Bool.not_eq_true', Bool.not_eq_eq_eq_not, Bool.not_true, Bool.not_false, decide_eq_false_iff_not, if_true, if_false, reduceIte, Bool.false_eq_true, true_and, and_true, decide_true, decide_false, Bool.true_eq_false, eq_self, h0, eq_R (pairs_eq b1 _)]
  simp only [R_some, wb_bl, wi_int, wstr_str, wtup_tup, wlst_lst, wref_ref, wp_var0, wp_varS, wp_C, wp_Bin, wp_neg, wp_nil, wp_cons, wp_tup, wp_lst, wp_lstM, wp_Call, wp_And, wp_Or, wp_Not, wp_Test, wp_tAnd, wp_tOr, wp_tNot, wp_If, wp_Chain, wp_Skip, wp_Break, wp_Cont, wp_Never, wp_fNever, wp_Seq, wp_pfl_nx, wp_pfl_rt, wp_pfl_bk, wp_pfl_ct, wp_Expr, wp_Ret, wp_sIf, wp_Asg, wp_N, wp_gNil, wp_gCons, wp_gTup, wp_gSub, wp_Par, wp_two, wp_Run, wp_run_rt, wp_run_nx, wp_bk_nx, wp_bk_ct, wp_bk_bk, wp_bk_rt, wp_r1, wp_r2, wp_add, wp_addL, wp_addS, wp_mul, wp_fdiv, wp_mod, wp_I0, wp_eqI, wp_eqS, wp_eqB, wp_neI, wp_neS, wp_neB, wp_isN, wp_notN, isn_int, isn_non, isn_str, isn_tup, isn_lst, isn_ref, isn_bl, wp_isi, wp_someB, isi_str_str, isi_int_int, isi_int_bl, isi_bool_int, isi_bool_bl, isi_int_non, isi_int_str, isi_tuple_tup, wp_abs, wp_max2, wp_min2, wp_maxT, wp_intI, wp_intB, wp_lenS, wp_lenT, wp_lenL, wp_lenC, wp_divmod, wp_listL, wp_listT, wp_tupL, wp_tupT, wp_KIn, wp_strE, wp_Fld, wp_FldO, wp_Meth, wp_MakeF, wp_someL, wp_iR1, wp_iR2, wp_iLst, wp_iTup, wp_Prop, wp_IsC, wp_DGet1, wp_DIn, wp_gUnl, wp_DictK, wp_rep, wp_MethK, wp_CallK, wp_DispF, wp_DIx, wp_someX, wp_ixL, wp_ixT, wp_ixC, atI0, atI1, atI2, ixN0, ixN1, wp_Sl, wp_oNone, wp_oSome, wp_slC, wp_slL, wp_slS, str_eq, String.reduceEq, in_ring_crowd, in_ring_star, in_ring_pairs, in_ring_row, in_ring_ring, in_ring_core, in_ring_linked, in_ring_odd_ring, in_ring_even_ring, Bool.or_self, Bool.and_self, wp_Lc, wp_Yes, wp_pow10_9, wp_pow10_18, wp_pow10_40, wp_For, wp_sFld, wp_last, set_last, wp_KIx, wp_inT, wp_inL, eqF_str, flat_str, flat_int, flat_non, List.any_cons, List.any_nil, List.all_cons, List.all_nil, Bool.and_true, Bool.or_false, Bool.true_and, Bool.false_and, Bool.and_false, Bool.false_or, Bool.or_true, Bool.true_or, Bool.not_not, List.map_cons, List.map_nil, List.length_cons, List.length_nil, List.cons_append, List.nil_append, List.append_nil, List.set_cons_zero, List.set_cons_succ, List.replicate_succ, List.replicate_zero, Nat.reduceSub, Nat.reduceAdd, Nat.reduceLeDiff, Nat.zero_add, Nat.sub_self, decide_eq_true_eq, Bool.not_eq_true', Bool.not_eq_eq_eq_not, Bool.not_true, Bool.not_false, decide_eq_false_iff_not, if_true, if_false, reduceIte, Bool.false_eq_true, true_and, and_true, decide_true, decide_false, Bool.true_eq_false, eq_self, h0, eq_R (pairs_eq bk _)]
  exact ⟨b3.sm, b1.sm⟩
theorem most_linked {k n : Int} (hk : Pe k) (h2 : 1 ≤ k) (hn : Pe n) (S : Sto) : w_most_of [.str "linked", .int k, .int n] S = some (.int (mLinked k n), S) := by
  unfold Pe at hk hn
  have b1 : Nb n := by unfold Nb; omega
  have b3 : Nb (n - 1) := by unfold Nb; omega
  rw [← R_eq]
  unfold w_most_of d_most_of b_most_of w_is_all_tied d_is_all_tied b_is_all_tied mLinked
  by_cases h0 : n ≤ k
  · simp only [R_some, wb_bl, wi_int, wstr_str, wtup_tup, wlst_lst, wref_ref, wp_var0, wp_varS, wp_C, wp_Bin, wp_neg, wp_nil, wp_cons, wp_tup, wp_lst, wp_lstM, wp_Call, wp_And, wp_Or, wp_Not, wp_Test, wp_tAnd, wp_tOr, wp_tNot, wp_If, wp_Chain, wp_Skip, wp_Break, wp_Cont, wp_Never, wp_fNever, wp_Seq, wp_pfl_nx, wp_pfl_rt, wp_pfl_bk, wp_pfl_ct, wp_Expr, wp_Ret, wp_sIf, wp_Asg, wp_N, wp_gNil, wp_gCons, wp_gTup, wp_gSub, wp_Par, wp_two, wp_Run, wp_run_rt, wp_run_nx, wp_bk_nx, wp_bk_ct, wp_bk_bk, wp_bk_rt, wp_r1, wp_r2, wp_add, wp_addL, wp_addS, wp_mul, wp_fdiv, wp_mod, wp_I0, wp_eqI, wp_eqS, wp_eqB, wp_neI, wp_neS, wp_neB, wp_isN, wp_notN, isn_int, isn_non, isn_str, isn_tup, isn_lst, isn_ref, isn_bl, wp_isi, wp_someB, isi_str_str, isi_int_int, isi_int_bl, isi_bool_int, isi_bool_bl, isi_int_non, isi_int_str, isi_tuple_tup, wp_abs, wp_max2, wp_min2, wp_maxT, wp_intI, wp_intB, wp_lenS, wp_lenT, wp_lenL, wp_lenC, wp_divmod, wp_listL, wp_listT, wp_tupL, wp_tupT, wp_KIn, wp_strE, wp_Fld, wp_FldO, wp_Meth, wp_MakeF, wp_someL, wp_iR1, wp_iR2, wp_iLst, wp_iTup, wp_Prop, wp_IsC, wp_DGet1, wp_DIn, wp_gUnl, wp_DictK, wp_rep, wp_MethK, wp_CallK, wp_DispF, wp_DIx, wp_someX, wp_ixL, wp_ixT, wp_ixC, atI0, atI1, atI2, ixN0, ixN1, wp_Sl, wp_oNone, wp_oSome, wp_slC, wp_slL, wp_slS, str_eq, String.reduceEq, in_ring_crowd, in_ring_star, in_ring_pairs, in_ring_row, in_ring_ring, in_ring_core, in_ring_linked, in_ring_odd_ring, in_ring_even_ring, Bool.or_self, Bool.and_self, wp_Lc, wp_Yes, wp_pow10_9, wp_pow10_18, wp_pow10_40, wp_For, wp_sFld, wp_last, set_last, wp_KIx, wp_inT, wp_inL, eqF_str, flat_str, flat_int, flat_non, List.any_cons, List.any_nil, List.all_cons, List.all_nil, Bool.and_true, Bool.or_false, Bool.true_and, Bool.false_and, Bool.and_false, Bool.false_or, Bool.or_true, Bool.true_or, Bool.not_not, List.map_cons, List.map_nil, List.length_cons, List.length_nil, List.cons_append, List.nil_append, List.append_nil, List.set_cons_zero, List.set_cons_succ, List.replicate_succ, List.replicate_zero, Nat.reduceSub, Nat.reduceAdd, Nat.reduceLeDiff, Nat.zero_add, Nat.sub_self, decide_eq_true_eq, Bool.not_eq_true', Bool.not_eq_eq_eq_not, Bool.not_true, Bool.not_false, decide_eq_false_iff_not, if_true, if_false, reduceIte, Bool.false_eq_true, true_and, and_true, decide_true, decide_false, Bool.true_eq_false, eq_self, h0, eq_R (pairs_eq b1 _)]
  simp only [R_some, wb_bl, wi_int, wstr_str, wtup_tup, wlst_lst, wref_ref, wp_var0, wp_varS, wp_C, wp_Bin, wp_neg, wp_nil, wp_cons, wp_tup, wp_lst, wp_lstM, wp_Call, wp_And, wp_Or, wp_Not, wp_Test, wp_tAnd, wp_tOr, wp_tNot, wp_If, wp_Chain, wp_Skip, wp_Break, wp_Cont, wp_Never, wp_fNever, wp_Seq, wp_pfl_nx, wp_pfl_rt, wp_pfl_bk, wp_pfl_ct, wp_Expr, wp_Ret, wp_sIf, wp_Asg, wp_N, wp_gNil, wp_gCons, wp_gTup, wp_gSub, wp_Par, wp_two, wp_Run, wp_run_rt, wp_run_nx, wp_bk_nx, wp_bk_ct, wp_bk_bk, wp_bk_rt, wp_r1, wp_r2, wp_add, wp_addL, wp_addS, wp_mul, wp_fdiv, wp_mod, wp_I0, wp_eqI, wp_eqS, wp_eqB, wp_neI, wp_neS, wp_neB, wp_isN, wp_notN, isn_int, isn_non, isn_str, isn_tup, isn_lst, isn_ref, isn_bl, wp_isi, wp_someB, isi_str_str, isi_int_int, isi_int_bl, isi_bool_int, isi_bool_bl, isi_int_non, isi_int_str, isi_tuple_tup, wp_abs, wp_max2, wp_min2, wp_maxT, wp_intI, wp_intB, wp_lenS, wp_lenT, wp_lenL, wp_lenC, wp_divmod, wp_listL, wp_listT, wp_tupL, wp_tupT, wp_KIn, wp_strE, wp_Fld, wp_FldO, wp_Meth, wp_MakeF, wp_someL, wp_iR1, wp_iR2, wp_iLst, wp_iTup, wp_Prop, wp_IsC, wp_DGet1, wp_DIn, wp_gUnl, wp_DictK, wp_rep, wp_MethK, wp_CallK, wp_DispF, wp_DIx, wp_someX, wp_ixL, wp_ixT, wp_ixC, atI0, atI1, atI2, ixN0, ixN1, wp_Sl, wp_oNone, wp_oSome, wp_slC, wp_slL, wp_slS, str_eq, String.reduceEq, in_ring_crowd, in_ring_star, in_ring_pairs, in_ring_row, in_ring_ring, in_ring_core, in_ring_linked, in_ring_odd_ring, in_ring_even_ring, Bool.or_self, Bool.and_self, wp_Lc, wp_Yes, wp_pow10_9, wp_pow10_18, wp_pow10_40, wp_For, wp_sFld, wp_last, set_last, wp_KIx, wp_inT, wp_inL, eqF_str, flat_str, flat_int, flat_non, List.any_cons, List.any_nil, List.all_cons, List.all_nil, Bool.and_true, Bool.or_false, Bool.true_and, Bool.false_and, Bool.and_false, Bool.false_or, Bool.or_true, Bool.true_or, Bool.not_not, List.map_cons, List.map_nil, List.length_cons, List.length_nil, List.cons_append, List.nil_append, List.append_nil, List.set_cons_zero, List.set_cons_succ, List.replicate_succ, List.replicate_zero, Nat.reduceSub, Nat.reduceAdd, Nat.reduceLeDiff, Nat.zero_add, Nat.sub_self, decide_eq_true_eq, Bool.not_eq_true', Bool.not_eq_eq_eq_not, Bool.not_true, Bool.not_false, decide_eq_false_iff_not, if_true, if_false, reduceIte, Bool.false_eq_true, true_and, and_true, decide_true, decide_false, Bool.true_eq_false, eq_self, h0, eq_R (pairs_eq b3 _)]
end LW

set_option exponentiation.threshold 2000
namespace LW
open PySem PySem.Spec PyProof.Rows L2 DL
theorem tmost_eq {k : Str} {x : D} {n m : Int} (hn : Pe n) {S : Sto} (h : w_most_of [.str k, x, .int n] S = some (.int m, S)) : w_Thing_most [thing k x, .int n] S = some (.int m, S) := by
  rw [← R_eq]
  unfold Pe at hn
  unfold w_Thing_most d_Thing_most b_Thing_most
  simp only [R_some, wb_bl, wi_int, wstr_str, wtup_tup, wlst_lst, wref_ref, wp_var0, wp_varS, wp_C, wp_Bin, wp_neg, wp_nil, wp_cons, wp_tup, wp_lst, wp_lstM, wp_Call, wp_And, wp_Or, wp_Not, wp_Test, wp_tAnd, wp_tOr, wp_tNot, wp_If, wp_Chain, wp_Skip, wp_Break, wp_Cont, wp_Never, wp_fNever, wp_Seq, wp_pfl_nx, wp_pfl_rt, wp_pfl_bk, wp_pfl_ct, wp_Expr, wp_Ret, wp_sIf, wp_Asg, wp_N, wp_gNil, wp_gCons, wp_gTup, wp_gSub, wp_Par, wp_two, wp_Run, wp_run_rt, wp_run_nx, wp_bk_nx, wp_bk_ct, wp_bk_bk, wp_bk_rt, wp_r1, wp_r2, wp_add, wp_addL, wp_addS, wp_mul, wp_fdiv, wp_mod, wp_I0, wp_eqI, wp_eqS, wp_eqB, wp_neI, wp_neS, wp_neB, wp_isN, wp_notN, isn_int, isn_non, isn_str, isn_tup, isn_lst, isn_ref, isn_bl, wp_isi, wp_someB, isi_str_str, isi_int_int, isi_int_bl, isi_bool_int, isi_bool_bl, isi_int_non, isi_int_str, isi_tuple_tup, wp_abs, wp_max2, wp_min2, wp_maxT, wp_intI, wp_intB, wp_lenS, wp_lenT, wp_lenL, wp_lenC, wp_divmod, wp_listL, wp_listT, wp_tupL, wp_tupT, wp_KIn, wp_strE, wp_Fld, wp_FldO, wp_Meth, wp_MakeF, wp_someL, wp_iR1, wp_iR2, wp_iLst, wp_iTup, wp_Prop, wp_IsC, wp_DGet1, wp_DIn, wp_gUnl, wp_DictK, wp_rep, wp_MethK, wp_CallK, wp_DispF, wp_DIx, wp_someX, wp_ixL, wp_ixT, wp_ixC, atI0, atI1, atI2, ixN0, ixN1, wp_Sl, wp_oNone, wp_oSome, wp_slC, wp_slL, wp_slS, str_eq, String.reduceEq, in_ring_crowd, in_ring_star, in_ring_pairs, in_ring_row, in_ring_ring, in_ring_core, in_ring_linked, in_ring_odd_ring, in_ring_even_ring, Bool.or_self, Bool.and_self, wp_Lc, wp_Yes, wp_pow10_9, wp_pow10_18, wp_pow10_40, wp_For, wp_sFld, wp_last, set_last, wp_KIx, wp_inT, wp_inL, eqF_str, flat_str, flat_int, flat_non, List.any_cons, List.any_nil, List.all_cons, List.all_nil, Bool.and_true, Bool.or_false, Bool.true_and, Bool.false_and, Bool.and_false, Bool.false_or, Bool.or_true, Bool.true_or, Bool.not_not, List.map_cons, List.map_nil, List.length_cons, List.length_nil, List.cons_append, List.nil_append, List.append_nil, List.set_cons_zero, List.set_cons_succ, List.replicate_succ, List.replicate_zero, Nat.reduceSub, Nat.reduceAdd, Nat.reduceLeDiff, Nat.zero_add, Nat.sub_self, decide_eq_true_eq, Bool.not_eq_true', Bool.not_eq_eq_eq_not, Bool.not_true, Bool.not_false, decide_eq_false_iff_not, if_true, if_false, reduceIte, Bool.false_eq_true, true_and, and_true, decide_true, decide_false, Bool.true_eq_false, eq_self, eq_R (check_eq hn.1 hn.2 _), wp_getF word_fld, wp_getF many_fld, eq_R h]
theorem hf_most : hasF ["word", "many"] "most" = false := by decide +kernel
end LW

namespace LW
open PySem PySem.Spec PyProof.Rows L2 DL
/-! ## stores without references between cells -/
def CF (S : Sto) : Prop := ∀ c ∈ S, cellFree c = true
theorem cf_nil : CF [] := fun c h => by cases h
theorem CF.apart {S S' : Sto} {i : Nat} (h : CF S) (a : DL.Apart S S' i) (p : Prs S' i) : CF S' := by
  intro c hc
  obtain ⟨j, hj⟩ := List.mem_iff_getElem?.mp hc
  by_cases e : j = i
  · subst e
    obtain ⟨x, y, q, _⟩ := p
    rw [q] at hj
    cases hj
    rfl
  · rw [a.2 j e] at hj
    exact h c (List.mem_of_getElem? hj)
theorem CF.purse {S S' : Sto} (h : CF S) (hl : S'.length = S.length + 1) (p : Prs S' S.length) (o : ∀ j, j < S.length → S'[j]? = S[j]?) : CF S' := by
  intro c hc
  obtain ⟨j, hj⟩ := List.mem_iff_getElem?.mp hc
  by_cases e : j = S.length
  · subst e
    obtain ⟨x, y, q, _⟩ := p
    rw [q] at hj
    cases hj
    rfl
  · have : j < S'.length := (List.getElem?_eq_some_iff.mp hj).1
    rw [o j (by omega)] at hj
    exact h c (List.mem_of_getElem? hj)
theorem r_allF (ns : List Int) (hns : ns.length ≤ 63) {env : DEnv} (h0 : env[0]? = some (some (.scr ns))) (hlen : env.length = 2) {S : Sto} (hS : CF S) {P : D → Sto → Prop} {fi : FA} {m : Int} (hm0 : 0 ≤ m) (hm : m ≤ 1000) (hi : ∀ S, fi env S = some (rangeD 0 m, S)) (hr : ∀ S i, Prs S i → CF S → R (w__law_right [.ref i] S) fun d S' => d = .bl true ∧ CF S') (hP : ∀ S, P (.bl true) S) :
    R (fCall cAll (fCons (fLc fi (gN 1) tYesD (fCall w__law_right (fCons (fCall w__law_purse (fCons (fVar 0) (fCons (fVar 1) fNil))) fNil)) [1]) fNil) env S) P := by
  match env, hlen, h0 with
  | [e0, e1], _, h0 =>
    have h0 : e0 = some (.scr ns) := by simpa using h0
    subst h0
    simp only [R_some, wb_bl, wi_int, wstr_str, wtup_tup, wlst_lst, wref_ref, wp_var0, wp_varS, wp_C, wp_Bin, wp_neg, wp_nil, wp_cons, wp_tup, wp_lst, wp_lstM, wp_Call, wp_And, wp_Or, wp_Not, wp_Test, wp_tAnd, wp_tOr, wp_tNot, wp_If, wp_Chain, wp_Skip, wp_Break, wp_Cont, wp_Never, wp_fNever, wp_Seq, wp_pfl_nx, wp_pfl_rt, wp_pfl_bk, wp_pfl_ct, wp_Expr, wp_Ret, wp_sIf, wp_Asg, wp_N, wp_gNil, wp_gCons, wp_gTup, wp_gSub, wp_Par, wp_two, wp_Run, wp_run_rt, wp_run_nx, wp_bk_nx, wp_bk_ct, wp_bk_bk, wp_bk_rt, wp_r1, wp_r2, wp_add, wp_addL, wp_addS, wp_mul, wp_fdiv, wp_mod, wp_I0, wp_eqI, wp_eqS, wp_eqB, wp_neI, wp_neS, wp_neB, wp_isN, wp_notN, isn_int, isn_non, isn_str, isn_tup, isn_lst, isn_ref, isn_bl, wp_isi, wp_someB, isi_str_str, isi_int_int, isi_int_bl, isi_bool_int, isi_bool_bl, isi_int_non, isi_int_str, isi_tuple_tup, wp_abs, wp_max2, wp_min2, wp_maxT, wp_intI, wp_intB, wp_lenS, wp_lenT, wp_lenL, wp_lenC, wp_divmod, wp_listL, wp_listT, wp_tupL, wp_tupT, wp_KIn, wp_strE, wp_Fld, wp_FldO, wp_Meth, wp_MakeF, wp_someL, wp_iR1, wp_iR2, wp_iLst, wp_iTup, wp_Prop, wp_IsC, wp_DGet1, wp_DIn, wp_gUnl, wp_DictK, wp_rep, wp_MethK, wp_CallK, wp_DispF, wp_DIx, wp_someX, wp_ixL, wp_ixT, wp_ixC, atI0, atI1, atI2, ixN0, ixN1, wp_Sl, wp_oNone, wp_oSome, wp_slC, wp_slL, wp_slS, str_eq, String.reduceEq, in_ring_crowd, in_ring_star, in_ring_pairs, in_ring_row, in_ring_ring, in_ring_core, in_ring_linked, in_ring_odd_ring, in_ring_even_ring, Bool.or_self, Bool.and_self, wp_Lc, wp_Yes, wp_pow10_9, wp_pow10_18, wp_pow10_40, wp_For, wp_sFld, wp_last, set_last, wp_KIx, wp_inT, wp_inL, eqF_str, flat_str, flat_int, flat_non, List.any_cons, List.any_nil, List.all_cons, List.all_nil, Bool.and_true, Bool.or_false, Bool.true_and, Bool.false_and, Bool.and_false, Bool.false_or, Bool.or_true, Bool.true_or, Bool.not_not, List.map_cons, List.map_nil, List.length_cons, List.length_nil, List.cons_append, List.nil_append, List.append_nil, List.set_cons_zero, List.set_cons_succ, List.replicate_succ, List.replicate_zero, Nat.reduceSub, Nat.reduceAdd, Nat.reduceLeDiff, Nat.zero_add, Nat.sub_self, decide_eq_true_eq, Bool.not_eq_true', Bool.not_eq_eq_eq_not, Bool.not_true, Bool.not_false, decide_eq_false_iff_not, if_true, if_false, reduceIte, Bool.false_eq_true, true_and, and_true, decide_true, decide_false, Bool.true_eq_false, eq_self]
    refine ⟨_, _, hi S, by rw [len_range]; omega, ?_⟩
    refine (r_lcD (fun d => d = .bl true) CF ?_ hS).imp fun ds S2 h => eq_R (all_true h.1) |>.mpr (hP _)
    intro d hd S hS
    obtain ⟨k, rfl, hk0, hk⟩ := mem_range hd
    simp only [R_some, wb_bl, wi_int, wstr_str, wtup_tup, wlst_lst, wref_ref, wp_var0, wp_varS, wp_C, wp_Bin, wp_neg, wp_nil, wp_cons, wp_tup, wp_lst, wp_lstM, wp_Call, wp_And, wp_Or, wp_Not, wp_Test, wp_tAnd, wp_tOr, wp_tNot, wp_If, wp_Chain, wp_Skip, wp_Break, wp_Cont, wp_Never, wp_fNever, wp_Seq, wp_pfl_nx, wp_pfl_rt, wp_pfl_bk, wp_pfl_ct, wp_Expr, wp_Ret, wp_sIf, wp_Asg, wp_N, wp_gNil, wp_gCons, wp_gTup, wp_gSub, wp_Par, wp_two, wp_Run, wp_run_rt, wp_run_nx, wp_bk_nx, wp_bk_ct, wp_bk_bk, wp_bk_rt, wp_r1, wp_r2, wp_add, wp_addL, wp_addS, wp_mul, wp_fdiv, wp_mod, wp_I0, wp_eqI, wp_eqS, wp_eqB, wp_neI, wp_neS, wp_neB, wp_isN, wp_notN, isn_int, isn_non, isn_str, isn_tup, isn_lst, isn_ref, isn_bl, wp_isi, wp_someB, isi_str_str, isi_int_int, isi_int_bl, isi_bool_int, isi_bool_bl, isi_int_non, isi_int_str, isi_tuple_tup, wp_abs, wp_max2, wp_min2, wp_maxT, wp_intI, wp_intB, wp_lenS, wp_lenT, wp_lenL, wp_lenC, wp_divmod, wp_listL, wp_listT, wp_tupL, wp_tupT, wp_KIn, wp_strE, wp_Fld, wp_FldO, wp_Meth, wp_MakeF, wp_someL, wp_iR1, wp_iR2, wp_iLst, wp_iTup, wp_Prop, wp_IsC, wp_DGet1, wp_DIn, wp_gUnl, wp_DictK, wp_rep, wp_MethK, wp_CallK, wp_DispF, wp_DIx, wp_someX, wp_ixL, wp_ixT, wp_ixC, atI0, atI1, atI2, ixN0, ixN1, wp_Sl, wp_oNone, wp_oSome, wp_slC, wp_slL, wp_slS, str_eq, String.reduceEq, in_ring_crowd, in_ring_star, in_ring_pairs, in_ring_row, in_ring_ring, in_ring_core, in_ring_linked, in_ring_odd_ring, in_ring_even_ring, Bool.or_self, Bool.and_self, wp_Lc, wp_Yes, wp_pow10_9, wp_pow10_18, wp_pow10_40, wp_For, wp_sFld, wp_last, set_last, wp_KIx, wp_inT, wp_inL, eqF_str, flat_str, flat_int, flat_non, List.any_cons, List.any_nil, List.all_cons, List.all_nil, Bool.and_true, Bool.or_false, Bool.true_and, Bool.false_and, Bool.and_false, Bool.false_or, Bool.or_true, Bool.true_or, Bool.not_not, List.map_cons, List.map_nil, List.length_cons, List.length_nil, List.cons_append, List.nil_append, List.append_nil, List.set_cons_zero, List.set_cons_succ, List.replicate_succ, List.replicate_zero, Nat.reduceSub, Nat.reduceAdd, Nat.reduceLeDiff, Nat.zero_add, Nat.sub_self, decide_eq_true_eq, Bool.not_eq_true', Bool.not_eq_eq_eq_not, Bool.not_true, Bool.not_false, decide_eq_false_iff_not, if_true, if_false, reduceIte, Bool.false_eq_true, true_and, and_true, decide_true, decide_false, Bool.true_eq_false, eq_self, wipeD]
    exact r_purse ns hns k hk0 (by omega) S fun S' h1 h2 h3 => hr _ _ h2 (hS.purse h1 h2 h3)
end LW

namespace LW
open PySem PySem.Spec PyProof.Rows L2 DL
/-! ## draws while a new cell stands last -/
theorem Prs.lt {S : Sto} {i : Nat} (h : Prs S i) : i < S.length := by
  obtain ⟨a, b, h, _⟩ := h
  exact (List.getElem?_eq_some_iff.mp h).1
theorem Prs.app {S : Sto} {i : Nat} (h : Prs S i) (T : Sto) : Prs (S ++ T) i := by
  obtain ⟨a, b, h1, h2⟩ := h
  exact ⟨a, b, by rw [List.getElem?_append_left (List.getElem?_eq_some_iff.mp h1).1]; exact h1, h2⟩
theorem apart_last {S0 S' T : Sto} {i : Nat} (hi : i < S0.length) (a : DL.Apart (S0 ++ T) S' i) : ∃ S1, S' = S1 ++ T ∧ S1.length = S0.length ∧ DL.Apart S0 S1 i := by
  have hl := a.1
  rw [List.length_append] at hl
  have e1 : (S'.take S0.length).length = S0.length := by rw [List.length_take]; omega
  refine ⟨S'.take S0.length, ?_, e1, e1, fun j hj => ?_⟩
  · apply List.ext_getElem?
    intro j
    by_cases h : j < S0.length
    · rw [List.getElem?_append_left (by omega), List.getElem?_take_of_lt h]
    · rw [List.getElem?_append_right (by omega), e1, a.2 j (by omega), List.getElem?_append_right (by omega)]
  · by_cases h : j < S0.length
    · rw [List.getElem?_take_of_lt h, a.2 j hj, List.getElem?_append_left h]
    · rw [List.getElem?_eq_none (by omega), List.getElem?_eq_none (by omega)]
theorem prs_take {S T : Sto} {i : Nat} (hi : i < S.length) (h : Prs (S ++ T) i) : Prs S i := by
  obtain ⟨a, b, h1, h2⟩ := h
  exact ⟨a, b, by rw [List.getElem?_append_left hi] at h1; exact h1, h2⟩
theorem r_drawL {S0 T : Sto} {i : Nat} {m : Int} {P : D → Sto → Prop} (h : Prs S0 i) (hm : 0 < m) (hm2 : m ≤ 1000000000000000000000) (k : ∀ r S1, 0 ≤ r → r < m → Prs S1 i → DL.Apart S0 S1 i → P (.int r) (S1 ++ T)) : R (w__law_draw [.ref i, .int m] (S0 ++ T)) P := by
  refine r_draw (h.app T) hm (by omega) fun r S' h0 h1 h2 h3 => ?_
  obtain ⟨S1, rfl, hl, ha⟩ := apart_last h.lt h3
  exact k r S1 h0 h1 (prs_take (by rw [hl]; exact h.lt) h2) ha
theorem noRefs_of : ∀ {es : List D}, (∀ d ∈ es, noRef d = true) → noRefs es = true
  | [], _ => rfl
  | d :: es, h => by
    show (noRef d && noRefs es) = true
    rw [h d (by simp), noRefs_of fun z hz => h z (by simp [hz])]
    rfl
theorem take_app {S T : Sto} {n : Nat} (h : S.length = n) : (S ++ T).take n = S := by
  subst h
  simp
theorem app_at {S : Sto} {c : Cell} {n : Nat} (h : S.length = n) : (S ++ [c])[n]? = some c := by
  subst h
  simp
theorem app_set {S : Sto} {c c' : Cell} {n : Nat} (h : S.length = n) : (S ++ [c]).set n c' = S ++ [c'] := by
  subst h
  simp
end LW

namespace LW
/-! ## pairs of people, counted -/
def rowN (a : Nat) : Nat → Nat → List (Nat × Nat)
  | _, 0 => []
  | b, m + 1 => (a, b) :: rowN a (b + 1) m
def prsF : Nat → Nat → List (Nat × Nat)
  | _, 0 => []
  | a, m + 1 => rowN a (a + 1) m ++ prsF (a + 1) m
def c1 (b : Bool) : Nat := bif b then 1 else 0
def cnt (t : Nat → Nat → Bool) : List (Nat × Nat) → Nat
  | [] => 0
  | p :: l => c1 (t p.1 p.2) + cnt t l
def col (t : Nat → Nat → Bool) (b : Nat) : Nat → Nat → Nat
  | _, 0 => 0
  | a, m + 1 => c1 (t a b) + col t b (a + 1) m
theorem cnt_app {t : Nat → Nat → Bool} : ∀ {xs ys : List (Nat × Nat)}, cnt t (xs ++ ys) = cnt t xs + cnt t ys
  | [], ys => (Nat.zero_add _).symm
  | x :: xs, ys => by
    show c1 _ + cnt t (xs ++ ys) = c1 _ + cnt t xs + cnt t ys
    rw [cnt_app]; omega
theorem row_snoc {t : Nat → Nat → Bool} {a : Nat} : ∀ {m b : Nat}, cnt t (rowN a b (m + 1)) = cnt t (rowN a b m) + c1 (t a (b + m))
  | 0, b => by show c1 (t a b) + 0 = 0 + c1 (t a (b + 0)); rw [Nat.add_zero, Nat.add_zero]; omega
  | m + 1, b => by
    show c1 (t a b) + cnt t (rowN a (b + 1) (m + 1)) = c1 (t a b) + cnt t (rowN a (b + 1) m) + c1 (t a (b + (m + 1)))
    rw [row_snoc, show b + 1 + m = b + (m + 1) by omega]; omega
theorem prs_snoc {t : Nat → Nat → Bool} : ∀ {m a : Nat}, cnt t (prsF a (m + 1)) = cnt t (prsF a m) + col t (a + m) a m
  | 0, a => rfl
  | m + 1, a => by
    show cnt t (rowN a (a + 1) (m + 1) ++ prsF (a + 1) (m + 1)) = cnt t (rowN a (a + 1) m ++ prsF (a + 1) m) + (c1 (t a (a + (m + 1))) + col t (a + (m + 1)) (a + 1) m)
    rw [cnt_app, cnt_app, row_snoc, prs_snoc, show a + 1 + m = a + (m + 1) by omega]; omega
theorem prs_mem : ∀ {m a : Nat} {p : Nat × Nat}, p ∈ prsF a m → a ≤ p.1 ∧ p.1 < p.2 ∧ p.2 < a + m
  | 0, a, p, h => by cases h
  | m + 1, a, p, h => by
    have row : ∀ {m b : Nat}, p ∈ rowN a b m → p.1 = a ∧ b ≤ p.2 ∧ p.2 < b + m := by
      intro m
      induction m with
      | zero => intro b h; cases h
      | succ m ih =>
        intro b h
        rcases List.mem_cons.mp h with rfl | q
        · exact ⟨rfl, Nat.le_refl _, by show b < b + (m + 1); omega⟩
        · have := ih q
          omega
    rcases List.mem_append.mp h with q | q
    · have := row q; omega
    · have := prs_mem q; omega
theorem cnt_congr {t t' : Nat → Nat → Bool} : ∀ {l : List (Nat × Nat)}, (∀ p ∈ l, t p.1 p.2 = t' p.1 p.2) → cnt t l = cnt t' l
  | [], _ => rfl
  | p :: l, h => by
    show c1 _ + cnt t l = c1 _ + cnt t' l
    rw [h p (List.mem_cons_self ..), cnt_congr fun q hq => h q (List.mem_cons_of_mem _ hq)]
/-- a count that does not hang on the whole: by columns -/
theorem by_cols {t : Nat → Nat → Bool} {M : Nat → Int} (h0 : M 0 = 0) (h : ∀ n, n < 40 → M (n + 1) = M n + (col t n 0 n : Nat)) : ∀ n, n ≤ 40 → (cnt t (prsF 0 n) : Int) = M n
  | 0, _ => h0.symm
  | n + 1, hn => by
    rw [prs_snoc, h n (by omega), ← by_cols h0 h n (by omega), Nat.zero_add]
    omega
def F1 (m a b : Nat) : Bool := !Nat.beq (a % m) (b % m)
def F2 (m a b : Nat) : Bool := Nat.beq (a / m) (b / m)
def F3 (m a b : Nat) : Bool := Nat.beq a 0 || Nat.beq ((a - 1) / m) ((b - 1) / m)
def F4 (a b : Nat) : Bool := Nat.beq a 0 || (Nat.beq (a % 2) 1 && Nat.beq b (a + 1))
def F5 (q a b : Nat) : Bool := Nat.blt a q
def F6 (q a b : Nat) : Bool := Nat.blt b q
def F7 (k n a b : Nat) : Bool := Nat.ble n k || (!Nat.beq b (n - 1) || Nat.blt a (k - 1))
def F8 (k n a b : Nat) : Bool := Nat.ble n k || ((Nat.ble (b - a) ((k - 1) / 2) || Nat.ble (n - (b - a)) ((k - 1) / 2)) || (Nat.beq (k % 2) 0 && (Nat.beq (b - a) (n / 2) && (Nat.beq (n % 2) 0 || Nat.blt a (n / 2)))))
def F9 (a b : Nat) : Bool := true
def twoI (n : Int) : Int := n * (n - 1) / 2
def nCrowd (k n : Int) : Int := twoI n - n % (k - 1) * twoI (n / (k - 1) + 1) - (k - 1 - n % (k - 1)) * twoI (n / (k - 1))
def nStar (k n : Int) : Int := if n * (k - 1) / 2 < twoI n then n * (k - 1) / 2 else twoI n
def nRow (k n : Int) : Int := n / (k - 1) * twoI (k - 1) + twoI (n % (k - 1))
def nRing (k n : Int) : Int := if n = 0 then 0 else (n - 1) / (k - 2) * twoI (k - 1) + twoI ((n - 1) % (k - 2) + 1)
def nOdd (n : Int) : Int := if n = 0 then 0 else n * n / 4
def nEven (n : Int) : Int := if n = 0 then 0 else 3 * (n - 1) / 2
def n5 (q n : Int) : Int := if n ≤ q then twoI n else twoI q + q * (n - q)
def n6 (q n : Int) : Int := if n ≤ q then twoI n else twoI q
def nCore (k n : Int) : Int := if n < k then twoI n else (k - 1) * n - twoI k
def nLinked (k n : Int) : Int := if n ≤ k then twoI n else twoI (n - 1) + k - 1
def colsB (t : Nat → Nat → Bool) (M : Nat → Int) : Bool := decide (M 0 = 0) && (List.range 40).all fun n => decide (M (n + 1) = M n + (col t n 0 n : Nat))
theorem colsB_ok {t : Nat → Nat → Bool} {M : Nat → Int} (h : colsB t M = true) {n : Nat} (hn : n ≤ 40) : (cnt t (prsF 0 n) : Int) = M n := by
  obtain ⟨h1, h2⟩ := Bool.and_eq_true_iff.mp h
  exact by_cols (of_decide_eq_true h1) (fun n hn => of_decide_eq_true (List.all_eq_true.mp h2 n (List.mem_range.mpr hn))) n hn
theorem all_r {f : Nat → Bool} {N : Nat} (h : (List.range N).all f = true) {k : Nat} (hk : k < N) : f k = true := List.all_eq_true.mp h k (List.mem_range.mpr hk)
theorem e1 : ((List.range 42).all fun m => colsB (F1 (m + 1)) fun n => nCrowd ((m : Int) + 2) n) = true := by decide +kernel
theorem e2 : ((List.range 42).all fun m => colsB (F2 (m + 1)) fun n => nRow ((m : Int) + 2) n) = true := by decide +kernel
theorem e3 : ((List.range 42).all fun m => colsB (F3 (m + 1)) fun n => nRing ((m : Int) + 3) n) = true := by decide +kernel
theorem eOdd : colsB (F1 2) (fun n => nOdd n) = true := by decide +kernel
theorem eEven : colsB F4 (fun n => nEven n) = true := by decide +kernel
theorem e5 : ((List.range 42).all fun q => colsB (F5 q) fun n => n5 q n) = true := by decide +kernel
theorem e6 : ((List.range 84).all fun q => colsB (F6 q) fun n => n6 q n) = true := by decide +kernel
theorem eCore : ((List.range 42).all fun q => colsB (F5 q) fun n => nCore ((q : Int) + 1) n) = true := by decide +kernel
theorem e9 : colsB F9 (fun n => twoI n) = true := by decide +kernel
end LW

namespace LW
theorem eLinked : ((List.range 42).all fun k => (List.range 41).all fun n => decide ((cnt (F7 (k + 1) n) (prsF 0 n) : Int) = nLinked ((k : Int) + 1) n)) = true := by decide +kernel
theorem eStar : ((List.range 42).all fun k => (List.range 41).all fun n => decide ((cnt (F8 (k + 1) n) (prsF 0 n) : Int) = nStar ((k : Int) + 1) n)) = true := by decide +kernel
end LW

namespace LW
/-! ## how many ties each one has, in one number -/
def pst (t : Nat → Nat → Bool) : List (Nat × Nat) → Nat
  | [] => 0
  | p :: l => (bif t p.1 p.2 then 1024 ^ p.1 + 1024 ^ p.2 else 0) + pst t l
def digB (k N : Nat) : Nat → Bool
  | 0 => true
  | v + 1 => Nat.blt (N / 1024 ^ v % 1024) k && digB k N v
theorem eDeg : ((List.range 42).all fun k => (List.range 41).all fun n => digB (k + 1) (pst (F8 (k + 1) n) (prsF 0 n)) n) = true := by decide +kernel
end LW

namespace LW
def bmp (cs : List Nat) (i : Nat) : List Nat := cs.set i (cs.getD i 0 + 1)
def stp (t : Nat → Nat → Bool) (st : Nat × List Nat) (p : Nat × Nat) : Nat × List Nat := bif t p.1 p.2 then (st.1 + 1, bmp (bmp st.2 p.1) p.2) else st
def pk : List Nat → Nat
  | [] => 0
  | c :: l => c + 1024 * pk l
theorem bmp_len {cs : List Nat} {i : Nat} : (bmp cs i).length = cs.length := List.length_set
theorem pk_bmp : ∀ {cs : List Nat} {i : Nat}, i < cs.length → pk (bmp cs i) = pk cs + 1024 ^ i
  | [], i, h => by cases h
  | c :: l, 0, _ => by show c + 1 + 1024 * pk l = c + 1024 * pk l + 1; omega
  | c :: l, i + 1, h => by
    have ih := pk_bmp (cs := l) (i := i) (by simpa using h)
    show c + 1024 * pk (bmp l i) = c + 1024 * pk l + 1024 ^ (i + 1)
    rw [ih, Nat.pow_succ]; omega
theorem bmp_at {cs : List Nat} {i v : Nat} : (bmp cs i).getD v 0 ≤ cs.getD v 0 + (if v = i then 1 else 0) := by
  unfold bmp
  rw [List.getD_eq_getElem?_getD, List.getElem?_set, List.getD_eq_getElem?_getD]
  by_cases h : i = v
  · subst h
    rw [if_pos rfl, if_pos rfl]
    split
    · rw [List.getD_eq_getElem?_getD]; exact Nat.le_refl _
    · exact Nat.zero_le _
  · rw [if_neg h, if_neg (fun q => h q.symm)]
    exact Nat.le_refl _
theorem digit : ∀ {cs : List Nat} {v : Nat}, v < cs.length → (∀ c ∈ cs, c < 1024) → pk cs / 1024 ^ v % 1024 = cs.getD v 0
  | [], v, h, _ => by cases h
  | c :: l, 0, _, hc => by
    have := hc c (List.mem_cons_self ..)
    show (c + 1024 * pk l) / 1024 ^ 0 % 1024 = c
    rw [Nat.pow_zero, Nat.div_one]; omega
  | c :: l, v + 1, h, hc => by
    have h1 := hc c (List.mem_cons_self ..)
    have ih := digit (cs := l) (v := v) (by simpa using h) fun c hc' => hc c (List.mem_cons_of_mem _ hc')
    show (c + 1024 * pk l) / 1024 ^ (v + 1) % 1024 = l.getD v 0
    rw [Nat.pow_succ, Nat.mul_comm (1024 ^ v), ← Nat.div_div_eq_div_mul, show (c + 1024 * pk l) / 1024 = pk l by omega, ih]
theorem pk_zero : ∀ n : Nat, pk (List.replicate n 0) = 0
  | 0 => rfl
  | n + 1 => by show 0 + 1024 * pk (List.replicate n 0) = 0; rw [pk_zero n]
/-- what the counting ends with -/
theorem fold_ok {t : Nat → Nat → Bool} {n : Nat} : ∀ {l : List (Nat × Nat)} {st : Nat × List Nat}, (∀ p ∈ l, p.1 < p.2 ∧ p.2 < n) → st.2.length = n → (∀ v, st.2.getD v 0 ≤ st.1) →
    (l.foldl (stp t) st).1 = st.1 + cnt t l ∧ (l.foldl (stp t) st).2.length = n ∧ pk (l.foldl (stp t) st).2 = pk st.2 + pst t l ∧ ∀ v, (l.foldl (stp t) st).2.getD v 0 ≤ (l.foldl (stp t) st).1
  | [], st, _, h1, h2 => ⟨rfl, h1, rfl, h2⟩
  | p :: l, st, h, h1, h2 => by
    obtain ⟨q1, q2⟩ := h p (List.mem_cons_self ..)
    have key : (stp t st p).1 = st.1 + c1 (t p.1 p.2) ∧ (stp t st p).2.length = n ∧ pk (stp t st p).2 = pk st.2 + (bif t p.1 p.2 then 1024 ^ p.1 + 1024 ^ p.2 else 0) ∧ ∀ v, (stp t st p).2.getD v 0 ≤ (stp t st p).1 := by
      unfold stp
      cases t p.1 p.2 with
      | false => exact ⟨rfl, h1, rfl, h2⟩
      | true =>
        refine ⟨rfl, ?_, ?_, fun v => ?_⟩
        · show (bmp (bmp st.2 p.1) p.2).length = n
          rw [bmp_len, bmp_len, h1]
        · show pk (bmp (bmp st.2 p.1) p.2) = pk st.2 + (1024 ^ p.1 + 1024 ^ p.2)
          rw [pk_bmp (by rw [bmp_len, h1]; exact q2), pk_bmp (by rw [h1]; omega)]; omega
        · show (bmp (bmp st.2 p.1) p.2).getD v 0 ≤ st.1 + 1
          have a1 := bmp_at (cs := bmp st.2 p.1) (i := p.2) (v := v)
          have a2 := bmp_at (cs := st.2) (i := p.1) (v := v)
          have a3 := h2 v
          split at a1 <;> split at a2 <;> omega
    obtain ⟨k1, k2, k3, k4⟩ := key
    obtain ⟨r1, r2, r3, r4⟩ := fold_ok (l := l) (st := stp t st p) (fun z hz => h z (List.mem_cons_of_mem _ hz)) k2 k4
    refine ⟨?_, r2, ?_, r4⟩
    · show (l.foldl (stp t) (stp t st p)).1 = st.1 + (c1 (t p.1 p.2) + cnt t l)
      rw [r1, k1]; omega
    · show pk (l.foldl (stp t) (stp t st p)).2 = pk st.2 + ((bif t p.1 p.2 then 1024 ^ p.1 + 1024 ^ p.2 else 0) + pst t l)
      rw [r3, k3]; omega
theorem digB_ok {k N : Nat} : ∀ {n v : Nat}, digB k N n = true → v < n → N / 1024 ^ v % 1024 < k
  | 0, v, _, h => by cases h
  | n + 1, v, h, hv => by
    obtain ⟨h1, h2⟩ := Bool.and_eq_true_iff.mp h
    by_cases e : v = n
    · subst e
      exact Nat.le_of_ble_eq_true h1
    · exact digB_ok h2 (by omega)
def fin (t : Nat → Nat → Bool) (n : Nat) : Nat × List Nat := (prsF 0 n).foldl (stp t) (0, List.replicate n 0)
theorem rep_at {n v : Nat} : (List.replicate n 0).getD v 0 ≤ 0 := by
  rw [List.getD_eq_getElem?_getD, List.getElem?_replicate]
  split <;> exact Nat.le_refl _
theorem fin_ok (t : Nat → Nat → Bool) (n : Nat) : (fin t n).1 = cnt t (prsF 0 n) ∧ (fin t n).2.length = n ∧ pk (fin t n).2 = pst t (prsF 0 n) ∧ ∀ v, (fin t n).2.getD v 0 ≤ (fin t n).1 := by
  obtain ⟨a, b, c, d⟩ := fold_ok (t := t) (n := n) (l := prsF 0 n) (st := (0, List.replicate n 0)) (fun p hp => by have := prs_mem hp; omega) (List.length_replicate) (fun v => rep_at)
  refine ⟨?_, b, ?_, d⟩
  · have a : (fin t n).1 = 0 + cnt t (prsF 0 n) := a
    omega
  · have c : pk (fin t n).2 = pk (List.replicate n 0) + pst t (prsF 0 n) := c
    rw [c, pk_zero]; omega
theorem cnt_le {t : Nat → Nat → Bool} : ∀ {l : List (Nat × Nat)}, cnt t l ≤ l.length
  | [] => Nat.le_refl _
  | p :: l => by
    have : c1 (t p.1 p.2) ≤ 1 := by cases t p.1 p.2 <;> decide
    have := cnt_le (t := t) (l := l)
    show c1 (t p.1 p.2) + cnt t l ≤ l.length + 1
    omega
theorem len_ok : ((List.range 41).all fun n => Nat.ble (prsF 0 n).length 1000) = true := by decide +kernel
/-- no one has too many ties in the rule for stars -/
theorem star_deg {m n : Nat} (hn : n ≤ 40) (hm : m < 42) : ∀ c ∈ (fin (F8 (m + 1) n) n).2, c < m + 1 := by
  obtain ⟨a, b, c, d⟩ := fin_ok (F8 (m + 1) n) n
  have hl := Nat.le_of_ble_eq_true (all_r len_ok (show n < 41 by omega))
  have hc := cnt_le (t := F8 (m + 1) n) (l := prsF 0 n)
  have big : ∀ z ∈ (fin (F8 (m + 1) n) n).2, z < 1024 := by
    intro z hz
    obtain ⟨v, hv⟩ := List.mem_iff_getElem?.mp hz
    have := d v
    rw [List.getD_eq_getElem?_getD, hv] at this
    have : z ≤ (fin (F8 (m + 1) n) n).1 := this
    omega
  intro z hz
  obtain ⟨v, hv⟩ := List.mem_iff_getElem?.mp hz
  have hvl := (List.getElem?_eq_some_iff.mp hv).1
  have h1 := digit hvl big
  have h2 := digB_ok (all_r (all_r eDeg hm) (show n < 41 by omega)) (show v < n by omega)
  rw [← c, h1, List.getD_eq_getElem?_getD, hv] at h2
  exact h2
end LW

set_option exponentiation.threshold 2000
namespace LW
open PySem PySem.Spec PyProof.Rows L2 DL
theorem two_eq {n : Int} (h : Nb n) (S : Sto) : w__law_two [.int n] S = some (.int (two n), S) := pairs_eq h S
theorem law_crowd {k n : Int} (hk : Pe k) (h2 : 2 ≤ k) (hn : Pe n) (S : Sto) : w__law_most [.str "crowd", .int k, .int n] S = some (.int (mCrowd k n), S) := by
  unfold Pe at hk hn
  have h1 := div_le (n := n) (j := k - 1) (by omega) (by omega)
  have h3 := mod_le (n := n) (j := k - 1) (by omega) (by omega)
  have b1 : Nb (n / (k - 1)) := by unfold Nb; omega
  have b2 : Nb (n / (k - 1) + 1) := by unfold Nb; omega
  have b3 : Nb (n % (k - 1)) := by unfold Nb; omega
  have b4 : Nb (k - 1 - n % (k - 1)) := by unfold Nb; omega
  have b5 : Nb n := by unfold Nb; omega
  rw [← R_eq]
  unfold w__law_most d__law_most b__law_most
  simp only [R_some, wb_bl, wi_int, wstr_str, wtup_tup, wlst_lst, wref_ref, wp_var0, wp_varS, wp_C, wp_Bin, wp_neg, wp_nil, wp_cons, wp_tup, wp_lst, wp_lstM, wp_Call, wp_And, wp_Or, wp_Not, wp_Test, wp_tAnd, wp_tOr, wp_tNot, wp_If, wp_Chain, wp_Skip, wp_Break, wp_Cont, wp_Never, wp_fNever, wp_Seq, wp_pfl_nx, wp_pfl_rt, wp_pfl_bk, wp_pfl_ct, wp_Expr, wp_Ret, wp_sIf, wp_Asg, wp_N, wp_gNil, wp_gCons, wp_gTup, wp_gSub, wp_Par, wp_two, wp_Run, wp_run_rt, wp_run_nx, wp_bk_nx, wp_bk_ct, wp_bk_bk, wp_bk_rt, wp_r1, wp_r2, wp_add, wp_addL, wp_addS, wp_mul, wp_fdiv, wp_mod, wp_I0, wp_eqI, wp_eqS, wp_eqB, wp_neI, wp_neS, wp_neB, wp_isN, wp_notN, isn_int, isn_non, isn_str, isn_tup, isn_lst, isn_ref, isn_bl, wp_isi, wp_someB, isi_str_str, isi_int_int, isi_int_bl, isi_bool_int, isi_bool_bl, isi_int_non, isi_int_str, isi_tuple_tup, wp_abs, wp_max2, wp_min2, wp_maxT, wp_intI, wp_intB, wp_lenS, wp_lenT, wp_lenL, wp_lenC, wp_divmod, wp_listL, wp_listT, wp_tupL, wp_tupT, wp_KIn, wp_strE, wp_Fld, wp_FldO, wp_Meth, wp_MakeF, wp_someL, wp_iR1, wp_iR2, wp_iLst, wp_iTup, wp_Prop, wp_IsC, wp_DGet1, wp_DIn, wp_gUnl, wp_DictK, wp_rep, wp_MethK, wp_CallK, wp_DispF, wp_DIx, wp_someX, wp_ixL, wp_ixT, wp_ixC, atI0, atI1, atI2, ixN0, ixN1, wp_Sl, wp_oNone, wp_oSome, wp_slC, wp_slL, wp_slS, str_eq, String.reduceEq, in_ring_crowd, in_ring_star, in_ring_pairs, in_ring_row, in_ring_ring, in_ring_core, in_ring_linked, in_ring_odd_ring, in_ring_even_ring, Bool.or_self, Bool.and_self, wp_Lc, wp_Yes, wp_pow10_9, wp_pow10_18, wp_pow10_40, wp_For, wp_sFld, wp_last, set_last, wp_KIx, wp_inT, wp_inL, eqF_str, flat_str, flat_int, flat_non, List.any_cons, List.any_nil, List.all_cons, List.all_nil, Bool.and_true, Bool.or_false, Bool.true_and, Bool.false_and, Bool.and_false, Bool.false_or, Bool.or_true, Bool.true_or, Bool.not_not, List.map_cons, List.map_nil, List.length_cons, List.length_nil, List.cons_append, List.nil_append, List.append_nil, List.set_cons_zero, List.set_cons_succ, List.replicate_succ, List.replicate_zero, Nat.reduceSub, Nat.reduceAdd, Nat.reduceLeDiff, Nat.zero_add, Nat.sub_self, decide_eq_true_eq, Bool.not_eq_true', Bool.not_eq_eq_eq_not, Bool.not_true, Bool.not_false, decide_eq_false_iff_not, if_true, if_false, reduceIte, Bool.false_eq_true, true_and, and_true, decide_true, decide_false, Bool.true_eq_false, eq_self, eq_R (two_eq b1 _), eq_R (two_eq b2 _), eq_R (two_eq b5 _)]
  exact ⟨⟨by omega, lgk (by omega) (by omega)⟩, by omega, ⟨b3.sm, two_sm b2⟩, ⟨b4.sm, two_sm b1⟩, rfl⟩
theorem law_row {k n : Int} (hk : Pe k) (h2 : 2 ≤ k) (hn : Pe n) (S : Sto) : w__law_most [.str "row", .int k, .int n] S = some (.int (mRow k n), S) := by
  unfold Pe at hk hn
  have h1 := div_le (n := n) (j := k - 1) (by omega) (by omega)
  have h3 := mod_le (n := n) (j := k - 1) (by omega) (by omega)
  have b1 : Nb (n / (k - 1)) := by unfold Nb; omega
  have b2 : Nb (k - 1) := by unfold Nb; omega
  have b3 : Nb (n % (k - 1)) := by unfold Nb; omega
  rw [← R_eq]
  unfold w__law_most d__law_most b__law_most
  simp only [R_some, wb_bl, wi_int, wstr_str, wtup_tup, wlst_lst, wref_ref, wp_var0, wp_varS, wp_C, wp_Bin, wp_neg, wp_nil, wp_cons, wp_tup, wp_lst, wp_lstM, wp_Call, wp_And, wp_Or, wp_Not, wp_Test, wp_tAnd, wp_tOr, wp_tNot, wp_If, wp_Chain, wp_Skip, wp_Break, wp_Cont, wp_Never, wp_fNever, wp_Seq, wp_pfl_nx, wp_pfl_rt, wp_pfl_bk, wp_pfl_ct, wp_Expr, wp_Ret, wp_sIf, wp_Asg, wp_N, wp_gNil, wp_gCons, wp_gTup, wp_gSub, wp_Par, wp_two, wp_Run, wp_run_rt, wp_run_nx, wp_bk_nx, wp_bk_ct, wp_bk_bk, wp_bk_rt, wp_r1, wp_r2, wp_add, wp_addL, wp_addS, wp_mul, wp_fdiv, wp_mod, wp_I0, wp_eqI, wp_eqS, wp_eqB, wp_neI, wp_neS, wp_neB, wp_isN, wp_notN, isn_int, isn_non, isn_str, isn_tup, isn_lst, isn_ref, isn_bl, wp_isi, wp_someB, isi_str_str, isi_int_int, isi_int_bl, isi_bool_int, isi_bool_bl, isi_int_non, isi_int_str, isi_tuple_tup, wp_abs, wp_max2, wp_min2, wp_maxT, wp_intI, wp_intB, wp_lenS, wp_lenT, wp_lenL, wp_lenC, wp_divmod, wp_listL, wp_listT, wp_tupL, wp_tupT, wp_KIn, wp_strE, wp_Fld, wp_FldO, wp_Meth, wp_MakeF, wp_someL, wp_iR1, wp_iR2, wp_iLst, wp_iTup, wp_Prop, wp_IsC, wp_DGet1, wp_DIn, wp_gUnl, wp_DictK, wp_rep, wp_MethK, wp_CallK, wp_DispF, wp_DIx, wp_someX, wp_ixL, wp_ixT, wp_ixC, atI0, atI1, atI2, ixN0, ixN1, wp_Sl, wp_oNone, wp_oSome, wp_slC, wp_slL, wp_slS, str_eq, String.reduceEq, in_ring_crowd, in_ring_star, in_ring_pairs, in_ring_row, in_ring_ring, in_ring_core, in_ring_linked, in_ring_odd_ring, in_ring_even_ring, Bool.or_self, Bool.and_self, wp_Lc, wp_Yes, wp_pow10_9, wp_pow10_18, wp_pow10_40, wp_For, wp_sFld, wp_last, set_last, wp_KIx, wp_inT, wp_inL, eqF_str, flat_str, flat_int, flat_non, List.any_cons, List.any_nil, List.all_cons, List.all_nil, Bool.and_true, Bool.or_false, Bool.true_and, Bool.false_and, Bool.and_false, Bool.false_or, Bool.or_true, Bool.true_or, Bool.not_not, List.map_cons, List.map_nil, List.length_cons, List.length_nil, List.cons_append, List.nil_append, List.append_nil, List.set_cons_zero, List.set_cons_succ, List.replicate_succ, List.replicate_zero, Nat.reduceSub, Nat.reduceAdd, Nat.reduceLeDiff, Nat.zero_add, Nat.sub_self, decide_eq_true_eq, Bool.not_eq_true', Bool.not_eq_eq_eq_not, Bool.not_true, Bool.not_false, decide_eq_false_iff_not, if_true, if_false, reduceIte, Bool.false_eq_true, true_and, and_true, decide_true, decide_false, Bool.true_eq_false, eq_self, eq_R (two_eq b2 _), eq_R (two_eq b3 _)]
  exact ⟨⟨by omega, lgk (by omega) (by omega)⟩, ⟨b1.sm, two_sm b2⟩, by omega, rfl⟩
theorem law_star {k n : Int} (hk : Pe k) (h2 : 1 ≤ k) (hn : Pe n) (S : Sto) : w__law_most [.str "star", .int k, .int n] S = some (.int (mStar k n), S) := by
  unfold Pe at hk hn
  have b1 : Nb n := by unfold Nb; omega
  have b2 : Nb (k - 1) := by unfold Nb; omega
  rw [← R_eq]
  unfold w__law_most d__law_most b__law_most
  simp only [R_some, wb_bl, wi_int, wstr_str, wtup_tup, wlst_lst, wref_ref, wp_var0, wp_varS, wp_C, wp_Bin, wp_neg, wp_nil, wp_cons, wp_tup, wp_lst, wp_lstM, wp_Call, wp_And, wp_Or, wp_Not, wp_Test, wp_tAnd, wp_tOr, wp_tNot, wp_If, wp_Chain, wp_Skip, wp_Break, wp_Cont, wp_Never, wp_fNever, wp_Seq, wp_pfl_nx, wp_pfl_rt, wp_pfl_bk, wp_pfl_ct, wp_Expr, wp_Ret, wp_sIf, wp_Asg, wp_N, wp_gNil, wp_gCons, wp_gTup, wp_gSub, wp_Par, wp_two, wp_Run, wp_run_rt, wp_run_nx, wp_bk_nx, wp_bk_ct, wp_bk_bk, wp_bk_rt, wp_r1, wp_r2, wp_add, wp_addL, wp_addS, wp_mul, wp_fdiv, wp_mod, wp_I0, wp_eqI, wp_eqS, wp_eqB, wp_neI, wp_neS, wp_neB, wp_isN, wp_notN, isn_int, isn_non, isn_str, isn_tup, isn_lst, isn_ref, isn_bl, wp_isi, wp_someB, isi_str_str, isi_int_int, isi_int_bl, isi_bool_int, isi_bool_bl, isi_int_non, isi_int_str, isi_tuple_tup, wp_abs, wp_max2, wp_min2, wp_maxT, wp_intI, wp_intB, wp_lenS, wp_lenT, wp_lenL, wp_lenC, wp_divmod, wp_listL, wp_listT, wp_tupL, wp_tupT, wp_KIn, wp_strE, wp_Fld, wp_FldO, wp_Meth, wp_MakeF, wp_someL, wp_iR1, wp_iR2, wp_iLst, wp_iTup, wp_Prop, wp_IsC, wp_DGet1, wp_DIn, wp_gUnl, wp_DictK, wp_rep, wp_MethK, wp_CallK, wp_DispF, wp_DIx, wp_someX, wp_ixL, wp_ixT, wp_ixC, atI0, atI1, atI2, ixN0, ixN1, wp_Sl, wp_oNone, wp_oSome, wp_slC, wp_slL, wp_slS, str_eq, String.reduceEq, in_ring_crowd, in_ring_star, in_ring_pairs, in_ring_row, in_ring_ring, in_ring_core, in_ring_linked, in_ring_odd_ring, in_ring_even_ring, Bool.or_self, Bool.and_self, wp_Lc, wp_Yes, wp_pow10_9, wp_pow10_18, wp_pow10_40, wp_For, wp_sFld, wp_last, set_last, wp_KIx, wp_inT, wp_inL, eqF_str, flat_str, flat_int, flat_non, List.any_cons, List.any_nil, List.all_cons, List.all_nil, Bool.and_true, Bool.or_false, Bool.true_and, Bool.false_and, Bool.and_false, Bool.false_or, Bool.or_true, Bool.true_or, Bool.not_not, List.map_cons, List.map_nil, List.length_cons, List.length_nil, List.cons_append, List.nil_append, List.append_nil, List.set_cons_zero, List.set_cons_succ, List.replicate_succ, List.replicate_zero, Nat.reduceSub, Nat.reduceAdd, Nat.reduceLeDiff, Nat.zero_add, Nat.sub_self, decide_eq_true_eq, Bool.not_eq_true', Bool.not_eq_eq_eq_not, Bool.not_true, Bool.not_false, decide_eq_false_iff_not, if_true, if_false, reduceIte, Bool.false_eq_true, true_and, and_true, decide_true, decide_false, Bool.true_eq_false, eq_self, eq_R (two_eq b1 _)]
  exact ⟨⟨b1.sm, b2.sm⟩, ⟨by decide, lgk (by decide) (by decide)⟩, rfl⟩
theorem law_ring {k n : Int} (hk : Pe k) (h2 : 3 ≤ k) (hn : Pe n) (S : Sto) : w__law_most [.str "ring", .int k, .int n] S = some (.int (mRing k n), S) := by
  unfold Pe at hk hn
  have b0 : Nb n := by unfold Nb; omega
  rw [← R_eq]
  unfold w__law_most d__law_most b__law_most mRing
  by_cases h0 : n = 0
  · subst h0
    simp only [R_some, wb_bl, wi_int, wstr_str, wtup_tup, wlst_lst, wref_ref, wp_var0, wp_varS, wp_C, wp_Bin, wp_neg, wp_nil, wp_cons, wp_tup, wp_lst, wp_lstM, wp_Call, wp_And, wp_Or, wp_Not, wp_Test, wp_tAnd, wp_tOr, wp_tNot, wp_If, wp_Chain, wp_Skip, wp_Break, wp_Cont, wp_Never, wp_fNever, wp_Seq, wp_pfl_nx, wp_pfl_rt, wp_pfl_bk, wp_pfl_ct, wp_Expr, wp_Ret, wp_sIf, wp_Asg, wp_N, wp_gNil, wp_gCons, wp_gTup, wp_gSub, wp_Par, wp_two, wp_Run, wp_run_rt, wp_run_nx, wp_bk_nx, wp_bk_ct, wp_bk_bk, wp_bk_rt, wp_r1, wp_r2, wp_add, wp_addL, wp_addS, wp_mul, wp_fdiv, wp_mod, wp_I0, wp_eqI, wp_eqS, wp_eqB, wp_neI, wp_neS, wp_neB, wp_isN, wp_notN, isn_int, isn_non, isn_str, isn_tup, isn_lst, isn_ref, isn_bl, wp_isi, wp_someB, isi_str_str, isi_int_int, isi_int_bl, isi_bool_int, isi_bool_bl, isi_int_non, isi_int_str, isi_tuple_tup, wp_abs, wp_max2, wp_min2, wp_maxT, wp_intI, wp_intB, wp_lenS, wp_lenT, wp_lenL, wp_lenC, wp_divmod, wp_listL, wp_listT, wp_tupL, wp_tupT, wp_KIn, wp_strE, wp_Fld, wp_FldO, wp_Meth, wp_MakeF, wp_someL, wp_iR1, wp_iR2, wp_iLst, wp_iTup, wp_Prop, wp_IsC, wp_DGet1, wp_DIn, wp_gUnl, wp_DictK, wp_rep, wp_MethK, wp_CallK, wp_DispF, wp_DIx, wp_someX, wp_ixL, wp_ixT, wp_ixC, atI0, atI1, atI2, ixN0, ixN1, wp_Sl, wp_oNone, wp_oSome, wp_slC, wp_slL, wp_slS, str_eq, String.reduceEq, in_ring_crowd, in_ring_star, in_ring_pairs, in_ring_row, in_ring_ring, in_ring_core, in_ring_linked, in_ring_odd_ring, in_ring_even_ring, Bool.or_self, Bool.and_self, wp_Lc, wp_Yes, wp_pow10_9, wp_pow10_18, wp_pow10_40, wp_For, wp_sFld, wp_last, set_last, wp_KIx, wp_inT, wp_inL, eqF_str, flat_str, flat_int, flat_non, List.any_cons, List.any_nil, List.all_cons, List.all_nil, Bool.and_true, Bool.or_false, Bool.true_and, Bool.false_and, Bool.and_false, Bool.false_or, Bool.or_true, Bool.true_or, Bool.not_not, List.map_cons, List.map_nil, List.length_cons, List.length_nil, List.cons_append, List.nil_append, List.append_nil, List.set_cons_zero, List.set_cons_succ, List.replicate_succ, List.replicate_zero, Nat.reduceSub, Nat.reduceAdd, Nat.reduceLeDiff, Nat.zero_add, Nat.sub_self, decide_eq_true_eq, Bool.not_eq_true', Bool.not_eq_eq_eq_not, Bool.not_true, Bool.not_false, decide_eq_false_iff_not, if_true, if_false, reduceIte, Bool.false_eq_true, true_and, and_true, decide_true, decide_false, Bool.true_eq_false, eq_self]
    exact ⟨⟨b0.sm, b0.sm⟩, ⟨by decide, lgk (by decide) (by decide)⟩, rfl⟩
  have h1 := div_le (n := n - 1) (j := k - 2) (by omega) (by omega)
  have h3 := mod_le (n := n - 1) (j := k - 2) (by omega) (by omega)
  have b1 : Nb ((n - 1) / (k - 2)) := by unfold Nb; omega
  have b2 : Nb (k - 1) := by unfold Nb; omega
  have b3 : Nb ((n - 1) % (k - 2) + 1) := by unfold Nb; omega
  simp only [R_some, wb_bl, wi_int, wstr_str, wtup_tup, wlst_lst, wref_ref, wp_var0, wp_varS, wp_C, wp_Bin, wp_neg, wp_nil, wp_cons, wp_tup, wp_lst, wp_lstM, wp_Call, wp_And, wp_Or, wp_Not, wp_Test, wp_tAnd, wp_tOr, wp_tNot, wp_If, wp_Chain, wp_Skip, wp_Break, wp_Cont, wp_Never, wp_fNever, wp_Seq, wp_pfl_nx, wp_pfl_rt, wp_pfl_bk, wp_pfl_ct, wp_Expr, wp_Ret, wp_sIf, wp_Asg, wp_N, wp_gNil, wp_gCons, wp_gTup, wp_gSub, wp_Par, wp_two, wp_Run, wp_run_rt, wp_run_nx, wp_bk_nx, wp_bk_ct, wp_bk_bk, wp_bk_rt, wp_r1, wp_r2, wp_add, wp_addL, wp_addS, wp_mul, wp_fdiv, wp_mod, wp_I0, wp_eqI, wp_eqS, wp_eqB, wp_neI, wp_neS, wp_neB, wp_isN, wp_notN, isn_int, isn_non, isn_str, isn_tup, isn_lst, isn_ref, isn_bl, wp_isi, wp_someB, isi_str_str, isi_int_int, isi_int_bl, isi_bool_int, isi_bool_bl, isi_int_non, isi_int_str, isi_tuple_tup, wp_abs, wp_max2, wp_min2, wp_maxT, wp_intI, wp_intB, wp_lenS, wp_lenT, wp_lenL, wp_lenC, wp_divmod, wp_listL, wp_listT, wp_tupL, wp_tupT, wp_KIn, wp_strE, wp_Fld, wp_FldO, wp_Meth, wp_MakeF, wp_someL, wp_iR1, wp_iR2, wp_iLst, wp_iTup, wp_Prop, wp_IsC, wp_DGet1, wp_DIn, wp_gUnl, wp_DictK, wp_rep, wp_MethK, wp_CallK, wp_DispF, wp_DIx, wp_someX, wp_ixL, wp_ixT, wp_ixC, atI0, atI1, atI2, ixN0, ixN1, wp_Sl, wp_oNone, wp_oSome, wp_slC, wp_slL, wp_slS, str_eq, String.reduceEq, in_ring_crowd, in_ring_star, in_ring_pairs, in_ring_row, in_ring_ring, in_ring_core, in_ring_linked, in_ring_odd_ring, in_ring_even_ring, Bool.or_self, Bool.and_self, wp_Lc, wp_Yes, wp_pow10_9, wp_pow10_18, wp_pow10_40, wp_For, wp_sFld, wp_last, set_last, wp_KIx, wp_inT, wp_inL, eqF_str, flat_str, flat_int, flat_non, List.any_cons, List.any_nil, List.all_cons, List.all_nil, Bool.and_true, Bool.or_false, Bool.true_and, Bool.false_and, Bool.and_false, Bool.false_or, Bool.or_true, Bool.true_or, Bool.not_not, List.map_cons, List.map_nil, List.length_cons, List.length_nil, List.cons_append, List.nil_append, List.append_nil, List.set_cons_zero, List.set_cons_succ, List.replicate_succ, List.replicate_zero, Nat.reduceSub, Nat.reduceAdd, Nat.reduceLeDiff, Nat.zero_add, Nat.sub_self, decide_eq_true_eq, Bool.not_eq_true', Bool.not_eq_eq_eq_not, Bool.not_true, Bool.not_false, decide_eq_false_iff_not, if_true, if_false, reduceIte, Bool.false_eq_true, true_and, and_true, decide_true, decide_false, Bool.true_eq_false, eq_self, h0, eq_R (two_eq b2 _), eq_R (two_eq b3 _)]
  exact ⟨⟨by omega, lgk (by omega) (by omega)⟩, ⟨b1.sm, two_sm b2⟩, by omega⟩
theorem law_odd {n : Int} (hn : Pe n) (S : Sto) : w__law_most [.str "odd ring", .non, .int n] S = some (.int (mOdd n), S) := by
  unfold Pe at hn
  have b1 : Nb n := by unfold Nb; omega
  have e : mOdd n = n * n / 4 := by
    unfold mOdd
    split
    · rename_i h; subst h; decide
    · rfl
  rw [← R_eq, e]
  unfold w__law_most d__law_most b__law_most
  by_cases h0 : n = 0
  · subst h0
    simp only [R_some, wb_bl, wi_int, wstr_str, wtup_tup, wlst_lst, wref_ref, wp_var0, wp_varS, wp_C, wp_Bin, wp_neg, wp_nil, wp_cons, wp_tup, wp_lst, wp_lstM, wp_Call, wp_And, wp_Or, wp_Not, wp_Test, wp_tAnd, wp_tOr, wp_tNot, wp_If, wp_Chain, wp_Skip, wp_Break, wp_Cont, wp_Never, wp_fNever, wp_Seq, wp_pfl_nx, wp_pfl_rt, wp_pfl_bk, wp_pfl_ct, wp_Expr, wp_Ret, wp_sIf, wp_Asg, wp_N, wp_gNil, wp_gCons, wp_gTup, wp_gSub, wp_Par, wp_two, wp_Run, wp_run_rt, wp_run_nx, wp_bk_nx, wp_bk_ct, wp_bk_bk, wp_bk_rt, wp_r1, wp_r2, wp_add, wp_addL, wp_addS, wp_mul, wp_fdiv, wp_mod, wp_I0, wp_eqI, wp_eqS, wp_eqB, wp_neI, wp_neS, wp_neB, wp_isN, wp_notN, isn_int, isn_non, isn_str, isn_tup, isn_lst, isn_ref, isn_bl, wp_isi, wp_someB, isi_str_str, isi_int_int, isi_int_bl, isi_bool_int, isi_bool_bl, isi_int_non, isi_int_str, isi_tuple_tup, wp_abs, wp_max2, wp_min2, wp_maxT, wp_intI, wp_intB, wp_lenS, wp_lenT, wp_lenL, wp_lenC, wp_divmod, wp_listL, wp_listT, wp_tupL, wp_tupT, wp_KIn, wp_strE, wp_Fld, wp_FldO, wp_Meth, wp_MakeF, wp_someL, wp_iR1, wp_iR2, wp_iLst, wp_iTup, wp_Prop, wp_IsC, wp_DGet1, wp_DIn, wp_gUnl, wp_DictK, wp_rep, wp_MethK, wp_CallK, wp_DispF, wp_DIx, wp_someX, wp_ixL, wp_ixT, wp_ixC, atI0, atI1, atI2, ixN0, ixN1, wp_Sl, wp_oNone, wp_oSome, wp_slC, wp_slL, wp_slS, str_eq, String.reduceEq, in_ring_crowd, in_ring_star, in_ring_pairs, in_ring_row, in_ring_ring, in_ring_core, in_ring_linked, in_ring_odd_ring, in_ring_even_ring, Bool.or_self, Bool.and_self, wp_Lc, wp_Yes, wp_pow10_9, wp_pow10_18, wp_pow10_40, wp_For, wp_sFld, wp_last, set_last, wp_KIx, wp_inT, wp_inL, eqF_str, flat_str, flat_int, flat_non, List.any_cons, List.any_nil, List.all_cons, List.all_nil, Bool.and_true, Bool.or_false, Bool.true_and, Bool.false_and, Bool.and_false, Bool.false_or, Bool.or_true, Bool.true_or, Bool.not_not, List.map_cons, List.map_nil, List.length_cons, List.length_nil, List.cons_append, List.nil_append, List.append_nil, List.set_cons_zero, List.set_cons_succ, List.replicate_succ, List.replicate_zero, Nat.reduceSub, Nat.reduceAdd, Nat.reduceLeDiff, Nat.zero_add, Nat.sub_self, decide_eq_true_eq, Bool.not_eq_true', Bool.not_eq_eq_eq_not, Bool.not_true, Bool.not_false, decide_eq_false_iff_not, if_true, if_false, reduceIte, Bool.false_eq_true, true_and, and_true, decide_true, decide_false, Bool.true_eq_false, eq_self]
    exact ⟨⟨b1.sm, b1.sm⟩, ⟨by decide, lgk (by decide) (by decide)⟩⟩
  simp only [R_some, wb_bl, wi_int, wstr_str, wtup_tup, wlst_lst, wref_ref, wp_var0, wp_varS, wp_C, wp_Bin, wp_neg, wp_nil, wp_cons, wp_tup, wp_lst, wp_lstM, wp_Call, wp_And, wp_Or, wp_Not, wp_Test, wp_tAnd, wp_tOr, wp_tNot, wp_If, wp_Chain, wp_Skip, wp_Break, wp_Cont, wp_Never, wp_fNever, wp_Seq, wp_pfl_nx, wp_pfl_rt, wp_pfl_bk, wp_pfl_ct, wp_Expr, wp_Ret, wp_sIf, wp_Asg, wp_N, wp_gNil, wp_gCons, wp_gTup, wp_gSub, wp_Par, wp_two, wp_Run, wp_run_rt, wp_run_nx, wp_bk_nx, wp_bk_ct, wp_bk_bk, wp_bk_rt, wp_r1, wp_r2, wp_add, wp_addL, wp_addS, wp_mul, wp_fdiv, wp_mod, wp_I0, wp_eqI, wp_eqS, wp_eqB, wp_neI, wp_neS, wp_neB, wp_isN, wp_notN, isn_int, isn_non, isn_str, isn_tup, isn_lst, isn_ref, isn_bl, wp_isi, wp_someB, isi_str_str, isi_int_int, isi_int_bl, isi_bool_int, isi_bool_bl, isi_int_non, isi_int_str, isi_tuple_tup, wp_abs, wp_max2, wp_min2, wp_maxT, wp_intI, wp_intB, wp_lenS, wp_lenT, wp_lenL, wp_lenC, wp_divmod, wp_listL, wp_listT, wp_tupL, wp_tupT, wp_KIn, wp_strE, wp_Fld, wp_FldO, wp_Meth, wp_MakeF, wp_someL, wp_iR1, wp_iR2, wp_iLst, wp_iTup, wp_Prop, wp_IsC, wp_DGet1, wp_DIn, wp_gUnl, wp_DictK, wp_rep, wp_MethK, wp_CallK, wp_DispF, wp_DIx, wp_someX, wp_ixL, wp_ixT, wp_ixC, atI0, atI1, atI2, ixN0, ixN1, wp_Sl, wp_oNone, wp_oSome, wp_slC, wp_slL, wp_slS, str_eq, String.reduceEq, in_ring_crowd, in_ring_star, in_ring_pairs, in_ring_row, in_ring_ring, in_ring_core, in_ring_linked, in_ring_odd_ring, in_ring_even_ring, Bool.or_self, Bool.and_self, wp_Lc, wp_Yes, wp_pow10_9, wp_pow10_18, wp_pow10_40, wp_For, wp_sFld, wp_last, set_last, wp_KIx, wp_inT, wp_inL, eqF_str, flat_str, flat_int, flat_non, List.any_cons, List.any_nil, List.all_cons, List.all_nil, Bool.and_true, Bool.or_false, Bool.true_and, Bool.false_and, Bool.and_false, Bool.false_or, Bool.or_true, Bool.true_or, Bool.not_not, List.map_cons, List.map_nil, List.length_cons, List.length_nil, List.cons_append, List.nil_append, List.append_nil, List.set_cons_zero, List.set_cons_succ, List.replicate_succ, List.replicate_zero, Nat.reduceSub, Nat.reduceAdd, Nat.reduceLeDiff, Nat.zero_add, Nat.sub_self, decide_eq_true_eq, Bool.not_eq_true', Bool.not_eq_eq_eq_not, Bool.not_true, Bool.not_false, decide_eq_false_iff_not, if_true, if_false, reduceIte, Bool.false_eq_true, true_and, and_true, decide_true, decide_false, Bool.true_eq_false, eq_self, h0]
  exact ⟨⟨b1.sm, b1.sm⟩, by decide, lgk (by decide) (by decide)⟩
theorem law_even {n : Int} (hn : Pe n) (S : Sto) : w__law_most [.str "even ring", .non, .int n] S = some (.int (mEven n), S) := by
  unfold Pe at hn
  have b0 : Nb n := by unfold Nb; omega
  have b1 : Nb (n - 1) := by unfold Nb; omega
  have b2 : Nb 3 := by unfold Nb; omega
  rw [← R_eq]
  unfold w__law_most d__law_most b__law_most mEven
  by_cases h0 : n = 0
  · subst h0
    simp only [R_some, wb_bl, wi_int, wstr_str, wtup_tup, wlst_lst, wref_ref, wp_var0, wp_varS, wp_C, wp_Bin, wp_neg, wp_nil, wp_cons, wp_tup, wp_lst, wp_lstM, wp_Call, wp_And, wp_Or, wp_Not, wp_Test, wp_tAnd, wp_tOr, wp_tNot, wp_If, wp_Chain, wp_Skip, wp_Break, wp_Cont, wp_Never, wp_fNever, wp_Seq, wp_pfl_nx, wp_pfl_rt, wp_pfl_bk, wp_pfl_ct, wp_Expr, wp_Ret, wp_sIf, wp_Asg, wp_N, wp_gNil, wp_gCons, wp_gTup, wp_gSub, wp_Par, wp_two, wp_Run, wp_run_rt, wp_run_nx, wp_bk_nx, wp_bk_ct, wp_bk_bk, wp_bk_rt, wp_r1, wp_r2, wp_add, wp_addL, wp_addS, wp_mul, wp_fdiv, wp_mod, wp_I0, wp_eqI, wp_eqS, wp_eqB, wp_neI, wp_neS, wp_neB, wp_isN, wp_notN, isn_int, isn_non, isn_str, isn_tup, isn_lst, isn_ref, isn_bl, wp_isi, wp_someB, isi_str_str, isi_int_int, isi_int_bl, isi_bool_int, isi_bool_bl, isi_int_non, isi_int_str, isi_tuple_tup, wp_abs, wp_max2, wp_min2, wp_maxT, wp_intI, wp_intB, wp_lenS, wp_lenT, wp_lenL, wp_lenC, wp_divmod, wp_listL, wp_listT, wp_tupL, wp_tupT, wp_KIn, wp_strE, wp_Fld, wp_FldO, wp_Meth, wp_MakeF, wp_someL, wp_iR1, wp_iR2, wp_iLst, wp_iTup, wp_Prop, wp_IsC, wp_DGet1, wp_DIn, wp_gUnl, wp_DictK, wp_rep, wp_MethK, wp_CallK, wp_DispF, wp_DIx, wp_someX, wp_ixL, wp_ixT, wp_ixC, atI0, atI1, atI2, ixN0, ixN1, wp_Sl, wp_oNone, wp_oSome, wp_slC, wp_slL, wp_slS, str_eq, String.reduceEq, in_ring_crowd, in_ring_star, in_ring_pairs, in_ring_row, in_ring_ring, in_ring_core, in_ring_linked, in_ring_odd_ring, in_ring_even_ring, Bool.or_self, Bool.and_self, wp_Lc, wp_Yes, wp_pow10_9, wp_pow10_18, wp_pow10_40, wp_For, wp_sFld, wp_last, set_last, wp_KIx, wp_inT, wp_inL, eqF_str, flat_str, flat_int, flat_non, List.any_cons, List.any_nil, List.all_cons, List.all_nil, Bool.and_true, Bool.or_false, Bool.true_and, Bool.false_and, Bool.and_false, Bool.false_or, Bool.or_true, Bool.true_or, Bool.not_not, List.map_cons, List.map_nil, List.length_cons, List.length_nil, List.cons_append, List.nil_append, List.append_nil, List.set_cons_zero, List.set_cons_succ, List.replicate_succ, List.replicate_zero, Nat.reduceSub, Nat.reduceAdd, Nat.reduceLeDiff, Nat.zero_add, Nat.sub_self, decide_eq_true_eq, Bool.not_eq_true', Bool.not_eq_eq_eq_not, Bool.not_true, Bool.not_false, decide_eq_false_iff_not, if_true, if_false, reduceIte, Bool.false_eq_true, true_and, and_true, decide_true, decide_false, Bool.true_eq_false, eq_self]
    exact ⟨⟨b0.sm, b0.sm⟩, ⟨by decide, lgk (by decide) (by decide)⟩, rfl⟩
  simp only [R_some, wb_bl, wi_int, wstr_str, wtup_tup, wlst_lst, wref_ref, wp_var0, wp_varS, wp_C, wp_Bin, wp_neg, wp_nil, wp_cons, wp_tup, wp_lst, wp_lstM, wp_Call, wp_And, wp_Or, wp_Not, wp_Test, wp_tAnd, wp_tOr, wp_tNot, wp_If, wp_Chain, wp_Skip, wp_Break, wp_Cont, wp_Never, wp_fNever, wp_Seq, wp_pfl_nx, wp_pfl_rt, wp_pfl_bk, wp_pfl_ct, wp_Expr, wp_Ret, wp_sIf, wp_Asg, wp_N, wp_gNil, wp_gCons, wp_gTup, wp_gSub, wp_Par, wp_two, wp_Run, wp_run_rt, wp_run_nx, wp_bk_nx, wp_bk_ct, wp_bk_bk, wp_bk_rt, wp_r1, wp_r2, wp_add, wp_addL, wp_addS, wp_mul, wp_fdiv, wp_mod, wp_I0, wp_eqI, wp_eqS, wp_eqB, wp_neI, wp_neS, wp_neB, wp_isN, wp_notN, isn_int, isn_non, isn_str, isn_tup, isn_lst, isn_ref, isn_bl, wp_isi, wp_someB, isi_str_str, isi_int_int, isi_int_bl, isi_bool_int, isi_bool_bl, isi_int_non, isi_int_str, isi_tuple_tup, wp_abs, wp_max2, wp_min2, wp_maxT, wp_intI, wp_intB, wp_lenS, wp_lenT, wp_lenL, wp_lenC, wp_divmod, wp_listL, wp_listT, wp_tupL, wp_tupT, wp_KIn, wp_strE, wp_Fld, wp_FldO, wp_Meth, wp_MakeF, wp_someL, wp_iR1, wp_iR2, wp_iLst, wp_iTup, wp_Prop, wp_IsC, wp_DGet1, wp_DIn, wp_gUnl, wp_DictK, wp_rep, wp_MethK, wp_CallK, wp_DispF, wp_DIx, wp_someX, wp_ixL, wp_ixT, wp_ixC, atI0, atI1, atI2, ixN0, ixN1, wp_Sl, wp_oNone, wp_oSome, wp_slC, wp_slL, wp_slS, str_eq, String.reduceEq, in_ring_crowd, in_ring_star, in_ring_pairs, in_ring_row, in_ring_ring, in_ring_core, in_ring_linked, in_ring_odd_ring, in_ring_even_ring, Bool.or_self, Bool.and_self, wp_Lc, wp_Yes, wp_pow10_9, wp_pow10_18, wp_pow10_40, wp_For, wp_sFld, wp_last, set_last, wp_KIx, wp_inT, wp_inL, eqF_str, flat_str, flat_int, flat_non, List.any_cons, List.any_nil, List.all_cons, List.all_nil, Bool.and_true, Bool.or_false, Bool.true_and, Bool.false_and, Bool.and_false, Bool.false_or, Bool.or_true, Bool.true_or, Bool.not_not, List.map_cons, List.map_nil, List.length_cons, List.length_nil, List.cons_append, List.nil_append, List.append_nil, List.set_cons_zero, List.set_cons_succ, List.replicate_succ, List.replicate_zero, Nat.reduceSub, Nat.reduceAdd, Nat.reduceLeDiff, Nat.zero_add, Nat.sub_self, decide_eq_true_eq, Bool.not_eq_true', Bool.not_eq_eq_eq_not, Bool.not_true, Bool.not_false, decide_eq_false_iff_not, if_true, if_false, reduceIte, Bool.false_eq_true, true_and, and_true, decide_true, decide_false, Bool.true_eq_false, eq_self, h0]
  exact ⟨⟨b2.sm, b1.sm⟩, by decide, lgk (by decide) (by decide)⟩
theorem law_pairs {k n : Int} (hk : Pe k) (h2 : 1 ≤ k) (hn : Pe n) (S : Sto) : w__law_most [.str "pairs", .int k, .int n] S = some (.int (mPairs k n), S) := by
  unfold Pe at hk hn
  have b0 : Nb 2 := by unfold Nb; omega
  have bk : Nb k := by unfold Nb; omega
  have b1 : Nb n := by unfold Nb; omega
  have b2 : Nb (2 * k - 1) := by unfold Nb; omega
  have b3 : Nb (k - 1) := by unfold Nb; omega
  have b4 : Nb (n - k + 1) := by unfold Nb; omega
  rw [← R_eq]
  unfold w__law_most d__law_most b__law_most mPairs
  by_cases h0 : n < 2 * k
  · simp only [R_some, wb_bl, wi_int, wstr_str, wtup_tup, wlst_lst, wref_ref, wp_var0, wp_varS, wp_C, wp_Bin, wp_neg, wp_nil, wp_cons, wp_tup, wp_lst, wp_lstM, wp_Call, wp_And, wp_Or, wp_Not, wp_Test, wp_tAnd, wp_tOr, wp_tNot, wp_If, wp_Chain, wp_Skip, wp_Break, wp_Cont, wp_Never, wp_fNever, wp_Seq, wp_pfl_nx, wp_pfl_rt, wp_pfl_bk, wp_pfl_ct, wp_Expr, wp_Ret, wp_sIf, wp_Asg, wp_N, wp_gNil, wp_gCons, wp_gTup, wp_gSub, wp_Par, wp_two, wp_Run, wp_run_rt, wp_run_nx, wp_bk_nx, wp_bk_ct, wp_bk_bk, wp_bk_rt, wp_r1, wp_r2, wp_add, wp_addL, wp_addS, wp_mul, wp_fdiv, wp_mod, wp_I0, wp_eqI, wp_eqS, wp_eqB, wp_neI, wp_neS, wp_neB, wp_isN, wp_notN, isn_int, isn_non, isn_str, isn_tup, isn_lst, isn_ref, isn_bl, wp_isi, wp_someB, isi_str_str, isi_int_int, isi_int_bl, isi_bool_int, isi_bool_bl, isi_int_non, isi_int_str, isi_tuple_tup, wp_abs, wp_max2, wp_min2, wp_maxT, wp_intI, wp_intB, wp_lenS, wp_lenT, wp_lenL, wp_lenC, wp_divmod, wp_listL, wp_listT, wp_tupL, wp_tupT, wp_KIn, wp_strE, wp_Fld, wp_FldO, wp_Meth, wp_MakeF, wp_someL, wp_iR1, wp_iR2, wp_iLst, wp_iTup, wp_Prop, wp_IsC, wp_DGet1, wp_DIn, wp_gUnl, wp_DictK, wp_rep, wp_MethK, wp_CallK, wp_DispF, wp_DIx, wp_someX, wp_ixL, wp_ixT, wp_ixC, atI0, atI1, atI2, ixN0, ixN1, wp_Sl, wp_oNone, wp_oSome, wp_slC, wp_slL, wp_slS, str_eq, String.reduceEq, in_ring_crowd, in_ring_star, in_ring_pairs, in_ring_row, in_ring_ring, in_ring_core, in_ring_linked, in_ring_odd_ring, in_ring_even_ring, Bool.or_self, Bool.and_self, wp_Lc, wp_Yes, wp_pow10_9, wp_pow10_18, wp_pow10_40, wp_For, wp_sFld, wp_last, set_last, wp_KIx, wp_inT, wp_inL, eqF_str, flat_str, flat_int, flat_non, List.any_cons, List.any_nil, List.all_cons, List.all_nil, Bool.and_true, Bool.or_false, Bool.true_and, Bool.false_and, Bool.and_false, Bool.false_or, Bool.or_true, Bool.true_or, Bool.not_not, List.map_cons, List.map_nil, List.length_cons, List.length_nil, List.cons_append, List.nil_append, List.append_nil, List.set_cons_zero, List.set_cons_succ, List.replicate_succ, List.replicate_zero, Nat.reduceSub, Nat.reduceAdd, Nat.reduceLeDiff, Nat.zero_add, Nat.sub_self, decide_eq_true_eq, Bool.not_eq_true', Bool.not_eq_eq_eq_not, Bool.not_true, Bool.not_false, decide_eq_false_iff_not, if_true, if_false, reduceIte, Bool.false_eq_true, true_and, and_true, decide_true, decide_false, Bool.true_eq_false, eq_self, h0, eq_R (two_eq b1 _), eq_R (two_eq b3 _)]
    exact ⟨⟨b3.sm, b4.sm⟩, b0.sm, bk.sm⟩
  simp only [R_some, wb_bl, wi_int, wstr_str, wtup_tup, wlst_lst, wref_ref, wp_var0, wp_varS, wp_C, wp_Bin, wp_neg, wp_nil, wp_cons, wp_tup, wp_lst, wp_lstM, wp_Call, wp_And, wp_Or, wp_Not, wp_Test, wp_tAnd, wp_tOr, wp_tNot, wp_If, wp_Chain, wp_Skip, wp_Break, wp_Cont, wp_Never, wp_fNever, wp_Seq, wp_pfl_nx, wp_pfl_rt, wp_pfl_bk, wp_pfl_ct, wp_Expr, wp_Ret, wp_sIf, wp_Asg, wp_N, wp_gNil, wp_gCons, wp_gTup, wp_gSub, wp_Par, wp_two, wp_Run, wp_run_rt, wp_run_nx, wp_bk_nx, wp_bk_ct, wp_bk_bk, wp_bk_rt, wp_r1, wp_r2, wp_add, wp_addL, wp_addS, wp_mul, wp_fdiv, wp_mod, wp_I0, wp_eqI, wp_eqS, wp_eqB, wp_neI, wp_neS, wp_neB, wp_isN, wp_notN, isn_int, isn_non, isn_str, isn_tup, isn_lst, isn_ref, isn_bl, wp_isi, wp_someB, isi_str_str, isi_int_int, isi_int_bl, isi_bool_int, isi_bool_bl, isi_int_non, isi_int_str, isi_tuple_tup, wp_abs, wp_max2, wp_min2, wp_maxT, wp_intI, wp_intB, wp_lenS, wp_lenT, wp_lenL, wp_lenC, wp_divmod, wp_listL, wp_listT, wp_tupL, wp_tupT, wp_KIn, wp_strE, wp_Fld, wp_FldO, wp_Meth, wp_MakeF, wp_someL, wp_iR1, wp_iR2, wp_iLst, wp_iTup, wp_Prop, wp_IsC, wp_DGet1, wp_DIn, wp_gUnl, wp_DictK, wp_rep, wp_MethK, wp_CallK, wp_DispF, wp_DIx, wp_someX, wp_ixL, wp_ixT, wp_ixC, atI0, atI1, atI2, ixN0, ixN1, wp_Sl, wp_oNone, wp_oSome, wp_slC, wp_slL, wp_slS, str_eq, String.reduceEq, in_ring_crowd, in_ring_star, in_ring_pairs, in_ring_row, in_ring_ring, in_ring_core, in_ring_linked, in_ring_odd_ring, in_ring_even_ring, Bool.or_self, Bool.and_self, wp_Lc, wp_Yes, wp_pow10_9, wp_pow10_18, wp_pow10_40, wp_For, wp_sFld, wp_last, set_last, wp_KIx, wp_inT, wp_inL, eqF_str, flat_str, flat_int, flat_non, List.any_cons, List.any_nil, List.all_cons, List.all_nil, Bool.and_true, Bool.or_false, Bool.true_and, Bool.false_and, Bool.and_false, Bool.false_or, Bool.or_true, Bool.true_or, Bool.not_not, List.map_cons, List.map_nil, List.length_cons, List.length_nil, List.cons_append, List.nil_append, List.append_nil, List.set_cons_zero, List.set_cons_succ, List.replicate_succ, List.replicate_zero, Nat.reduceSub, Nat.reduceAdd, Nat.reduceLeDiff, Nat.zero_add, Nat.sub_self, decide_eq_true_eq, Bool.not_eq_true', Bool.not_eq_eq_eq_not, Bool.not_true, Bool.not_false, decide_eq_false_iff_not, if_true, if_false, reduceIte, Bool.false_eq_true, true_and, and_true, decide_true, decide_false, Bool.true_eq_false, eq_self, h0, eq_R (two_eq b2 _), eq_R (two_eq b3 _)]
  exact ⟨⟨b3.sm, b4.sm⟩, ⟨b0.sm, bk.sm⟩, b0.sm, bk.sm⟩
theorem law_core {k n : Int} (hk : Pe k) (h2 : 1 ≤ k) (hn : Pe n) (S : Sto) : w__law_most [.str "core", .int k, .int n] S = some (.int (mCore k n), S) := by
  unfold Pe at hk hn
  have bk : Nb k := by unfold Nb; omega
  have b1 : Nb n := by unfold Nb; omega
  have b3 : Nb (k - 1) := by unfold Nb; omega
  rw [← R_eq]
  unfold w__law_most d__law_most b__law_most mCore
  by_cases h0 : n < k
  · simp only [R_some, wb_bl, wi_int, wstr_str, wtup_tup, wlst_lst, wref_ref, wp_var0, wp_varS, wp_C, wp_Bin, wp_neg, wp_nil, wp_cons, wp_tup, wp_lst, wp_lstM, wp_Call, wp_And, wp_Or, wp_Not, wp_Test, wp_tAnd, wp_tOr, wp_tNot, wp_If, wp_Chain, wp_Skip, wp_Break, wp_Cont, wp_Never, wp_fNever, wp_Seq, wp_pfl_nx, wp_pfl_rt, wp_pfl_bk, wp_pfl_ct, wp_Expr, wp_Ret, wp_sIf, wp_Asg, wp_N, wp_gNil, wp_gCons, wp_gTup, wp_gSub, wp_Par, wp_two, wp_Run, wp_run_rt, wp_run_nx, wp_bk_nx, wp_bk_ct, wp_bk_bk, wp_bk_rt, wp_r1, wp_r2, wp_add, wp_addL, wp_addS, wp_mul, wp_fdiv, wp_mod, wp_I0, wp_eqI, wp_eqS, wp_eqB, wp_neI, wp_neS, wp_neB, wp_isN, wp_notN, isn_int, isn_non, isn_str, isn_tup, isn_lst, isn_ref, isn_bl, wp_isi, wp_someB, isi_str_str, isi_int_int, isi_int_bl, isi_bool_int, isi_bool_bl, isi_int_non, isi_int_str, isi_tuple_tup, wp_abs, wp_max2, wp_min2, wp_maxT, wp_intI, wp_intB, wp_lenS, wp_lenT, wp_lenL, wp_lenC, wp_divmod, wp_listL, wp_listT, wp_tupL, wp_tupT, wp_KIn, wp_strE, wp_Fld, wp_FldO, wp_Meth, wp_MakeF, wp_someL, wp_iR1, wp_iR2, wp_iLst, wp_iTup, wp_Prop, wp_IsC, wp_DGet1, wp_DIn, wp_gUnl, wp_DictK, wp_rep, wp_MethK, wp_CallK, wp_DispF, wp_DIx, wp_someX, wp_ixL, wp_ixT, wp_ixC, atI0, atI1, atI2, ixN0, ixN1, wp_Sl, wp_oNone, wp_oSome, wp_slC, wp_slL, wp_slS, str_eq, String.reduceEq, in_ring_crowd, in_ring_star, in_ring_pairs, in_ring_row, in_ring_ring, in_ring_core, in_ring_linked, in_ring_odd_ring, in_ring_even_ring, Bool.or_self, Bool.and_self, wp_Lc, wp_Yes, wp_pow10_9, wp_pow10_18, wp_pow10_40, wp_For, wp_sFld, wp_last, set_last, wp_KIx, wp_inT, wp_inL, eqF_str, flat_str, flat_int, flat_non, List.any_cons, List.any_nil, List.all_cons, List.all_nil, Bool.and_true, Bool.or_false, Bool.true_and, Bool.false_and, Bool.and_false, Bool.false_or, Bool.or_true, Bool.true_or, Bool.not_not, List.map_cons, List.map_nil, List.length_cons, List.length_nil, List.cons_append, List.nil_append, List.append_nil, List.set_cons_zero, List.set_cons_succ, List.replicate_succ, List.replicate_zero, Nat.reduceSub, Nat.reduceAdd, Nat.reduceLeDiff, Nat.zero_add, Nat.sub_self, decide_eq_true_eq, Bool.not_eq_true', Bool.not_eq_eq_eq_not, Bool.not_true, Bool.not_false, decide_eq_false_iff_not, if_true, if_false, reduceIte, Bool.false_eq_true, true_and, and_true, decide_true, decide_false, Bool.true_eq_false, eq_self, h0, eq_R (two_eq b1 _)]
  simp only [R_some, wb_bl, wi_int, wstr_str, wtup_tup, wlst_lst, wref_ref, wp_var0, wp_varS, wp_C, wp_Bin, wp_neg, wp_nil, wp_cons, wp_tup, wp_lst, wp_lstM, wp_Call, wp_And, wp_Or, wp_Not, wp_Test, wp_tAnd, wp_tOr, wp_tNot, wp_If, wp_Chain, wp_Skip, wp_Break, wp_Cont, wp_Never, wp_fNever, wp_Seq, wp_pfl_nx, wp_pfl_rt, wp_pfl_bk, wp_pfl_ct, wp_Expr, wp_Ret, wp_sIf, wp_Asg, wp_N, wp_gNil, wp_gCons, wp_gTup, wp_gSub, wp_Par, wp_two, wp_Run, wp_run_rt, wp_run_nx, wp_bk_nx, wp_bk_ct, wp_bk_bk, wp_bk_rt, wp_r1, wp_r2, wp_add, wp_addL, wp_addS, wp_mul, wp_fdiv, wp_mod, wp_I0, wp_eqI, wp_eqS, wp_eqB, wp_neI, wp_neS, wp_neB, wp_isN, wp_notN, isn_int, isn_non, isn_str, isn_tup, isn_lst, isn_ref, isn_bl, wp_isi, wp_someB, isi_str_str, isi_int_int, isi_int_bl, isi_bool_int, isi_bool_bl, isi_int_non, isi_int_str, isi_tuple_tup, wp_abs, wp_max2, wp_min2, wp_maxT, wp_intI, wp_intB, wp_lenS, wp_lenT, wp_lenL, wp_lenC, wp_divmod, wp_listL, wp_listT, wp_tupL, wp_tupT, wp_KIn, wp_strE, wp_Fld, wp_FldO, wp_Meth, wp_MakeF, wp_someL, wp_iR1, wp_iR2, wp_iLst, wp_iTup, wp_Prop, wp_IsC, wp_DGet1, wp_DIn, wp_gUnl, wp_DictK, wp_rep, wp_MethK, wp_CallK, wp_DispF, wp_DIx, wp_someX, wp_ixL, wp_ixT, wp_ixC, atI0, atI1, atI2, ixN0, ixN1, wp_Sl, wp_oNone, wp_oSome, wp_slC, wp_slL, wp_slS, str_eq, String.reduceEq, in_ring_crowd, in_ring_star, in_ring_pairs, in_ring_row, in_ring_ring, in_ring_core, in_ring_linked, in_ring_odd_ring, in_ring_even_ring, Bool.or_self, Bool.and_self, wp_Lc, wp_Yes, wp_pow10_9, wp_pow10_18, wp_pow10_40, wp_For, wp_sFld, wp_last, set_last, wp_KIx, wp_inT, wp_inL, eqF_str, flat_str, flat_int, flat_non, List.any_cons, List.any_nil, List.all_cons, List.all_nil, Bool.and_true, Bool.or_false, Bool.true_and, Bool.false_and, Bool.and_false, Bool.false_or, Bool.or_true, Bool.true_or, Bool.not_not, List.map_cons, List.map_nil, List.length_cons, List.length_nil, List.cons_append, List.nil_append, List.append_nil, List.set_cons_zero, List.set_cons_succ, List.replicate_succ, List.replicate_zero, Nat.reduceSub, Nat.reduceAdd, Nat.reduceLeDiff, Nat.zero_add, Nat.sub_self, decide_eq_true_eq, Bool.not_eq_true', Bool.not_eq_eq_eq_not, Bool.not_true, Bool.not_false, decide_eq_false_iff_not, if_true, if_false, reduceIte, Bool.false_eq_true, true_and, and_true, decide_true, decide_false, Bool.true_eq_false, eq_self, h0, eq_R (two_eq bk _)]
  exact ⟨b3.sm, b1.sm⟩
theorem law_linked {k n : Int} (hk : Pe k) (h2 : 1 ≤ k) (hn : Pe n) (S : Sto) : w__law_most [.str "linked", .int k, .int n] S = some (.int (mLinked k n), S) := by
  unfold Pe at hk hn
  have b1 : Nb n := by unfold Nb; omega
  have b3 : Nb (n - 1) := by unfold Nb; omega
  rw [← R_eq]
  unfold w__law_most d__law_most b__law_most mLinked
  by_cases h0 : n ≤ k
  · simp only [R_some, wb_bl, wi_int, wstr_str, wtup_tup, wlst_lst, wref_ref, wp_var0, wp_varS, wp_C, wp_Bin, wp_neg, wp_nil, wp_cons, wp_tup, wp_lst, wp_lstM, wp_Call, wp_And, wp_Or, wp_Not, wp_Test, wp_tAnd, wp_tOr, wp_tNot, wp_If, wp_Chain, wp_Skip, wp_Break, wp_Cont, wp_Never, wp_fNever, wp_Seq, wp_pfl_nx, wp_pfl_rt, wp_pfl_bk, wp_pfl_ct, wp_Expr, wp_Ret, wp_sIf, wp_Asg, wp_N, wp_gNil, wp_gCons, wp_gTup, wp_gSub, wp_Par, wp_two, wp_Run, wp_run_rt, wp_run_nx, wp_bk_nx, wp_bk_ct, wp_bk_bk, wp_bk_rt, wp_r1, wp_r2, wp_add, wp_addL, wp_addS, wp_mul, wp_fdiv, wp_mod, wp_I0, wp_eqI, wp_eqS, wp_eqB, wp_neI, wp_neS, wp_neB, wp_isN, wp_notN, isn_int, isn_non, isn_str, isn_tup, isn_lst, isn_ref, isn_bl, wp_isi, wp_someB, isi_str_str, isi_int_int, isi_int_bl, isi_bool_int, isi_bool_bl, isi_int_non, isi_int_str, isi_tuple_tup, wp_abs, wp_max2, wp_min2, wp_maxT, wp_intI, wp_intB, wp_lenS, wp_lenT, wp_lenL, wp_lenC, wp_divmod, wp_listL, wp_listT, wp_tupL, wp_tupT, wp_KIn, wp_strE, wp_Fld, wp_FldO, wp_Meth, wp_MakeF, wp_someL, wp_iR1, wp_iR2, wp_iLst, wp_iTup, wp_Prop, wp_IsC, wp_DGet1, wp_DIn, wp_gUnl, wp_DictK, wp_rep, wp_MethK, wp_CallK, wp_DispF, wp_DIx, wp_someX, wp_ixL, wp_ixT, wp_ixC, atI0, atI1, atI2, ixN0, ixN1, wp_Sl, wp_oNone, wp_oSome, wp_slC, wp_slL, wp_slS, str_eq, String.reduceEq, in_ring_crowd, in_ring_star, in_ring_pairs, in_ring_row, in_ring_ring, in_ring_core, in_ring_linked, in_ring_odd_ring, in_ring_even_ring, Bool.or_self, Bool.and_self, wp_Lc, wp_Yes, wp_pow10_9, wp_pow10_18, wp_pow10_40, wp_For, wp_sFld, wp_last, set_last, wp_KIx, wp_inT, wp_inL, eqF_str, flat_str, flat_int, flat_non, List.any_cons, List.any_nil, List.all_cons, List.all_nil, Bool.and_true, Bool.or_false, Bool.true_and, Bool.false_and, Bool.and_false, Bool.false_or, Bool.or_true, Bool.true_or, Bool.not_not, List.map_cons, List.map_nil, List.length_cons, List.length_nil, List.cons_append, List.nil_append, List.append_nil, List.set_cons_zero, List.set_cons_succ, List.replicate_succ, List.replicate_zero, Nat.reduceSub, Nat.reduceAdd, Nat.reduceLeDiff, Nat.zero_add, Nat.sub_self, decide_eq_true_eq, Bool.not_eq_true', Bool.not_eq_eq_eq_not, Bool.not_true, Bool.not_false, decide_eq_false_iff_not, if_true, if_false, reduceIte, Bool.false_eq_true, true_and, and_true, decide_true, decide_false, Bool.true_eq_false, eq_self, h0, eq_R (two_eq b1 _)]
  simp only [R_some, wb_bl, wi_int, wstr_str, wtup_tup, wlst_lst, wref_ref, wp_var0, wp_varS, wp_C, wp_Bin, wp_neg, wp_nil, wp_cons, wp_tup, wp_lst, wp_lstM, wp_Call, wp_And, wp_Or, wp_Not, wp_Test, wp_tAnd, wp_tOr, wp_tNot, wp_If, wp_Chain, wp_Skip, wp_Break, wp_Cont, wp_Never, wp_fNever, wp_Seq, wp_pfl_nx, wp_pfl_rt, wp_pfl_bk, wp_pfl_ct, wp_Expr, wp_Ret, wp_sIf, wp_Asg, wp_N, wp_gNil, wp_gCons, wp_gTup, wp_gSub, wp_Par, wp_two, wp_Run, wp_run_rt, wp_run_nx, wp_bk_nx, wp_bk_ct, wp_bk_bk, wp_bk_rt, wp_r1, wp_r2, wp_add, wp_addL, wp_addS, wp_mul, wp_fdiv, wp_mod, wp_I0, wp_eqI, wp_eqS, wp_eqB, wp_neI, wp_neS, wp_neB, wp_isN, wp_notN, isn_int, isn_non, isn_str, isn_tup, isn_lst, isn_ref, isn_bl, wp_isi, wp_someB, isi_str_str, isi_int_int, isi_int_bl, isi_bool_int, isi_bool_bl, isi_int_non, isi_int_str, isi_tuple_tup, wp_abs, wp_max2, wp_min2, wp_maxT, wp_intI, wp_intB, wp_lenS, wp_lenT, wp_lenL, wp_lenC, wp_divmod, wp_listL, wp_listT, wp_tupL, wp_tupT, wp_KIn, wp_strE, wp_Fld, wp_FldO, wp_Meth, wp_MakeF, wp_someL, wp_iR1, wp_iR2, wp_iLst, wp_iTup, wp_Prop, wp_IsC, wp_DGet1, wp_DIn, wp_gUnl, wp_DictK, wp_rep, wp_MethK, wp_CallK, wp_DispF, wp_DIx, wp_someX, wp_ixL, wp_ixT, wp_ixC, atI0, atI1, atI2, ixN0, ixN1, wp_Sl, wp_oNone, wp_oSome, wp_slC, wp_slL, wp_slS, str_eq, String.reduceEq, in_ring_crowd, in_ring_star, in_ring_pairs, in_ring_row, in_ring_ring, in_ring_core, in_ring_linked, in_ring_odd_ring, in_ring_even_ring, Bool.or_self, Bool.and_self, wp_Lc, wp_Yes, wp_pow10_9, wp_pow10_18, wp_pow10_40, wp_For, wp_sFld, wp_last, set_last, wp_KIx, wp_inT, wp_inL, eqF_str, flat_str, flat_int, flat_non, List.any_cons, List.any_nil, List.all_cons, List.all_nil, Bool.and_true, Bool.or_false, Bool.true_and, Bool.false_and, Bool.and_false, Bool.false_or, Bool.or_true, Bool.true_or, Bool.not_not, List.map_cons, List.map_nil, List.length_cons, List.length_nil, List.cons_append, List.nil_append, List.append_nil, List.set_cons_zero, List.set_cons_succ, List.replicate_succ, List.replicate_zero, Nat.reduceSub, Nat.reduceAdd, Nat.reduceLeDiff, Nat.zero_add, Nat.sub_self, decide_eq_true_eq, Bool.not_eq_true', Bool.not_eq_eq_eq_not, Bool.not_true, Bool.not_false, decide_eq_false_iff_not, if_true, if_false, reduceIte, Bool.false_eq_true, true_and, and_true, decide_true, decide_false, Bool.true_eq_false, eq_self, h0, eq_R (two_eq b3 _)]
end LW

namespace LW
open PySem PySem.Spec PyProof.Rows L2 DL
theorem lg2 : lgI 2 := lgk (by decide) (by decide)
theorem eqI {x y : Nat} : decide ((x : Int) = (y : Int)) = Nat.beq x y := by
  cases h : Nat.beq x y with
  | true => have := Nat.eq_of_beq_eq_true h; exact decide_eq_true (by omega)
  | false => have := Nat.ne_of_beq_eq_false h; exact decide_eq_false (by omega)
theorem leI {x y : Nat} : decide ((x : Int) ≤ (y : Int)) = Nat.ble x y := by
  cases h : Nat.ble x y with
  | true => have := Nat.le_of_ble_eq_true h; exact decide_eq_true (by omega)
  | false => exact decide_eq_false fun q => by rw [Nat.ble_eq_true_of_le (by omega)] at h; cases h
theorem ltI {x y : Nat} : decide ((x : Int) < (y : Int)) = Nat.blt x y := by
  rw [show Nat.blt x y = Nat.ble (x + 1) y from rfl, ← leI]
  exact decide_eq_decide.mpr (by omega)
/-- a thing with so many people -/
structure K39 (kd : Str) (x : D) (n : Nat) (t : Nat → Nat → Bool) : Prop where
  made : mkF_Thing [.str kd, x] = some [.str kd, x]
  tie : ∀ a b : Nat, a < b → b < n → ∀ S, w_is_rule_tie [.str kd, x, .int n, .int a, .int b] S = some (.bl (t a b), S)
  most : ∀ S, w_most_of [.str kd, x, .int n] S = some (.int (cnt t (prsF 0 n) : Nat), S)
  law : ∀ S, w__law_most [.str kd, x, .int n] S = some (.int (cnt t (prsF 0 n) : Nat), S)
section
variable {n m : Nat} (hn : n ≤ 40) (hm : m < 42)
include hn
theorem pen : Pe n := by unfold Pe; omega
theorem k_odd : K39 "odd ring" .non n (F1 2) := by
  have hM := colsB_ok eOdd hn
  refine ⟨mk_odd, fun a b h1 h2 S => ?_, fun S => ?_, fun S => ?_⟩
  · rw [← R_eq]
    unfold w_is_rule_tie d_is_rule_tie b_is_rule_tie w_is_ring_tie d_is_ring_tie b_is_ring_tie
    simp only [R_some, wb_bl, wi_int, wstr_str, wtup_tup, wlst_lst, wref_ref, wp_var0, wp_varS, wp_C, wp_Bin, wp_neg, wp_nil, wp_cons, wp_tup, wp_lst, wp_lstM, wp_Call, wp_And, wp_Or, wp_Not, wp_Test, wp_tAnd, wp_tOr, wp_tNot, wp_If, wp_Chain, wp_Skip, wp_Break, wp_Cont, wp_Never, wp_fNever, wp_Seq, wp_pfl_nx, wp_pfl_rt, wp_pfl_bk, wp_pfl_ct, wp_Expr, wp_Ret, wp_sIf, wp_Asg, wp_N, wp_gNil, wp_gCons, wp_gTup, wp_gSub, wp_Par, wp_two, wp_Run, wp_run_rt, wp_run_nx, wp_bk_nx, wp_bk_ct, wp_bk_bk, wp_bk_rt, wp_r1, wp_r2, wp_add, wp_addL, wp_addS, wp_mul, wp_fdiv, wp_mod, wp_I0, wp_eqI, wp_eqS, wp_eqB, wp_neI, wp_neS, wp_neB, wp_isN, wp_notN, isn_int, isn_non, isn_str, isn_tup, isn_lst, isn_ref, isn_bl, wp_isi, wp_someB, isi_str_str, isi_int_int, isi_int_bl, isi_bool_int, isi_bool_bl, isi_int_non, isi_int_str, isi_tuple_tup, wp_abs, wp_max2, wp_min2, wp_maxT, wp_intI, wp_intB, wp_lenS, wp_lenT, wp_lenL, wp_lenC, wp_divmod, wp_listL, wp_listT, wp_tupL, wp_tupT, wp_KIn, wp_strE, wp_Fld, wp_FldO, wp_Meth, wp_MakeF, wp_someL, wp_iR1, wp_iR2, wp_iLst, wp_iTup, wp_Prop, wp_IsC, wp_DGet1, wp_DIn, wp_gUnl, wp_DictK, wp_rep, wp_MethK, wp_CallK, wp_DispF, wp_DIx, wp_someX, wp_ixL, wp_ixT, wp_ixC, atI0, atI1, atI2, ixN0, ixN1, wp_Sl, wp_oNone, wp_oSome, wp_slC, wp_slL, wp_slS, str_eq, String.reduceEq, in_ring_crowd, in_ring_star, in_ring_pairs, in_ring_row, in_ring_ring, in_ring_core, in_ring_linked, in_ring_odd_ring, in_ring_even_ring, Bool.or_self, Bool.and_self, wp_Lc, wp_Yes, wp_pow10_9, wp_pow10_18, wp_pow10_40, wp_For, wp_sFld, wp_last, set_last, wp_KIx, wp_inT, wp_inL, eqF_str, flat_str, flat_int, flat_non, List.any_cons, List.any_nil, List.all_cons, List.all_nil, Bool.and_true, Bool.or_false, Bool.true_and, Bool.false_and, Bool.and_false, Bool.false_or, Bool.or_true, Bool.true_or, Bool.not_not, List.map_cons, List.map_nil, List.length_cons, List.length_nil, List.cons_append, List.nil_append, List.append_nil, List.set_cons_zero, List.set_cons_succ, List.replicate_succ, List.replicate_zero, Nat.reduceSub, Nat.reduceAdd, Nat.reduceLeDiff, Nat.zero_add, Nat.sub_self, decide_eq_true_eq, Bool.not_eq_true', Bool.not_eq_eq_eq_not, Bool.not_true, Bool.not_false, decide_eq_false_iff_not, if_true, if_false, reduceIte, Bool.false_eq_true, true_and, and_true, decide_true, decide_false, Bool.true_eq_false, eq_self, Int.reduceLT]
    show D.bl _ = D.bl (!Nat.beq (a % 2) (b % 2))
    rw [← eqI]; rfl
  · rw [hM]; exact most_odd (pen hn) S
  · rw [hM]; exact law_odd (pen hn) S
theorem k_even : K39 "even ring" .non n F4 := by
  have hM := colsB_ok eEven hn
  refine ⟨mk_even, fun a b h1 h2 S => ?_, fun S => ?_, fun S => ?_⟩
  · have e : F4 a b = (decide ((a : Int) = 0) || (decide ((a : Int) % 2 = 1) && decide ((b : Int) = a + 1))) := by
      show (Nat.beq a 0 || (Nat.beq (a % 2) 1 && Nat.beq b (a + 1))) = _
      rw [← eqI, ← eqI, ← eqI]; rfl
    rw [e, ← R_eq]
    unfold w_is_rule_tie d_is_rule_tie b_is_rule_tie w_is_ring_tie d_is_ring_tie b_is_ring_tie
    by_cases e : (a : Int) = 0
    · simp only [R_some, wb_bl, wi_int, wstr_str, wtup_tup, wlst_lst, wref_ref, wp_var0, wp_varS, wp_C, wp_Bin, wp_neg, wp_nil, wp_cons, wp_tup, wp_lst, wp_lstM, wp_Call, wp_And, wp_Or, wp_Not, wp_Test, wp_tAnd, wp_tOr, wp_tNot, wp_If, wp_Chain, wp_Skip, wp_Break, wp_Cont, wp_Never, wp_fNever, wp_Seq, wp_pfl_nx, wp_pfl_rt, wp_pfl_bk, wp_pfl_ct, wp_Expr, wp_Ret, wp_sIf, wp_Asg, wp_N, wp_gNil, wp_gCons, wp_gTup, wp_gSub, wp_Par, wp_two, wp_Run, wp_run_rt, wp_run_nx, wp_bk_nx, wp_bk_ct, wp_bk_bk, wp_bk_rt, wp_r1, wp_r2, wp_add, wp_addL, wp_addS, wp_mul, wp_fdiv, wp_mod, wp_I0, wp_eqI, wp_eqS, wp_eqB, wp_neI, wp_neS, wp_neB, wp_isN, wp_notN, isn_int, isn_non, isn_str, isn_tup, isn_lst, isn_ref, isn_bl, wp_isi, wp_someB, isi_str_str, isi_int_int, isi_int_bl, isi_bool_int, isi_bool_bl, isi_int_non, isi_int_str, isi_tuple_tup, wp_abs, wp_max2, wp_min2, wp_maxT, wp_intI, wp_intB, wp_lenS, wp_lenT, wp_lenL, wp_lenC, wp_divmod, wp_listL, wp_listT, wp_tupL, wp_tupT, wp_KIn, wp_strE, wp_Fld, wp_FldO, wp_Meth, wp_MakeF, wp_someL, wp_iR1, wp_iR2, wp_iLst, wp_iTup, wp_Prop, wp_IsC, wp_DGet1, wp_DIn, wp_gUnl, wp_DictK, wp_rep, wp_MethK, wp_CallK, wp_DispF, wp_DIx, wp_someX, wp_ixL, wp_ixT, wp_ixC, atI0, atI1, atI2, ixN0, ixN1, wp_Sl, wp_oNone, wp_oSome, wp_slC, wp_slL, wp_slS, str_eq, String.reduceEq, in_ring_crowd, in_ring_star, in_ring_pairs, in_ring_row, in_ring_ring, in_ring_core, in_ring_linked, in_ring_odd_ring, in_ring_even_ring, Bool.or_self, Bool.and_self, wp_Lc, wp_Yes, wp_pow10_9, wp_pow10_18, wp_pow10_40, wp_For, wp_sFld, wp_last, set_last, wp_KIx, wp_inT, wp_inL, eqF_str, flat_str, flat_int, flat_non, List.any_cons, List.any_nil, List.all_cons, List.all_nil, Bool.and_true, Bool.or_false, Bool.true_and, Bool.false_and, Bool.and_false, Bool.false_or, Bool.or_true, Bool.true_or, Bool.not_not, List.map_cons, List.map_nil, List.length_cons, List.length_nil, List.cons_append, List.nil_append, List.append_nil, List.set_cons_zero, List.set_cons_succ, List.replicate_succ, List.replicate_zero, Nat.reduceSub, Nat.reduceAdd, Nat.reduceLeDiff, Nat.zero_add, Nat.sub_self, decide_eq_true_eq, Bool.not_eq_true', Bool.not_eq_eq_eq_not, Bool.not_true, Bool.not_false, decide_eq_false_iff_not, if_true, if_false, reduceIte, Bool.false_eq_true, true_and, and_true, decide_true, decide_false, Bool.true_eq_false, eq_self, e]
    · by_cases e2 : (a : Int) % 2 = 1
      · simp only [R_some, wb_bl, wi_int, wstr_str, wtup_tup, wlst_lst, wref_ref, wp_var0, wp_varS, wp_C, wp_Bin, wp_neg, wp_nil, wp_cons, wp_tup, wp_lst, wp_lstM, wp_Call, wp_And, wp_Or, wp_Not, wp_Test, wp_tAnd, wp_tOr, wp_tNot, wp_If, wp_Chain, wp_Skip, wp_Break, wp_Cont, wp_Never, wp_fNever, wp_Seq, wp_pfl_nx, wp_pfl_rt, wp_pfl_bk, wp_pfl_ct, wp_Expr, wp_Ret, wp_sIf, wp_Asg, wp_N, wp_gNil, wp_gCons, wp_gTup, wp_gSub, wp_Par, wp_two, wp_Run, wp_run_rt, wp_run_nx, wp_bk_nx, wp_bk_ct, wp_bk_bk, wp_bk_rt, wp_r1, wp_r2, wp_add, wp_addL, wp_addS, wp_mul, wp_fdiv, wp_mod, wp_I0, wp_eqI, wp_eqS, wp_eqB, wp_neI, wp_neS, wp_neB, wp_isN, wp_notN, isn_int, isn_non, isn_str, isn_tup, isn_lst, isn_ref, isn_bl, wp_isi, wp_someB, isi_str_str, isi_int_int, isi_int_bl, isi_bool_int, isi_bool_bl, isi_int_non, isi_int_str, isi_tuple_tup, wp_abs, wp_max2, wp_min2, wp_maxT, wp_intI, wp_intB, wp_lenS, wp_lenT, wp_lenL, wp_lenC, wp_divmod, wp_listL, wp_listT, wp_tupL, wp_tupT, wp_KIn, wp_strE, wp_Fld, wp_FldO, wp_Meth, wp_MakeF, wp_someL, wp_iR1, wp_iR2, wp_iLst, wp_iTup, wp_Prop, wp_IsC, wp_DGet1, wp_DIn, wp_gUnl, wp_DictK, wp_rep, wp_MethK, wp_CallK, wp_DispF, wp_DIx, wp_someX, wp_ixL, wp_ixT, wp_ixC, atI0, atI1, atI2, ixN0, ixN1, wp_Sl, wp_oNone, wp_oSome, wp_slC, wp_slL, wp_slS, str_eq, String.reduceEq, in_ring_crowd, in_ring_star, in_ring_pairs, in_ring_row, in_ring_ring, in_ring_core, in_ring_linked, in_ring_odd_ring, in_ring_even_ring, Bool.or_self, Bool.and_self, wp_Lc, wp_Yes, wp_pow10_9, wp_pow10_18, wp_pow10_40, wp_For, wp_sFld, wp_last, set_last, wp_KIx, wp_inT, wp_inL, eqF_str, flat_str, flat_int, flat_non, List.any_cons, List.any_nil, List.all_cons, List.all_nil, Bool.and_true, Bool.or_false, Bool.true_and, Bool.false_and, Bool.and_false, Bool.false_or, Bool.or_true, Bool.true_or, Bool.not_not, List.map_cons, List.map_nil, List.length_cons, List.length_nil, List.cons_append, List.nil_append, List.append_nil, List.set_cons_zero, List.set_cons_succ, List.replicate_succ, List.replicate_zero, Nat.reduceSub, Nat.reduceAdd, Nat.reduceLeDiff, Nat.zero_add, Nat.sub_self, decide_eq_true_eq, Bool.not_eq_true', Bool.not_eq_eq_eq_not, Bool.not_true, Bool.not_false, decide_eq_false_iff_not, if_true, if_false, reduceIte, Bool.false_eq_true, true_and, and_true, decide_true, decide_false, Bool.true_eq_false, eq_self, e, e2, Int.reduceLT]
      · simp only [R_some, wb_bl, wi_int, wstr_str, wtup_tup, wlst_lst, wref_ref, wp_var0, wp_varS, wp_C, wp_Bin, wp_neg, wp_nil, wp_cons, wp_tup, wp_lst, wp_lstM, wp_Call, wp_And, wp_Or, wp_Not, wp_Test, wp_tAnd, wp_tOr, wp_tNot, wp_If, wp_Chain, wp_Skip, wp_Break, wp_Cont, wp_Never, wp_fNever, wp_Seq, wp_pfl_nx, wp_pfl_rt, wp_pfl_bk, wp_pfl_ct, wp_Expr, wp_Ret, wp_sIf, wp_Asg, wp_N, wp_gNil, wp_gCons, wp_gTup, wp_gSub, wp_Par, wp_two, wp_Run, wp_run_rt, wp_run_nx, wp_bk_nx, wp_bk_ct, wp_bk_bk, wp_bk_rt, wp_r1, wp_r2, wp_add, wp_addL, wp_addS, wp_mul, wp_fdiv, wp_mod, wp_I0, wp_eqI, wp_eqS, wp_eqB, wp_neI, wp_neS, wp_neB, wp_isN, wp_notN, isn_int, isn_non, isn_str, isn_tup, isn_lst, isn_ref, isn_bl, wp_isi, wp_someB, isi_str_str, isi_int_int, isi_int_bl, isi_bool_int, isi_bool_bl, isi_int_non, isi_int_str, isi_tuple_tup, wp_abs, wp_max2, wp_min2, wp_maxT, wp_intI, wp_intB, wp_lenS, wp_lenT, wp_lenL, wp_lenC, wp_divmod, wp_listL, wp_listT, wp_tupL, wp_tupT, wp_KIn, wp_strE, wp_Fld, wp_FldO, wp_Meth, wp_MakeF, wp_someL, wp_iR1, wp_iR2, wp_iLst, wp_iTup, wp_Prop, wp_IsC, wp_DGet1, wp_DIn, wp_gUnl, wp_DictK, wp_rep, wp_MethK, wp_CallK, wp_DispF, wp_DIx, wp_someX, wp_ixL, wp_ixT, wp_ixC, atI0, atI1, atI2, ixN0, ixN1, wp_Sl, wp_oNone, wp_oSome, wp_slC, wp_slL, wp_slS, str_eq, String.reduceEq, in_ring_crowd, in_ring_star, in_ring_pairs, in_ring_row, in_ring_ring, in_ring_core, in_ring_linked, in_ring_odd_ring, in_ring_even_ring, Bool.or_self, Bool.and_self, wp_Lc, wp_Yes, wp_pow10_9, wp_pow10_18, wp_pow10_40, wp_For, wp_sFld, wp_last, set_last, wp_KIx, wp_inT, wp_inL, eqF_str, flat_str, flat_int, flat_non, List.any_cons, List.any_nil, List.all_cons, List.all_nil, Bool.and_true, Bool.or_false, Bool.true_and, Bool.false_and, Bool.and_false, Bool.false_or, Bool.or_true, Bool.true_or, Bool.not_not, List.map_cons, List.map_nil, List.length_cons, List.length_nil, List.cons_append, List.nil_append, List.append_nil, List.set_cons_zero, List.set_cons_succ, List.replicate_succ, List.replicate_zero, Nat.reduceSub, Nat.reduceAdd, Nat.reduceLeDiff, Nat.zero_add, Nat.sub_self, decide_eq_true_eq, Bool.not_eq_true', Bool.not_eq_eq_eq_not, Bool.not_true, Bool.not_false, decide_eq_false_iff_not, if_true, if_false, reduceIte, Bool.false_eq_true, true_and, and_true, decide_true, decide_false, Bool.true_eq_false, eq_self, e, e2, Int.reduceLT]
  · rw [hM]; exact most_even (pen hn) S
  · rw [hM]; exact law_even (pen hn) S
include hm
theorem k_crowd : K39 "crowd" (.int ((m : Int) + 2)) n (F1 (m + 1)) := by
  have hM := colsB_ok (all_r e1 hm) hn
  have hk : Pe ((m : Int) + 2) := by unfold Pe; omega
  refine ⟨mk_num lk_crowd (by omega) (by omega), fun a b h1 h2 S => ?_, fun S => ?_, fun S => ?_⟩
  · have e : F1 (m + 1) a b = !decide ((a : Int) % ((m : Int) + 2 - 1) = (b : Int) % ((m : Int) + 2 - 1)) := by
      rw [show (m : Int) + 2 - 1 = ((m + 1 : Nat) : Int) by omega]
      show (!Nat.beq (a % (m + 1)) (b % (m + 1))) = !decide (((a % (m + 1) : Nat) : Int) = ((b % (m + 1) : Nat) : Int))
      rw [eqI]
    rw [e, ← R_eq]
    unfold w_is_rule_tie d_is_rule_tie b_is_rule_tie
    simp only [R_some, wb_bl, wi_int, wstr_str, wtup_tup, wlst_lst, wref_ref, wp_var0, wp_varS, wp_C, wp_Bin, wp_neg, wp_nil, wp_cons, wp_tup, wp_lst, wp_lstM, wp_Call, wp_And, wp_Or, wp_Not, wp_Test, wp_tAnd, wp_tOr, wp_tNot, wp_If, wp_Chain, wp_Skip, wp_Break, wp_Cont, wp_Never, wp_fNever, wp_Seq, wp_pfl_nx, wp_pfl_rt, wp_pfl_bk, wp_pfl_ct, wp_Expr, wp_Ret, wp_sIf, wp_Asg, wp_N, wp_gNil, wp_gCons, wp_gTup, wp_gSub, wp_Par, wp_two, wp_Run, wp_run_rt, wp_run_nx, wp_bk_nx, wp_bk_ct, wp_bk_bk, wp_bk_rt, wp_r1, wp_r2, wp_add, wp_addL, wp_addS, wp_mul, wp_fdiv, wp_mod, wp_I0, wp_eqI, wp_eqS, wp_eqB, wp_neI, wp_neS, wp_neB, wp_isN, wp_notN, isn_int, isn_non, isn_str, isn_tup, isn_lst, isn_ref, isn_bl, wp_isi, wp_someB, isi_str_str, isi_int_int, isi_int_bl, isi_bool_int, isi_bool_bl, isi_int_non, isi_int_str, isi_tuple_tup, wp_abs, wp_max2, wp_min2, wp_maxT, wp_intI, wp_intB, wp_lenS, wp_lenT, wp_lenL, wp_lenC, wp_divmod, wp_listL, wp_listT, wp_tupL, wp_tupT, wp_KIn, wp_strE, wp_Fld, wp_FldO, wp_Meth, wp_MakeF, wp_someL, wp_iR1, wp_iR2, wp_iLst, wp_iTup, wp_Prop, wp_IsC, wp_DGet1, wp_DIn, wp_gUnl, wp_DictK, wp_rep, wp_MethK, wp_CallK, wp_DispF, wp_DIx, wp_someX, wp_ixL, wp_ixT, wp_ixC, atI0, atI1, atI2, ixN0, ixN1, wp_Sl, wp_oNone, wp_oSome, wp_slC, wp_slL, wp_slS, str_eq, String.reduceEq, in_ring_crowd, in_ring_star, in_ring_pairs, in_ring_row, in_ring_ring, in_ring_core, in_ring_linked, in_ring_odd_ring, in_ring_even_ring, Bool.or_self, Bool.and_self, wp_Lc, wp_Yes, wp_pow10_9, wp_pow10_18, wp_pow10_40, wp_For, wp_sFld, wp_last, set_last, wp_KIx, wp_inT, wp_inL, eqF_str, flat_str, flat_int, flat_non, List.any_cons, List.any_nil, List.all_cons, List.all_nil, Bool.and_true, Bool.or_false, Bool.true_and, Bool.false_and, Bool.and_false, Bool.false_or, Bool.or_true, Bool.true_or, Bool.not_not, List.map_cons, List.map_nil, List.length_cons, List.length_nil, List.cons_append, List.nil_append, List.append_nil, List.set_cons_zero, List.set_cons_succ, List.replicate_succ, List.replicate_zero, Nat.reduceSub, Nat.reduceAdd, Nat.reduceLeDiff, Nat.zero_add, Nat.sub_self, decide_eq_true_eq, Bool.not_eq_true', Bool.not_eq_eq_eq_not, Bool.not_true, Bool.not_false, decide_eq_false_iff_not, if_true, if_false, reduceIte, Bool.false_eq_true, true_and, and_true, decide_true, decide_false, Bool.true_eq_false, eq_self]
    omega
  · rw [hM]; exact most_crowd hk (by omega) (pen hn) S
  · rw [hM]; exact law_crowd hk (by omega) (pen hn) S
theorem k_row : K39 "row" (.int ((m : Int) + 2)) n (F2 (m + 1)) := by
  have hM := colsB_ok (all_r e2 hm) hn
  have hk : Pe ((m : Int) + 2) := by unfold Pe; omega
  have hl : lgI ((m : Int) + 2 - 1) := lgk (by omega) (by omega)
  refine ⟨mk_num lk_row (by omega) (by omega), fun a b h1 h2 S => ?_, fun S => ?_, fun S => ?_⟩
  · have e : F2 (m + 1) a b = decide ((a : Int) / ((m : Int) + 2 - 1) = (b : Int) / ((m : Int) + 2 - 1)) := by
      rw [show (m : Int) + 2 - 1 = ((m + 1 : Nat) : Int) by omega]
      show Nat.beq (a / (m + 1)) (b / (m + 1)) = decide (((a / (m + 1) : Nat) : Int) = ((b / (m + 1) : Nat) : Int))
      rw [eqI]
    rw [e, ← R_eq]
    unfold w_is_rule_tie d_is_rule_tie b_is_rule_tie
    simp only [R_some, wb_bl, wi_int, wstr_str, wtup_tup, wlst_lst, wref_ref, wp_var0, wp_varS, wp_C, wp_Bin, wp_neg, wp_nil, wp_cons, wp_tup, wp_lst, wp_lstM, wp_Call, wp_And, wp_Or, wp_Not, wp_Test, wp_tAnd, wp_tOr, wp_tNot, wp_If, wp_Chain, wp_Skip, wp_Break, wp_Cont, wp_Never, wp_fNever, wp_Seq, wp_pfl_nx, wp_pfl_rt, wp_pfl_bk, wp_pfl_ct, wp_Expr, wp_Ret, wp_sIf, wp_Asg, wp_N, wp_gNil, wp_gCons, wp_gTup, wp_gSub, wp_Par, wp_two, wp_Run, wp_run_rt, wp_run_nx, wp_bk_nx, wp_bk_ct, wp_bk_bk, wp_bk_rt, wp_r1, wp_r2, wp_add, wp_addL, wp_addS, wp_mul, wp_fdiv, wp_mod, wp_I0, wp_eqI, wp_eqS, wp_eqB, wp_neI, wp_neS, wp_neB, wp_isN, wp_notN, isn_int, isn_non, isn_str, isn_tup, isn_lst, isn_ref, isn_bl, wp_isi, wp_someB, isi_str_str, isi_int_int, isi_int_bl, isi_bool_int, isi_bool_bl, isi_int_non, isi_int_str, isi_tuple_tup, wp_abs, wp_max2, wp_min2, wp_maxT, wp_intI, wp_intB, wp_lenS, wp_lenT, wp_lenL, wp_lenC, wp_divmod, wp_listL, wp_listT, wp_tupL, wp_tupT, wp_KIn, wp_strE, wp_Fld, wp_FldO, wp_Meth, wp_MakeF, wp_someL, wp_iR1, wp_iR2, wp_iLst, wp_iTup, wp_Prop, wp_IsC, wp_DGet1, wp_DIn, wp_gUnl, wp_DictK, wp_rep, wp_MethK, wp_CallK, wp_DispF, wp_DIx, wp_someX, wp_ixL, wp_ixT, wp_ixC, atI0, atI1, atI2, ixN0, ixN1, wp_Sl, wp_oNone, wp_oSome, wp_slC, wp_slL, wp_slS, str_eq, String.reduceEq, in_ring_crowd, in_ring_star, in_ring_pairs, in_ring_row, in_ring_ring, in_ring_core, in_ring_linked, in_ring_odd_ring, in_ring_even_ring, Bool.or_self, Bool.and_self, wp_Lc, wp_Yes, wp_pow10_9, wp_pow10_18, wp_pow10_40, wp_For, wp_sFld, wp_last, set_last, wp_KIx, wp_inT, wp_inL, eqF_str, flat_str, flat_int, flat_non, List.any_cons, List.any_nil, List.all_cons, List.all_nil, Bool.and_true, Bool.or_false, Bool.true_and, Bool.false_and, Bool.and_false, Bool.false_or, Bool.or_true, Bool.true_or, Bool.not_not, List.map_cons, List.map_nil, List.length_cons, List.length_nil, List.cons_append, List.nil_append, List.append_nil, List.set_cons_zero, List.set_cons_succ, List.replicate_succ, List.replicate_zero, Nat.reduceSub, Nat.reduceAdd, Nat.reduceLeDiff, Nat.zero_add, Nat.sub_self, decide_eq_true_eq, Bool.not_eq_true', Bool.not_eq_eq_eq_not, Bool.not_true, Bool.not_false, decide_eq_false_iff_not, if_true, if_false, reduceIte, Bool.false_eq_true, true_and, and_true, decide_true, decide_false, Bool.true_eq_false, eq_self, hl]
    omega
  · rw [hM]; exact most_row hk (by omega) (pen hn) S
  · rw [hM]; exact law_row hk (by omega) (pen hn) S
theorem k_ring : K39 "ring" (.int ((m : Int) + 3)) n (F3 (m + 1)) := by
  have hM := colsB_ok (all_r e3 hm) hn
  have hk : Pe ((m : Int) + 3) := by unfold Pe; omega
  have hl : lgI ((m : Int) + 3 - 2) := lgk (by omega) (by omega)
  refine ⟨mk_num lk_ring (by omega) (by omega), fun a b h1 h2 S => ?_, fun S => ?_, fun S => ?_⟩
  · have e : F3 (m + 1) a b = (decide ((a : Int) = 0) || decide (((a : Int) - 1) / ((m : Int) + 3 - 2) = ((b : Int) - 1) / ((m : Int) + 3 - 2))) := by
      by_cases q : a = 0
      · subst q; rfl
      · rw [show (m : Int) + 3 - 2 = ((m + 1 : Nat) : Int) by omega, show (a : Int) - 1 = ((a - 1 : Nat) : Int) by omega, show (b : Int) - 1 = ((b - 1 : Nat) : Int) by omega]
        show (Nat.beq a 0 || Nat.beq ((a - 1) / (m + 1)) ((b - 1) / (m + 1))) = (decide ((a : Int) = ((0 : Nat) : Int)) || decide ((((a - 1) / (m + 1) : Nat) : Int) = (((b - 1) / (m + 1) : Nat) : Int)))
        rw [eqI, eqI]
    rw [e, ← R_eq]
    unfold w_is_rule_tie d_is_rule_tie b_is_rule_tie w_is_ring_tie d_is_ring_tie b_is_ring_tie
    by_cases e : (a : Int) = 0
    · simp only [R_some, wb_bl, wi_int, wstr_str, wtup_tup, wlst_lst, wref_ref, wp_var0, wp_varS, wp_C, wp_Bin, wp_neg, wp_nil, wp_cons, wp_tup, wp_lst, wp_lstM, wp_Call, wp_And, wp_Or, wp_Not, wp_Test, wp_tAnd, wp_tOr, wp_tNot, wp_If, wp_Chain, wp_Skip, wp_Break, wp_Cont, wp_Never, wp_fNever, wp_Seq, wp_pfl_nx, wp_pfl_rt, wp_pfl_bk, wp_pfl_ct, wp_Expr, wp_Ret, wp_sIf, wp_Asg, wp_N, wp_gNil, wp_gCons, wp_gTup, wp_gSub, wp_Par, wp_two, wp_Run, wp_run_rt, wp_run_nx, wp_bk_nx, wp_bk_ct, wp_bk_bk, wp_bk_rt, wp_r1, wp_r2, wp_add, wp_addL, wp_addS, wp_mul, wp_fdiv, wp_mod, wp_I0, wp_eqI, wp_eqS, wp_eqB, wp_neI, wp_neS, wp_neB, wp_isN, wp_notN, isn_int, isn_non, isn_str, isn_tup, isn_lst, isn_ref, isn_bl, wp_isi, wp_someB, isi_str_str, isi_int_int, isi_int_bl, isi_bool_int, isi_bool_bl, isi_int_non, isi_int_str, isi_tuple_tup, wp_abs, wp_max2, wp_min2, wp_maxT, wp_intI, wp_intB, wp_lenS, wp_lenT, wp_lenL, wp_lenC, wp_divmod, wp_listL, wp_listT, wp_tupL, wp_tupT, wp_KIn, wp_strE, wp_Fld, wp_FldO, wp_Meth, wp_MakeF, wp_someL, wp_iR1, wp_iR2, wp_iLst, wp_iTup, wp_Prop, wp_IsC, wp_DGet1, wp_DIn, wp_gUnl, wp_DictK, wp_rep, wp_MethK, wp_CallK, wp_DispF, wp_DIx, wp_someX, wp_ixL, wp_ixT, wp_ixC, atI0, atI1, atI2, ixN0, ixN1, wp_Sl, wp_oNone, wp_oSome, wp_slC, wp_slL, wp_slS, str_eq, String.reduceEq, in_ring_crowd, in_ring_star, in_ring_pairs, in_ring_row, in_ring_ring, in_ring_core, in_ring_linked, in_ring_odd_ring, in_ring_even_ring, Bool.or_self, Bool.and_self, wp_Lc, wp_Yes, wp_pow10_9, wp_pow10_18, wp_pow10_40, wp_For, wp_sFld, wp_last, set_last, wp_KIx, wp_inT, wp_inL, eqF_str, flat_str, flat_int, flat_non, List.any_cons, List.any_nil, List.all_cons, List.all_nil, Bool.and_true, Bool.or_false, Bool.true_and, Bool.false_and, Bool.and_false, Bool.false_or, Bool.or_true, Bool.true_or, Bool.not_not, List.map_cons, List.map_nil, List.length_cons, List.length_nil, List.cons_append, List.nil_append, List.append_nil, List.set_cons_zero, List.set_cons_succ, List.replicate_succ, List.replicate_zero, Nat.reduceSub, Nat.reduceAdd, Nat.reduceLeDiff, Nat.zero_add, Nat.sub_self, decide_eq_true_eq, Bool.not_eq_true', Bool.not_eq_eq_eq_not, Bool.not_true, Bool.not_false, decide_eq_false_iff_not, if_true, if_false, reduceIte, Bool.false_eq_true, true_and, and_true, decide_true, decide_false, Bool.true_eq_false, eq_self, e]
    · simp only [R_some, wb_bl, wi_int, wstr_str, wtup_tup, wlst_lst, wref_ref, wp_var0, wp_varS, wp_C, wp_Bin, wp_neg, wp_nil, wp_cons, wp_tup, wp_lst, wp_lstM, wp_Call, wp_And, wp_Or, wp_Not, wp_Test, wp_tAnd, wp_tOr, wp_tNot, wp_If, wp_Chain, wp_Skip, wp_Break, wp_Cont, wp_Never, wp_fNever, wp_Seq, wp_pfl_nx, wp_pfl_rt, wp_pfl_bk, wp_pfl_ct, wp_Expr, wp_Ret, wp_sIf, wp_Asg, wp_N, wp_gNil, wp_gCons, wp_gTup, wp_gSub, wp_Par, wp_two, wp_Run, wp_run_rt, wp_run_nx, wp_bk_nx, wp_bk_ct, wp_bk_bk, wp_bk_rt, wp_r1, wp_r2, wp_add, wp_addL, wp_addS, wp_mul, wp_fdiv, wp_mod, wp_I0, wp_eqI, wp_eqS, wp_eqB, wp_neI, wp_neS, wp_neB, wp_isN, wp_notN, isn_int, isn_non, isn_str, isn_tup, isn_lst, isn_ref, isn_bl, wp_isi, wp_someB, isi_str_str, isi_int_int, isi_int_bl, isi_bool_int, isi_bool_bl, isi_int_non, isi_int_str, isi_tuple_tup, wp_abs, wp_max2, wp_min2, wp_maxT, wp_intI, wp_intB, wp_lenS, wp_lenT, wp_lenL, wp_lenC, wp_divmod, wp_listL, wp_listT, wp_tupL, wp_tupT, wp_KIn, wp_strE, wp_Fld, wp_FldO, wp_Meth, wp_MakeF, wp_someL, wp_iR1, wp_iR2, wp_iLst, wp_iTup, wp_Prop, wp_IsC, wp_DGet1, wp_DIn, wp_gUnl, wp_DictK, wp_rep, wp_MethK, wp_CallK, wp_DispF, wp_DIx, wp_someX, wp_ixL, wp_ixT, wp_ixC, atI0, atI1, atI2, ixN0, ixN1, wp_Sl, wp_oNone, wp_oSome, wp_slC, wp_slL, wp_slS, str_eq, String.reduceEq, in_ring_crowd, in_ring_star, in_ring_pairs, in_ring_row, in_ring_ring, in_ring_core, in_ring_linked, in_ring_odd_ring, in_ring_even_ring, Bool.or_self, Bool.and_self, wp_Lc, wp_Yes, wp_pow10_9, wp_pow10_18, wp_pow10_40, wp_For, wp_sFld, wp_last, set_last, wp_KIx, wp_inT, wp_inL, eqF_str, flat_str, flat_int, flat_non, List.any_cons, List.any_nil, List.all_cons, List.all_nil, Bool.and_true, Bool.or_false, Bool.true_and, Bool.false_and, Bool.and_false, Bool.false_or, Bool.or_true, Bool.true_or, Bool.not_not, List.map_cons, List.map_nil, List.length_cons, List.length_nil, List.cons_append, List.nil_append, List.append_nil, List.set_cons_zero, List.set_cons_succ, List.replicate_succ, List.replicate_zero, Nat.reduceSub, Nat.reduceAdd, Nat.reduceLeDiff, Nat.zero_add, Nat.sub_self, decide_eq_true_eq, Bool.not_eq_true', Bool.not_eq_eq_eq_not, Bool.not_true, Bool.not_false, decide_eq_false_iff_not, if_true, if_false, reduceIte, Bool.false_eq_true, true_and, and_true, decide_true, decide_false, Bool.true_eq_false, eq_self, e, hl]
      omega
  · rw [hM]; exact most_ring hk (by omega) (pen hn) S
  · rw [hM]; exact law_ring hk (by omega) (pen hn) S
theorem k_core : K39 "core" (.int ((m : Int) + 1)) n (F5 m) := by
  have hM := colsB_ok (all_r eCore hm) hn
  have hk : Pe ((m : Int) + 1) := by unfold Pe; omega
  refine ⟨mk_num lk_core (by omega) (by omega), fun a b h1 h2 S => ?_, fun S => ?_, fun S => ?_⟩
  · have e : F5 m a b = (decide ((n : Int) < (m : Int) + 1) || decide ((a : Int) < (m : Int) + 1 - 1)) := by
      show Nat.blt a m = _
      rw [← ltI]
      by_cases q : (n : Int) < (m : Int) + 1
      · rw [decide_eq_true q, decide_eq_true (by omega)]; rfl
      · rw [decide_eq_false q, Bool.false_or]
        exact decide_eq_decide.mpr (by omega)
    rw [e, ← R_eq]
    unfold w_is_rule_tie d_is_rule_tie b_is_rule_tie w_is_all_tied d_is_all_tied b_is_all_tied
    by_cases e : (n : Int) < (m : Int) + 1
    · simp only [R_some, wb_bl, wi_int, wstr_str, wtup_tup, wlst_lst, wref_ref, wp_var0, wp_varS, wp_C, wp_Bin, wp_neg, wp_nil, wp_cons, wp_tup, wp_lst, wp_lstM, wp_Call, wp_And, wp_Or, wp_Not, wp_Test, wp_tAnd, wp_tOr, wp_tNot, wp_If, wp_Chain, wp_Skip, wp_Break, wp_Cont, wp_Never, wp_fNever, wp_Seq, wp_pfl_nx, wp_pfl_rt, wp_pfl_bk, wp_pfl_ct, wp_Expr, wp_Ret, wp_sIf, wp_Asg, wp_N, wp_gNil, wp_gCons, wp_gTup, wp_gSub, wp_Par, wp_two, wp_Run, wp_run_rt, wp_run_nx, wp_bk_nx, wp_bk_ct, wp_bk_bk, wp_bk_rt, wp_r1, wp_r2, wp_add, wp_addL, wp_addS, wp_mul, wp_fdiv, wp_mod, wp_I0, wp_eqI, wp_eqS, wp_eqB, wp_neI, wp_neS, wp_neB, wp_isN, wp_notN, isn_int, isn_non, isn_str, isn_tup, isn_lst, isn_ref, isn_bl, wp_isi, wp_someB, isi_str_str, isi_int_int, isi_int_bl, isi_bool_int, isi_bool_bl, isi_int_non, isi_int_str, isi_tuple_tup, wp_abs, wp_max2, wp_min2, wp_maxT, wp_intI, wp_intB, wp_lenS, wp_lenT, wp_lenL, wp_lenC, wp_divmod, wp_listL, wp_listT, wp_tupL, wp_tupT, wp_KIn, wp_strE, wp_Fld, wp_FldO, wp_Meth, wp_MakeF, wp_someL, wp_iR1, wp_iR2, wp_iLst, wp_iTup, wp_Prop, wp_IsC, wp_DGet1, wp_DIn, wp_gUnl, wp_DictK, wp_rep, wp_MethK, wp_CallK, wp_DispF, wp_DIx, wp_someX, wp_ixL, wp_ixT, wp_ixC, atI0, atI1, atI2, ixN0, ixN1, wp_Sl, wp_oNone, wp_oSome, wp_slC, wp_slL, wp_slS, str_eq, String.reduceEq, in_ring_crowd, in_ring_star, in_ring_pairs, in_ring_row, in_ring_ring, in_ring_core, in_ring_linked, in_ring_odd_ring, in_ring_even_ring, Bool.or_self, Bool.and_self, wp_Lc, wp_Yes, wp_pow10_9, wp_pow10_18, wp_pow10_40, wp_For, wp_sFld, wp_last, set_last, wp_KIx, wp_inT, wp_inL, eqF_str, flat_str, flat_int, flat_non, List.any_cons, List.any_nil, List.all_cons, List.all_nil, Bool.and_true, Bool.or_false, Bool.true_and, Bool.false_and, Bool.and_false, Bool.false_or, Bool.or_true, Bool.true_or, Bool.not_not, List.map_cons, List.map_nil, List.length_cons, List.length_nil, List.cons_append, List.nil_append, List.append_nil, List.set_cons_zero, List.set_cons_succ, List.replicate_succ, List.replicate_zero, Nat.reduceSub, Nat.reduceAdd, Nat.reduceLeDiff, Nat.zero_add, Nat.sub_self, decide_eq_true_eq, Bool.not_eq_true', Bool.not_eq_eq_eq_not, Bool.not_true, Bool.not_false, decide_eq_false_iff_not, if_true, if_false, reduceIte, Bool.false_eq_true, true_and, and_true, decide_true, decide_false, Bool.true_eq_false, eq_self, e]
    · simp only [R_some, wb_bl, wi_int, wstr_str, wtup_tup, wlst_lst, wref_ref, wp_var0, wp_varS, wp_C, wp_Bin, wp_neg, wp_nil, wp_cons, wp_tup, wp_lst, wp_lstM, wp_Call, wp_And, wp_Or, wp_Not, wp_Test, wp_tAnd, wp_tOr, wp_tNot, wp_If, wp_Chain, wp_Skip, wp_Break, wp_Cont, wp_Never, wp_fNever, wp_Seq, wp_pfl_nx, wp_pfl_rt, wp_pfl_bk, wp_pfl_ct, wp_Expr, wp_Ret, wp_sIf, wp_Asg, wp_N, wp_gNil, wp_gCons, wp_gTup, wp_gSub, wp_Par, wp_two, wp_Run, wp_run_rt, wp_run_nx, wp_bk_nx, wp_bk_ct, wp_bk_bk, wp_bk_rt, wp_r1, wp_r2, wp_add, wp_addL, wp_addS, wp_mul, wp_fdiv, wp_mod, wp_I0, wp_eqI, wp_eqS, wp_eqB, wp_neI, wp_neS, wp_neB, wp_isN, wp_notN, isn_int, isn_non, isn_str, isn_tup, isn_lst, isn_ref, isn_bl, wp_isi, wp_someB, isi_str_str, isi_int_int, isi_int_bl, isi_bool_int, isi_bool_bl, isi_int_non, isi_int_str, isi_tuple_tup, wp_abs, wp_max2, wp_min2, wp_maxT, wp_intI, wp_intB, wp_lenS, wp_lenT, wp_lenL, wp_lenC, wp_divmod, wp_listL, wp_listT, wp_tupL, wp_tupT, wp_KIn, wp_strE, wp_Fld, wp_FldO, wp_Meth, wp_MakeF, wp_someL, wp_iR1, wp_iR2, wp_iLst, wp_iTup, wp_Prop, wp_IsC, wp_DGet1, wp_DIn, wp_gUnl, wp_DictK, wp_rep, wp_MethK, wp_CallK, wp_DispF, wp_DIx, wp_someX, wp_ixL, wp_ixT, wp_ixC, atI0, atI1, atI2, ixN0, ixN1, wp_Sl, wp_oNone, wp_oSome, wp_slC, wp_slL, wp_slS, str_eq, String.reduceEq, in_ring_crowd, in_ring_star, in_ring_pairs, in_ring_row, in_ring_ring, in_ring_core, in_ring_linked, in_ring_odd_ring, in_ring_even_ring, Bool.or_self, Bool.and_self, wp_Lc, wp_Yes, wp_pow10_9, wp_pow10_18, wp_pow10_40, wp_For, wp_sFld, wp_last, set_last, wp_KIx, wp_inT, wp_inL, eqF_str, flat_str, flat_int, flat_non, List.any_cons, List.any_nil, List.all_cons, List.all_nil, Bool.and_true, Bool.or_false, Bool.true_and, Bool.false_and, Bool.and_false, Bool.false_or, Bool.or_true, Bool.true_or, Bool.not_not, List.map_cons, List.map_nil, List.length_cons, List.length_nil, List.cons_append, List.nil_append, List.append_nil, List.set_cons_zero, List.set_cons_succ, List.replicate_succ, List.replicate_zero, Nat.reduceSub, Nat.reduceAdd, Nat.reduceLeDiff, Nat.zero_add, Nat.sub_self, decide_eq_true_eq, Bool.not_eq_true', Bool.not_eq_eq_eq_not, Bool.not_true, Bool.not_false, decide_eq_false_iff_not, if_true, if_false, reduceIte, Bool.false_eq_true, true_and, and_true, decide_true, decide_false, Bool.true_eq_false, eq_self, e]
  · rw [hM]; exact most_core hk (by omega) (pen hn) S
  · rw [hM]; exact law_core hk (by omega) (pen hn) S
theorem k_linked : K39 "linked" (.int ((m : Int) + 1)) n (F7 (m + 1) n) := by
  have hM := of_decide_eq_true (all_r (all_r eLinked hm) (show n < 41 by omega))
  have hk : Pe ((m : Int) + 1) := by unfold Pe; omega
  refine ⟨mk_num lk_linked (by omega) (by omega), fun a b h1 h2 S => ?_, fun S => ?_, fun S => ?_⟩
  · have e : F7 (m + 1) n a b = (decide ((n : Int) ≤ (m : Int) + 1) || (!decide ((b : Int) = n - 1) || decide ((a : Int) < (m : Int) + 1 - 1))) := by
      show (Nat.ble n (m + 1) || (!Nat.beq b (n - 1) || Nat.blt a (m + 1 - 1))) = _
      rw [← leI, ← eqI, ← ltI]
      congr 1
      · congr 1
        · congr 1
          exact decide_eq_decide.mpr (by omega)
        · exact decide_eq_decide.mpr (by omega)
    rw [e, ← R_eq]
    unfold w_is_rule_tie d_is_rule_tie b_is_rule_tie w_is_all_tied d_is_all_tied b_is_all_tied
    by_cases e : (n : Int) ≤ (m : Int) + 1
    · simp only [R_some, wb_bl, wi_int, wstr_str, wtup_tup, wlst_lst, wref_ref, wp_var0, wp_varS, wp_C, wp_Bin, wp_neg, wp_nil, wp_cons, wp_tup, wp_lst, wp_lstM, wp_Call, wp_And, wp_Or, wp_Not, wp_Test, wp_tAnd, wp_tOr, wp_tNot, wp_If, wp_Chain, wp_Skip, wp_Break, wp_Cont, wp_Never, wp_fNever, wp_Seq, wp_pfl_nx, wp_pfl_rt, wp_pfl_bk, wp_pfl_ct, wp_Expr, wp_Ret, wp_sIf, wp_Asg, wp_N, wp_gNil, wp_gCons, wp_gTup, wp_gSub, wp_Par, wp_two, wp_Run, wp_run_rt, wp_run_nx, wp_bk_nx, wp_bk_ct, wp_bk_bk, wp_bk_rt, wp_r1, wp_r2, wp_add, wp_addL, wp_addS, wp_mul, wp_fdiv, wp_mod, wp_I0, wp_eqI, wp_eqS, wp_eqB, wp_neI, wp_neS, wp_neB, wp_isN, wp_notN, isn_int, isn_non, isn_str, isn_tup, isn_lst, isn_ref, isn_bl, wp_isi, wp_someB, isi_str_str, isi_int_int, isi_int_bl, isi_bool_int, isi_bool_bl, isi_int_non, isi_int_str, isi_tuple_tup, wp_abs, wp_max2, wp_min2, wp_maxT, wp_intI, wp_intB, wp_lenS, wp_lenT, wp_lenL, wp_lenC, wp_divmod, wp_listL, wp_listT, wp_tupL, wp_tupT, wp_KIn, wp_strE, wp_Fld, wp_FldO, wp_Meth, wp_MakeF, wp_someL, wp_iR1, wp_iR2, wp_iLst, wp_iTup, wp_Prop, wp_IsC, wp_DGet1, wp_DIn, wp_gUnl, wp_DictK, wp_rep, wp_MethK, wp_CallK, wp_DispF, wp_DIx, wp_someX, wp_ixL, wp_ixT, wp_ixC, atI0, atI1, atI2, ixN0, ixN1, wp_Sl, wp_oNone, wp_oSome, wp_slC, wp_slL, wp_slS, str_eq, String.reduceEq, in_ring_crowd, in_ring_star, in_ring_pairs, in_ring_row, in_ring_ring, in_ring_core, in_ring_linked, in_ring_odd_ring, in_ring_even_ring, Bool.or_self, Bool.and_self, wp_Lc, wp_Yes, wp_pow10_9, wp_pow10_18, wp_pow10_40, wp_For, wp_sFld, wp_last, set_last, wp_KIx, wp_inT, wp_inL, eqF_str, flat_str, flat_int, flat_non, List.any_cons, List.any_nil, List.all_cons, List.all_nil, Bool.and_true, Bool.or_false, Bool.true_and, Bool.false_and, Bool.and_false, Bool.false_or, Bool.or_true, Bool.true_or, Bool.not_not, List.map_cons, List.map_nil, List.length_cons, List.length_nil, List.cons_append, List.nil_append, List.append_nil, List.set_cons_zero, List.set_cons_succ, List.replicate_succ, List.replicate_zero, Nat.reduceSub, Nat.reduceAdd, Nat.reduceLeDiff, Nat.zero_add, Nat.sub_self, decide_eq_true_eq, Bool.not_eq_true', Bool.not_eq_eq_eq_not, Bool.not_true, Bool.not_false, decide_eq_false_iff_not, if_true, if_false, reduceIte, Bool.false_eq_true, true_and, and_true, decide_true, decide_false, Bool.true_eq_false, eq_self, e]
    · by_cases e2 : (b : Int) = n - 1
      · simp only [R_some, wb_bl, wi_int, wstr_str, wtup_tup, wlst_lst, wref_ref, wp_var0, wp_varS, wp_C, wp_Bin, wp_neg, wp_nil, wp_cons, wp_tup, wp_lst, wp_lstM, wp_Call, wp_And, wp_Or, wp_Not, wp_Test, wp_tAnd, wp_tOr, wp_tNot, wp_If, wp_Chain, wp_Skip, wp_Break, wp_Cont, wp_Never, wp_fNever, wp_Seq, wp_pfl_nx, wp_pfl_rt, wp_pfl_bk, wp_pfl_ct, wp_Expr, wp_Ret, wp_sIf, wp_Asg, wp_N, wp_gNil, wp_gCons, wp_gTup, wp_gSub, wp_Par, wp_two, wp_Run, wp_run_rt, wp_run_nx, wp_bk_nx, wp_bk_ct, wp_bk_bk, wp_bk_rt, wp_r1, wp_r2, wp_add, wp_addL, wp_addS, wp_mul, wp_fdiv, wp_mod, wp_I0, wp_eqI, wp_eqS, wp_eqB, wp_neI, wp_neS, wp_neB, wp_isN, wp_notN, isn_int, isn_non, isn_str, isn_tup, isn_lst, isn_ref, isn_bl, wp_isi, wp_someB, isi_str_str, isi_int_int, isi_int_bl, isi_bool_int, isi_bool_bl, isi_int_non, isi_int_str, isi_tuple_tup, wp_abs, wp_max2, wp_min2, wp_maxT, wp_intI, wp_intB, wp_lenS, wp_lenT, wp_lenL, wp_lenC, wp_divmod, wp_listL, wp_listT, wp_tupL, wp_tupT, wp_KIn, wp_strE, wp_Fld, wp_FldO, wp_Meth, wp_MakeF, wp_someL, wp_iR1, wp_iR2, wp_iLst, wp_iTup, wp_Prop, wp_IsC, wp_DGet1, wp_DIn, wp_gUnl, wp_DictK, wp_rep, wp_MethK, wp_CallK, wp_DispF, wp_DIx, wp_someX, wp_ixL, wp_ixT, wp_ixC, atI0, atI1, atI2, ixN0, ixN1, wp_Sl, wp_oNone, wp_oSome, wp_slC, wp_slL, wp_slS, str_eq, String.reduceEq, in_ring_crowd, in_ring_star, in_ring_pairs, in_ring_row, in_ring_ring, in_ring_core, in_ring_linked, in_ring_odd_ring, in_ring_even_ring, Bool.or_self, Bool.and_self, wp_Lc, wp_Yes, wp_pow10_9, wp_pow10_18, wp_pow10_40, wp_For, wp_sFld, wp_last, set_last, wp_KIx, wp_inT, wp_inL, eqF_str, flat_str, flat_int, flat_non, List.any_cons, List.any_nil, List.all_cons, List.all_nil, Bool.and_true, Bool.or_false, Bool.true_and, Bool.false_and, Bool.and_false, Bool.false_or, Bool.or_true, Bool.true_or, Bool.not_not, List.map_cons, List.map_nil, List.length_cons, List.length_nil, List.cons_append, List.nil_append, List.append_nil, List.set_cons_zero, List.set_cons_succ, List.replicate_succ, List.replicate_zero, Nat.reduceSub, Nat.reduceAdd, Nat.reduceLeDiff, Nat.zero_add, Nat.sub_self, decide_eq_true_eq, Bool.not_eq_true', Bool.not_eq_eq_eq_not, Bool.not_true, Bool.not_false, decide_eq_false_iff_not, if_true, if_false, reduceIte, Bool.false_eq_true, true_and, and_true, decide_true, decide_false, Bool.true_eq_false, eq_self, e, e2]
      · simp only [R_some, wb_bl, wi_int, wstr_str, wtup_tup, wlst_lst, wref_ref, wp_var0, wp_varS, wp_C, wp_Bin, wp_neg, wp_nil, wp_cons, wp_tup, wp_lst, wp_lstM, wp_Call, wp_And, wp_Or, wp_Not, wp_Test, wp_tAnd, wp_tOr, wp_tNot, wp_If, wp_Chain, wp_Skip, wp_Break, wp_Cont, wp_Never, wp_fNever, wp_Seq, wp_pfl_nx, wp_pfl_rt, wp_pfl_bk, wp_pfl_ct, wp_Expr, wp_Ret, wp_sIf, wp_Asg, wp_N, wp_gNil, wp_gCons, wp_gTup, wp_gSub, wp_Par, wp_two, wp_Run, wp_run_rt, wp_run_nx, wp_bk_nx, wp_bk_ct, wp_bk_bk, wp_bk_rt, wp_r1, wp_r2, wp_add, wp_addL, wp_addS, wp_mul, wp_fdiv, wp_mod, wp_I0, wp_eqI, wp_eqS, wp_eqB, wp_neI, wp_neS, wp_neB, wp_isN, wp_notN, isn_int, isn_non, isn_str, isn_tup, isn_lst, isn_ref, isn_bl, wp_isi, wp_someB, isi_str_str, isi_int_int, isi_int_bl, isi_bool_int, isi_bool_bl, isi_int_non, isi_int_str, isi_tuple_tup, wp_abs, wp_max2, wp_min2, wp_maxT, wp_intI, wp_intB, wp_lenS, wp_lenT, wp_lenL, wp_lenC, wp_divmod, wp_listL, wp_listT, wp_tupL, wp_tupT, wp_KIn, wp_strE, wp_Fld, wp_FldO, wp_Meth, wp_MakeF, wp_someL, wp_iR1, wp_iR2, wp_iLst, wp_iTup, wp_Prop, wp_IsC, wp_DGet1, wp_DIn, wp_gUnl, wp_DictK, wp_rep, wp_MethK, wp_CallK, wp_DispF, wp_DIx, wp_someX, wp_ixL, wp_ixT, wp_ixC, atI0, atI1, atI2, ixN0, ixN1, wp_Sl, wp_oNone, wp_oSome, wp_slC, wp_slL, wp_slS, str_eq, String.reduceEq, in_ring_crowd, in_ring_star, in_ring_pairs, in_ring_row, in_ring_ring, in_ring_core, in_ring_linked, in_ring_odd_ring, in_ring_even_ring, Bool.or_self, Bool.and_self, wp_Lc, wp_Yes, wp_pow10_9, wp_pow10_18, wp_pow10_40, wp_For, wp_sFld, wp_last, set_last, wp_KIx, wp_inT, wp_inL, eqF_str, flat_str, flat_int, flat_non, List.any_cons, List.any_nil, List.all_cons, List.all_nil, Bool.and_true, Bool.or_false, Bool.true_and, Bool.false_and, Bool.and_false, Bool.false_or, Bool.or_true, Bool.true_or, Bool.not_not, List.map_cons, List.map_nil, List.length_cons, List.length_nil, List.cons_append, List.nil_append, List.append_nil, List.set_cons_zero, List.set_cons_succ, List.replicate_succ, List.replicate_zero, Nat.reduceSub, Nat.reduceAdd, Nat.reduceLeDiff, Nat.zero_add, Nat.sub_self, decide_eq_true_eq, Bool.not_eq_true', Bool.not_eq_eq_eq_not, Bool.not_true, Bool.not_false, decide_eq_false_iff_not, if_true, if_false, reduceIte, Bool.false_eq_true, true_and, and_true, decide_true, decide_false, Bool.true_eq_false, eq_self, e, e2]
  · rw [hM]; exact most_linked hk (by omega) (pen hn) S
  · rw [hM]; exact law_linked hk (by omega) (pen hn) S
theorem k_star : K39 "star" (.int ((m : Int) + 1)) n (F8 (m + 1) n) := by
  have hM := of_decide_eq_true (all_r (all_r eStar hm) (show n < 41 by omega))
  have hk : Pe ((m : Int) + 1) := by unfold Pe; omega
  refine ⟨mk_num lk_star (by omega) (by omega), fun a b h1 h2 S => ?_, fun S => ?_, fun S => ?_⟩
  · have e : F8 (m + 1) n a b = (decide ((n : Int) ≤ (m : Int) + 1) || (decide ((if (n : Int) - ((b : Int) - a) < (b : Int) - a then (n : Int) - ((b : Int) - a) else (b : Int) - a) ≤ ((m : Int) + 1 - 1) / 2) || (decide (((m : Int) + 1) % 2 = 0) && (decide ((b : Int) - a = n / 2) && (decide ((n : Int) % 2 = 0) || decide ((a : Int) < n / 2)))))) := by
      show (Nat.ble n (m + 1) || ((Nat.ble (b - a) ((m + 1 - 1) / 2) || Nat.ble (n - (b - a)) ((m + 1 - 1) / 2)) || (Nat.beq ((m + 1) % 2) 0 && (Nat.beq (b - a) (n / 2) && (Nat.beq (n % 2) 0 || Nat.blt a (n / 2)))))) = _
      rw [← leI, ← leI, ← leI, ← eqI, ← eqI, ← eqI, ← ltI]
      congr 1
      congr 1
      · rw [← Bool.decide_or]
        exact decide_eq_decide.mpr (by split <;> omega)
      · congr 1
        congr 1
        exact decide_eq_decide.mpr (by omega)
    generalize hk' : (m : Int) + 1 = k at *
    rw [e, ← R_eq]
    generalize (a : Int) = a
    generalize (b : Int) = b
    unfold w_is_rule_tie d_is_rule_tie b_is_rule_tie w_is_all_tied d_is_all_tied b_is_all_tied w_is_star_tie d_is_star_tie b_is_star_tie
    by_cases e : (n : Int) ≤ k
    · simp only [R_some, wb_bl, wi_int, wstr_str, wtup_tup, wlst_lst, wref_ref, wp_var0, wp_varS, wp_C, wp_Bin, wp_neg, wp_nil, wp_cons, wp_tup, wp_lst, wp_lstM, wp_Call, wp_And, wp_Or, wp_Not, wp_Test, wp_tAnd, wp_tOr, wp_tNot, wp_If, wp_Chain, wp_Skip, wp_Break, wp_Cont, wp_Never, wp_fNever, wp_Seq, wp_pfl_nx, wp_pfl_rt, wp_pfl_bk, wp_pfl_ct, wp_Expr, wp_Ret, wp_sIf, wp_Asg, wp_N, wp_gNil, wp_gCons, wp_gTup, wp_gSub, wp_Par, wp_two, wp_Run, wp_run_rt, wp_run_nx, wp_bk_nx, wp_bk_ct, wp_bk_bk, wp_bk_rt, wp_r1, wp_r2, wp_add, wp_addL, wp_addS, wp_mul, wp_fdiv, wp_mod, wp_I0, wp_eqI, wp_eqS, wp_eqB, wp_neI, wp_neS, wp_neB, wp_isN, wp_notN, isn_int, isn_non, isn_str, isn_tup, isn_lst, isn_ref, isn_bl, wp_isi, wp_someB, isi_str_str, isi_int_int, isi_int_bl, isi_bool_int, isi_bool_bl, isi_int_non, isi_int_str, isi_tuple_tup, wp_abs, wp_max2, wp_min2, wp_maxT, wp_intI, wp_intB, wp_lenS, wp_lenT, wp_lenL, wp_lenC, wp_divmod, wp_listL, wp_listT, wp_tupL, wp_tupT, wp_KIn, wp_strE, wp_Fld, wp_FldO, wp_Meth, wp_MakeF, wp_someL, wp_iR1, wp_iR2, wp_iLst, wp_iTup, wp_Prop, wp_IsC, wp_DGet1, wp_DIn, wp_gUnl, wp_DictK, wp_rep, wp_MethK, wp_CallK, wp_DispF, wp_DIx, wp_someX, wp_ixL, wp_ixT, wp_ixC, atI0, atI1, atI2, ixN0, ixN1, wp_Sl, wp_oNone, wp_oSome, wp_slC, wp_slL, wp_slS, str_eq, String.reduceEq, in_ring_crowd, in_ring_star, in_ring_pairs, in_ring_row, in_ring_ring, in_ring_core, in_ring_linked, in_ring_odd_ring, in_ring_even_ring, Bool.or_self, Bool.and_self, wp_Lc, wp_Yes, wp_pow10_9, wp_pow10_18, wp_pow10_40, wp_For, wp_sFld, wp_last, set_last, wp_KIx, wp_inT, wp_inL, eqF_str, flat_str, flat_int, flat_non, List.any_cons, List.any_nil, List.all_cons, List.all_nil, Bool.and_true, Bool.or_false, Bool.true_and, Bool.false_and, Bool.and_false, Bool.false_or, Bool.or_true, Bool.true_or, Bool.not_not, List.map_cons, List.map_nil, List.length_cons, List.length_nil, List.cons_append, List.nil_append, List.append_nil, List.set_cons_zero, List.set_cons_succ, List.replicate_succ, List.replicate_zero, Nat.reduceSub, Nat.reduceAdd, Nat.reduceLeDiff, Nat.zero_add, Nat.sub_self, decide_eq_true_eq, Bool.not_eq_true', Bool.not_eq_eq_eq_not, Bool.not_true, Bool.not_false, decide_eq_false_iff_not, if_true, if_false, reduceIte, Bool.false_eq_true, true_and, and_true, decide_true, decide_false, Bool.true_eq_false, eq_self, e]
    · generalize hm : (if (n : Int) - (b - a) < b - a then (n : Int) - (b - a) else b - a) = mn
      by_cases e1 : mn ≤ (k - 1) / 2
      · simp only [R_some, wb_bl, wi_int, wstr_str, wtup_tup, wlst_lst, wref_ref, wp_var0, wp_varS, wp_C, wp_Bin, wp_neg, wp_nil, wp_cons, wp_tup, wp_lst, wp_lstM, wp_Call, wp_And, wp_Or, wp_Not, wp_Test, wp_tAnd, wp_tOr, wp_tNot, wp_If, wp_Chain, wp_Skip, wp_Break, wp_Cont, wp_Never, wp_fNever, wp_Seq, wp_pfl_nx, wp_pfl_rt, wp_pfl_bk, wp_pfl_ct, wp_Expr, wp_Ret, wp_sIf, wp_Asg, wp_N, wp_gNil, wp_gCons, wp_gTup, wp_gSub, wp_Par, wp_two, wp_Run, wp_run_rt, wp_run_nx, wp_bk_nx, wp_bk_ct, wp_bk_bk, wp_bk_rt, wp_r1, wp_r2, wp_add, wp_addL, wp_addS, wp_mul, wp_fdiv, wp_mod, wp_I0, wp_eqI, wp_eqS, wp_eqB, wp_neI, wp_neS, wp_neB, wp_isN, wp_notN, isn_int, isn_non, isn_str, isn_tup, isn_lst, isn_ref, isn_bl, wp_isi, wp_someB, isi_str_str, isi_int_int, isi_int_bl, isi_bool_int, isi_bool_bl, isi_int_non, isi_int_str, isi_tuple_tup, wp_abs, wp_max2, wp_min2, wp_maxT, wp_intI, wp_intB, wp_lenS, wp_lenT, wp_lenL, wp_lenC, wp_divmod, wp_listL, wp_listT, wp_tupL, wp_tupT, wp_KIn, wp_strE, wp_Fld, wp_FldO, wp_Meth, wp_MakeF, wp_someL, wp_iR1, wp_iR2, wp_iLst, wp_iTup, wp_Prop, wp_IsC, wp_DGet1, wp_DIn, wp_gUnl, wp_DictK, wp_rep, wp_MethK, wp_CallK, wp_DispF, wp_DIx, wp_someX, wp_ixL, wp_ixT, wp_ixC, atI0, atI1, atI2, ixN0, ixN1, wp_Sl, wp_oNone, wp_oSome, wp_slC, wp_slL, wp_slS, str_eq, String.reduceEq, in_ring_crowd, in_ring_star, in_ring_pairs, in_ring_row, in_ring_ring, in_ring_core, in_ring_linked, in_ring_odd_ring, in_ring_even_ring, Bool.or_self, Bool.and_self, wp_Lc, wp_Yes, wp_pow10_9, wp_pow10_18, wp_pow10_40, wp_For, wp_sFld, wp_last, set_last, wp_KIx, wp_inT, wp_inL, eqF_str, flat_str, flat_int, flat_non, List.any_cons, List.any_nil, List.all_cons, List.all_nil, Bool.and_true, Bool.or_false, Bool.true_and, Bool.false_and, Bool.and_false, Bool.false_or, Bool.or_true, Bool.true_or, Bool.not_not, List.map_cons, List.map_nil, List.length_cons, List.length_nil, List.cons_append, List.nil_append, List.append_nil, List.set_cons_zero, List.set_cons_succ, List.replicate_succ, List.replicate_zero, Nat.reduceSub, Nat.reduceAdd, Nat.reduceLeDiff, Nat.zero_add, Nat.sub_self, decide_eq_true_eq, Bool.not_eq_true', Bool.not_eq_eq_eq_not, Bool.not_true, Bool.not_false, decide_eq_false_iff_not, if_true, if_false, reduceIte, Bool.false_eq_true, true_and, and_true, decide_true, decide_false, Bool.true_eq_false, eq_self, e, e1, hm, lg2, Int.reduceLT]
      · by_cases e2 : k % 2 = 1
        · have e3 : ¬ k % 2 = 0 := by omega
          simp only [R_some, wb_bl, wi_int, wstr_str, wtup_tup, wlst_lst, wref_ref, wp_var0, wp_varS, wp_C, wp_Bin, wp_neg, wp_nil, wp_cons, wp_tup, wp_lst, wp_lstM, wp_Call, wp_And, wp_Or, wp_Not, wp_Test, wp_tAnd, wp_tOr, wp_tNot, wp_If, wp_Chain, wp_Skip, wp_Break, wp_Cont, wp_Never, wp_fNever, wp_Seq, wp_pfl_nx, wp_pfl_rt, wp_pfl_bk, wp_pfl_ct, wp_Expr, wp_Ret, wp_sIf, wp_Asg, wp_N, wp_gNil, wp_gCons, wp_gTup, wp_gSub, wp_Par, wp_two, wp_Run, wp_run_rt, wp_run_nx, wp_bk_nx, wp_bk_ct, wp_bk_bk, wp_bk_rt, wp_r1, wp_r2, wp_add, wp_addL, wp_addS, wp_mul, wp_fdiv, wp_mod, wp_I0, wp_eqI, wp_eqS, wp_eqB, wp_neI, wp_neS, wp_neB, wp_isN, wp_notN, isn_int, isn_non, isn_str, isn_tup, isn_lst, isn_ref, isn_bl, wp_isi, wp_someB, isi_str_str, isi_int_int, isi_int_bl, isi_bool_int, isi_bool_bl, isi_int_non, isi_int_str, isi_tuple_tup, wp_abs, wp_max2, wp_min2, wp_maxT, wp_intI, wp_intB, wp_lenS, wp_lenT, wp_lenL, wp_lenC, wp_divmod, wp_listL, wp_listT, wp_tupL, wp_tupT, wp_KIn, wp_strE, wp_Fld, wp_FldO, wp_Meth, wp_MakeF, wp_someL, wp_iR1, wp_iR2, wp_iLst, wp_iTup, wp_Prop, wp_IsC, wp_DGet1, wp_DIn, wp_gUnl, wp_DictK, wp_rep, wp_MethK, wp_CallK, wp_DispF, wp_DIx, wp_someX, wp_ixL, wp_ixT, wp_ixC, atI0, atI1, atI2, ixN0, ixN1, wp_Sl, wp_oNone, wp_oSome, wp_slC, wp_slL, wp_slS, str_eq, String.reduceEq, in_ring_crowd, in_ring_star, in_ring_pairs, in_ring_row, in_ring_ring, in_ring_core, in_ring_linked, in_ring_odd_ring, in_ring_even_ring, Bool.or_self, Bool.and_self, wp_Lc, wp_Yes, wp_pow10_9, wp_pow10_18, wp_pow10_40, wp_For, wp_sFld, wp_last, set_last, wp_KIx, wp_inT, wp_inL, eqF_str, flat_str, flat_int, flat_non, List.any_cons, List.any_nil, List.all_cons, List.all_nil, Bool.and_true, Bool.or_false, Bool.true_and, Bool.false_and, Bool.and_false, Bool.false_or, Bool.or_true, Bool.true_or, Bool.not_not, List.map_cons, List.map_nil, List.length_cons, List.length_nil, List.cons_append, List.nil_append, List.append_nil, List.set_cons_zero, List.set_cons_succ, List.replicate_succ, List.replicate_zero, Nat.reduceSub, Nat.reduceAdd, Nat.reduceLeDiff, Nat.zero_add, Nat.sub_self, decide_eq_true_eq, Bool.not_eq_true', Bool.not_eq_eq_eq_not, Bool.not_true, Bool.not_false, decide_eq_false_iff_not, if_true, if_false, reduceIte, Bool.false_eq_true, true_and, and_true, decide_true, decide_false, Bool.true_eq_false, eq_self, e, e1, e2, e3, hm, lg2, Int.reduceLT, Int.reduceEq]
        · have e3 : k % 2 = 0 := by omega
          by_cases e4 : b - a = (n : Int) / 2
          · rw [e4] at hm
            by_cases e5 : (n : Int) % 2 = 0
            · simp only [R_some, wb_bl, wi_int, wstr_str, wtup_tup, wlst_lst, wref_ref, wp_var0, wp_varS, wp_C, wp_Bin, wp_neg, wp_nil, wp_cons, wp_tup, wp_lst, wp_lstM, wp_Call, wp_And, wp_Or, wp_Not, wp_Test, wp_tAnd, wp_tOr, wp_tNot, wp_If, wp_Chain, wp_Skip, wp_Break, wp_Cont, wp_Never, wp_fNever, wp_Seq, wp_pfl_nx, wp_pfl_rt, wp_pfl_bk, wp_pfl_ct, wp_Expr, wp_Ret, wp_sIf, wp_Asg, wp_N, wp_gNil, wp_gCons, wp_gTup, wp_gSub, wp_Par, wp_two, wp_Run, wp_run_rt, wp_run_nx, wp_bk_nx, wp_bk_ct, wp_bk_bk, wp_bk_rt, wp_r1, wp_r2, wp_add, wp_addL, wp_addS, wp_mul, wp_fdiv, wp_mod, wp_I0, wp_eqI, wp_eqS, wp_eqB, wp_neI, wp_neS, wp_neB, wp_isN, wp_notN, isn_int, isn_non, isn_str, isn_tup, isn_lst, isn_ref, isn_bl, wp_isi, wp_someB, isi_str_str, isi_int_int, isi_int_bl, isi_bool_int, isi_bool_bl, isi_int_non, isi_int_str, isi_tuple_tup, wp_abs, wp_max2, wp_min2, wp_maxT, wp_intI, wp_intB, wp_lenS, wp_lenT, wp_lenL, wp_lenC, wp_divmod, wp_listL, wp_listT, wp_tupL, wp_tupT, wp_KIn, wp_strE, wp_Fld, wp_FldO, wp_Meth, wp_MakeF, wp_someL, wp_iR1, wp_iR2, wp_iLst, wp_iTup, wp_Prop, wp_IsC, wp_DGet1, wp_DIn, wp_gUnl, wp_DictK, wp_rep, wp_MethK, wp_CallK, wp_DispF, wp_DIx, wp_someX, wp_ixL, wp_ixT, wp_ixC, atI0, atI1, atI2, ixN0, ixN1, wp_Sl, wp_oNone, wp_oSome, wp_slC, wp_slL, wp_slS, str_eq, String.reduceEq, in_ring_crowd, in_ring_star, in_ring_pairs, in_ring_row, in_ring_ring, in_ring_core, in_ring_linked, in_ring_odd_ring, in_ring_even_ring, Bool.or_self, Bool.and_self, wp_Lc, wp_Yes, wp_pow10_9, wp_pow10_18, wp_pow10_40, wp_For, wp_sFld, wp_last, set_last, wp_KIx, wp_inT, wp_inL, eqF_str, flat_str, flat_int, flat_non, List.any_cons, List.any_nil, List.all_cons, List.all_nil, Bool.and_true, Bool.or_false, Bool.true_and, Bool.false_and, Bool.and_false, Bool.false_or, Bool.or_true, Bool.true_or, Bool.not_not, List.map_cons, List.map_nil, List.length_cons, List.length_nil, List.cons_append, List.nil_append, List.append_nil, List.set_cons_zero, List.set_cons_succ, List.replicate_succ, List.replicate_zero, Nat.reduceSub, Nat.reduceAdd, Nat.reduceLeDiff, Nat.zero_add, Nat.sub_self, decide_eq_true_eq, Bool.not_eq_true', Bool.not_eq_eq_eq_not, Bool.not_true, Bool.not_false, decide_eq_false_iff_not, if_true, if_false, reduceIte, Bool.false_eq_true, true_and, and_true, decide_true, decide_false, Bool.true_eq_false, eq_self, e, e1, e2, e3, e4, e5, hm, lg2, Int.reduceLT, Int.reduceEq]
            · simp only [R_some, wb_bl, wi_int, wstr_str, wtup_tup, wlst_lst, wref_ref, wp_var0, wp_varS, wp_C, wp_Bin, wp_neg, wp_nil, wp_cons, wp_tup, wp_lst, wp_lstM, wp_Call, wp_And, wp_Or, wp_Not, wp_Test, wp_tAnd, wp_tOr, wp_tNot, wp_If, wp_Chain, wp_Skip, wp_Break, wp_Cont, wp_Never, wp_fNever, wp_Seq, wp_pfl_nx, wp_pfl_rt, wp_pfl_bk, wp_pfl_ct, wp_Expr, wp_Ret, wp_sIf, wp_Asg, wp_N, wp_gNil, wp_gCons, wp_gTup, wp_gSub, wp_Par, wp_two, wp_Run, wp_run_rt, wp_run_nx, wp_bk_nx, wp_bk_ct, wp_bk_bk, wp_bk_rt, wp_r1, wp_r2, wp_add, wp_addL, wp_addS, wp_mul, wp_fdiv, wp_mod, wp_I0, wp_eqI, wp_eqS, wp_eqB, wp_neI, wp_neS, wp_neB, wp_isN, wp_notN, isn_int, isn_non, isn_str, isn_tup, isn_lst, isn_ref, isn_bl, wp_isi, wp_someB, isi_str_str, isi_int_int, isi_int_bl, isi_bool_int, isi_bool_bl, isi_int_non, isi_int_str, isi_tuple_tup, wp_abs, wp_max2, wp_min2, wp_maxT, wp_intI, wp_intB, wp_lenS, wp_lenT, wp_lenL, wp_lenC, wp_divmod, wp_listL, wp_listT, wp_tupL, wp_tupT, wp_KIn, wp_strE, wp_Fld, wp_FldO, wp_Meth, wp_MakeF, wp_someL, wp_iR1, wp_iR2, wp_iLst, wp_iTup, wp_Prop, wp_IsC, wp_DGet1, wp_DIn, wp_gUnl, wp_DictK, wp_rep, wp_MethK, wp_CallK, wp_DispF, wp_DIx, wp_someX, wp_ixL, wp_ixT, wp_ixC, atI0, atI1, atI2, ixN0, ixN1, wp_Sl, wp_oNone, wp_oSome, wp_slC, wp_slL, wp_slS, str_eq, String.reduceEq, in_ring_crowd, in_ring_star, in_ring_pairs, in_ring_row, in_ring_ring, in_ring_core, in_ring_linked, in_ring_odd_ring, in_ring_even_ring, Bool.or_self, Bool.and_self, wp_Lc, wp_Yes, wp_pow10_9, wp_pow10_18, wp_pow10_40, wp_For, wp_sFld, wp_last, set_last, wp_KIx, wp_inT, wp_inL, eqF_str, flat_str, flat_int, flat_non, List.any_cons, List.any_nil, List.all_cons, List.all_nil, Bool.and_true, Bool.or_false, Bool.true_and, Bool.false_and, Bool.and_false, Bool.false_or, Bool.or_true, Bool.true_or, Bool.not_not, List.map_cons, List.map_nil, List.length_cons, List.length_nil, List.cons_append, List.nil_append, List.append_nil, List.set_cons_zero, List.set_cons_succ, List.replicate_succ, List.replicate_zero, Nat.reduceSub, Nat.reduceAdd, Nat.reduceLeDiff, Nat.zero_add, Nat.sub_self, decide_eq_true_eq, Bool.not_eq_true', Bool.not_eq_eq_eq_not, Bool.not_true, Bool.not_false, decide_eq_false_iff_not, if_true, if_false, reduceIte, Bool.false_eq_true, true_and, and_true, decide_true, decide_false, Bool.true_eq_false, eq_self, e, e1, e2, e3, e4, e5, hm, lg2, Int.reduceLT, Int.reduceEq]
          · simp only [R_some, wb_bl, wi_int, wstr_str, wtup_tup, wlst_lst, wref_ref, wp_var0, wp_varS, wp_C, wp_Bin, wp_neg, wp_nil, wp_cons, wp_tup, wp_lst, wp_lstM, wp_Call, wp_And, wp_Or, wp_Not, wp_Test, wp_tAnd, wp_tOr, wp_tNot, wp_If, wp_Chain, wp_Skip, wp_Break, wp_Cont, wp_Never, wp_fNever, wp_Seq, wp_pfl_nx, wp_pfl_rt, wp_pfl_bk, wp_pfl_ct, wp_Expr, wp_Ret, wp_sIf, wp_Asg, wp_N, wp_gNil, wp_gCons, wp_gTup, wp_gSub, wp_Par, wp_two, wp_Run, wp_run_rt, wp_run_nx, wp_bk_nx, wp_bk_ct, wp_bk_bk, wp_bk_rt, wp_r1, wp_r2, wp_add, wp_addL, wp_addS, wp_mul, wp_fdiv, wp_mod, wp_I0, wp_eqI, wp_eqS, wp_eqB, wp_neI, wp_neS, wp_neB, wp_isN, wp_notN, isn_int, isn_non, isn_str, isn_tup, isn_lst, isn_ref, isn_bl, wp_isi, wp_someB, isi_str_str, isi_int_int, isi_int_bl, isi_bool_int, isi_bool_bl, isi_int_non, isi_int_str, isi_tuple_tup, wp_abs, wp_max2, wp_min2, wp_maxT, wp_intI, wp_intB, wp_lenS, wp_lenT, wp_lenL, wp_lenC, wp_divmod, wp_listL, wp_listT, wp_tupL, wp_tupT, wp_KIn, wp_strE, wp_Fld, wp_FldO, wp_Meth, wp_MakeF, wp_someL, wp_iR1, wp_iR2, wp_iLst, wp_iTup, wp_Prop, wp_IsC, wp_DGet1, wp_DIn, wp_gUnl, wp_DictK, wp_rep, wp_MethK, wp_CallK, wp_DispF, wp_DIx, wp_someX, wp_ixL, wp_ixT, wp_ixC, atI0, atI1, atI2, ixN0, ixN1, wp_Sl, wp_oNone, wp_oSome, wp_slC, wp_slL, wp_slS, str_eq, String.reduceEq, in_ring_crowd, in_ring_star, in_ring_pairs, in_ring_row, in_ring_ring, in_ring_core, in_ring_linked, in_ring_odd_ring, in_ring_even_ring, Bool.or_self, Bool.and_self, wp_Lc, wp_Yes, wp_pow10_9, wp_pow10_18, wp_pow10_40, wp_For, wp_sFld, wp_last, set_last, wp_KIx, wp_inT, wp_inL, eqF_str, flat_str, flat_int, flat_non, List.any_cons, List.any_nil, List.all_cons, List.all_nil, Bool.and_true, Bool.or_false, Bool.true_and, Bool.false_and, Bool.and_false, Bool.false_or, Bool.or_true, Bool.true_or, Bool.not_not, List.map_cons, List.map_nil, List.length_cons, List.length_nil, List.cons_append, List.nil_append, List.append_nil, List.set_cons_zero, List.set_cons_succ, List.replicate_succ, List.replicate_zero, Nat.reduceSub, Nat.reduceAdd, Nat.reduceLeDiff, Nat.zero_add, Nat.sub_self, decide_eq_true_eq, Bool.not_eq_true', Bool.not_eq_eq_eq_not, Bool.not_true, Bool.not_false, decide_eq_false_iff_not, if_true, if_false, reduceIte, Bool.false_eq_true, true_and, and_true, decide_true, decide_false, Bool.true_eq_false, eq_self, e, e1, e2, e3, e4, hm, lg2, Int.reduceLT, Int.reduceEq]
  · rw [hM]; exact most_star hk (by omega) (pen hn) S
  · rw [hM]; exact law_star hk (by omega) (pen hn) S
theorem p_tie {k a b : Int} (h2 : 1 ≤ k) (hk : k ≤ 100) (S : Sto) : w_is_rule_tie [.str "pairs", .int k, .int n, .int a, .int b] S = some (.bl (decide ((n : Int) < 2 * k) || (if two (k - 1) + (k - 1) * (n - k + 1) ≤ two (2 * k - 1) then decide (b < 2 * k - 1) else decide (a < k - 1))), S) := by
  have bk : Nb k := by unfold Nb; omega
  have bt : Nb 2 := by unfold Nb; omega
  have b2 : Nb (2 * k - 1) := by unfold Nb; omega
  have b3 : Nb (k - 1) := by unfold Nb; omega
  have b4 : Nb (n - k + 1) := by unfold Nb; omega
  rw [← R_eq]
  unfold w_is_rule_tie d_is_rule_tie b_is_rule_tie w_is_all_tied d_is_all_tied b_is_all_tied w_most_pairs d_most_pairs b_most_pairs
  by_cases e : (n : Int) < 2 * k
  · simp only [R_some, wb_bl, wi_int, wstr_str, wtup_tup, wlst_lst, wref_ref, wp_var0, wp_varS, wp_C, wp_Bin, wp_neg, wp_nil, wp_cons, wp_tup, wp_lst, wp_lstM, wp_Call, wp_And, wp_Or, wp_Not, wp_Test, wp_tAnd, wp_tOr, wp_tNot, wp_If, wp_Chain, wp_Skip, wp_Break, wp_Cont, wp_Never, wp_fNever, wp_Seq, wp_pfl_nx, wp_pfl_rt, wp_pfl_bk, wp_pfl_ct, wp_Expr, wp_Ret, wp_sIf, wp_Asg, wp_N, wp_gNil, wp_gCons, wp_gTup, wp_gSub, wp_Par, wp_two, wp_Run, wp_run_rt, wp_run_nx, wp_bk_nx, wp_bk_ct, wp_bk_bk, wp_bk_rt, wp_r1, wp_r2, wp_add, wp_addL, wp_addS, wp_mul, wp_fdiv, wp_mod, wp_I0, wp_eqI, wp_eqS, wp_eqB, wp_neI, wp_neS, wp_neB, wp_isN, wp_notN, isn_int, isn_non, isn_str, isn_tup, isn_lst, isn_ref, isn_bl, wp_isi, wp_someB, isi_str_str, isi_int_int, isi_int_bl, isi_bool_int, isi_bool_bl, isi_int_non, isi_int_str, isi_tuple_tup, wp_abs, wp_max2, wp_min2, wp_maxT, wp_intI, wp_intB, wp_lenS, wp_lenT, wp_lenL, wp_lenC, wp_divmod, wp_listL, wp_listT, wp_tupL, wp_tupT, wp_KIn, wp_strE, wp_Fld, wp_FldO, wp_Meth, wp_MakeF, wp_someL, wp_iR1, wp_iR2, wp_iLst, wp_iTup, wp_Prop, wp_IsC, wp_DGet1, wp_DIn, wp_gUnl, wp_DictK, wp_rep, wp_MethK, wp_CallK, wp_DispF, wp_DIx, wp_someX, wp_ixL, wp_ixT, wp_ixC, atI0, atI1, atI2, ixN0, ixN1, wp_Sl, wp_oNone, wp_oSome, wp_slC, wp_slL, wp_slS, str_eq, String.reduceEq, in_ring_crowd, in_ring_star, in_ring_pairs, in_ring_row, in_ring_ring, in_ring_core, in_ring_linked, in_ring_odd_ring, in_ring_even_ring, Bool.or_self, Bool.and_self, wp_Lc, wp_Yes, wp_pow10_9, wp_pow10_18, wp_pow10_40, wp_For, wp_sFld, wp_last, set_last, wp_KIx, wp_inT, wp_inL, eqF_str, flat_str, flat_int, flat_non, List.any_cons, List.any_nil, List.all_cons, List.all_nil, Bool.and_true, Bool.or_false, Bool.true_and, Bool.false_and, Bool.and_false, Bool.false_or, Bool.or_true, Bool.true_or, Bool.not_not, List.map_cons, List.map_nil, List.length_cons, List.length_nil, List.cons_append, List.nil_append, List.append_nil, List.set_cons_zero, List.set_cons_succ, List.replicate_succ, List.replicate_zero, Nat.reduceSub, Nat.reduceAdd, Nat.reduceLeDiff, Nat.zero_add, Nat.sub_self, decide_eq_true_eq, Bool.not_eq_true', Bool.not_eq_eq_eq_not, Bool.not_true, Bool.not_false, decide_eq_false_iff_not, if_true, if_false, reduceIte, Bool.false_eq_true, true_and, and_true, decide_true, decide_false, Bool.true_eq_false, eq_self, e, bt.sm, bk.sm]
  · by_cases e2 : two (k - 1) + (k - 1) * (n - k + 1) ≤ two (2 * k - 1)
    · simp only [R_some, wb_bl, wi_int, wstr_str, wtup_tup, wlst_lst, wref_ref, wp_var0, wp_varS, wp_C, wp_Bin, wp_neg, wp_nil, wp_cons, wp_tup, wp_lst, wp_lstM, wp_Call, wp_And, wp_Or, wp_Not, wp_Test, wp_tAnd, wp_tOr, wp_tNot, wp_If, wp_Chain, wp_Skip, wp_Break, wp_Cont, wp_Never, wp_fNever, wp_Seq, wp_pfl_nx, wp_pfl_rt, wp_pfl_bk, wp_pfl_ct, wp_Expr, wp_Ret, wp_sIf, wp_Asg, wp_N, wp_gNil, wp_gCons, wp_gTup, wp_gSub, wp_Par, wp_two, wp_Run, wp_run_rt, wp_run_nx, wp_bk_nx, wp_bk_ct, wp_bk_bk, wp_bk_rt, wp_r1, wp_r2, wp_add, wp_addL, wp_addS, wp_mul, wp_fdiv, wp_mod, wp_I0, wp_eqI, wp_eqS, wp_eqB, wp_neI, wp_neS, wp_neB, wp_isN, wp_notN, isn_int, isn_non, isn_str, isn_tup, isn_lst, isn_ref, isn_bl, wp_isi, wp_someB, isi_str_str, isi_int_int, isi_int_bl, isi_bool_int, isi_bool_bl, isi_int_non, isi_int_str, isi_tuple_tup, wp_abs, wp_max2, wp_min2, wp_maxT, wp_intI, wp_intB, wp_lenS, wp_lenT, wp_lenL, wp_lenC, wp_divmod, wp_listL, wp_listT, wp_tupL, wp_tupT, wp_KIn, wp_strE, wp_Fld, wp_FldO, wp_Meth, wp_MakeF, wp_someL, wp_iR1, wp_iR2, wp_iLst, wp_iTup, wp_Prop, wp_IsC, wp_DGet1, wp_DIn, wp_gUnl, wp_DictK, wp_rep, wp_MethK, wp_CallK, wp_DispF, wp_DIx, wp_someX, wp_ixL, wp_ixT, wp_ixC, atI0, atI1, atI2, ixN0, ixN1, wp_Sl, wp_oNone, wp_oSome, wp_slC, wp_slL, wp_slS, str_eq, String.reduceEq, in_ring_crowd, in_ring_star, in_ring_pairs, in_ring_row, in_ring_ring, in_ring_core, in_ring_linked, in_ring_odd_ring, in_ring_even_ring, Bool.or_self, Bool.and_self, wp_Lc, wp_Yes, wp_pow10_9, wp_pow10_18, wp_pow10_40, wp_For, wp_sFld, wp_last, set_last, wp_KIx, wp_inT, wp_inL, eqF_str, flat_str, flat_int, flat_non, List.any_cons, List.any_nil, List.all_cons, List.all_nil, Bool.and_true, Bool.or_false, Bool.true_and, Bool.false_and, Bool.and_false, Bool.false_or, Bool.or_true, Bool.true_or, Bool.not_not, List.map_cons, List.map_nil, List.length_cons, List.length_nil, List.cons_append, List.nil_append, List.append_nil, List.set_cons_zero, List.set_cons_succ, List.replicate_succ, List.replicate_zero, Nat.reduceSub, Nat.reduceAdd, Nat.reduceLeDiff, Nat.zero_add, Nat.sub_self, decide_eq_true_eq, Bool.not_eq_true', Bool.not_eq_eq_eq_not, Bool.not_true, Bool.not_false, decide_eq_false_iff_not, if_true, if_false, reduceIte, Bool.false_eq_true, true_and, and_true, decide_true, decide_false, Bool.true_eq_false, eq_self, e, e2, bt.sm, bk.sm, b3.sm, b4.sm, eq_R (pairs_eq b2 _), eq_R (pairs_eq b3 _)]
    · simp only [R_some, wb_bl, wi_int, wstr_str, wtup_tup, wlst_lst, wref_ref, wp_var0, wp_varS, wp_C, wp_Bin, wp_neg, wp_nil, wp_cons, wp_tup, wp_lst, wp_lstM, wp_Call, wp_And, wp_Or, wp_Not, wp_Test, wp_tAnd, wp_tOr, wp_tNot, wp_If, wp_Chain, wp_Skip, wp_Break, wp_Cont, wp_Never, wp_fNever, wp_Seq, wp_pfl_nx, wp_pfl_rt, wp_pfl_bk, wp_pfl_ct, wp_Expr, wp_Ret, wp_sIf, wp_Asg, wp_N, wp_gNil, wp_gCons, wp_gTup, wp_gSub, wp_Par, wp_two, wp_Run, wp_run_rt, wp_run_nx, wp_bk_nx, wp_bk_ct, wp_bk_bk, wp_bk_rt, wp_r1, wp_r2, wp_add, wp_addL, wp_addS, wp_mul, wp_fdiv, wp_mod, wp_I0, wp_eqI, wp_eqS, wp_eqB, wp_neI, wp_neS, wp_neB, wp_isN, wp_notN, isn_int, isn_non, isn_str, isn_tup, isn_lst, isn_ref, isn_bl, wp_isi, wp_someB, isi_str_str, isi_int_int, isi_int_bl, isi_bool_int, isi_bool_bl, isi_int_non, isi_int_str, isi_tuple_tup, wp_abs, wp_max2, wp_min2, wp_maxT, wp_intI, wp_intB, wp_lenS, wp_lenT, wp_lenL, wp_lenC, wp_divmod, wp_listL, wp_listT, wp_tupL, wp_tupT, wp_KIn, wp_strE, wp_Fld, wp_FldO, wp_Meth, wp_MakeF, wp_someL, wp_iR1, wp_iR2, wp_iLst, wp_iTup, wp_Prop, wp_IsC, wp_DGet1, wp_DIn, wp_gUnl, wp_DictK, wp_rep, wp_MethK, wp_CallK, wp_DispF, wp_DIx, wp_someX, wp_ixL, wp_ixT, wp_ixC, atI0, atI1, atI2, ixN0, ixN1, wp_Sl, wp_oNone, wp_oSome, wp_slC, wp_slL, wp_slS, str_eq, String.reduceEq, in_ring_crowd, in_ring_star, in_ring_pairs, in_ring_row, in_ring_ring, in_ring_core, in_ring_linked, in_ring_odd_ring, in_ring_even_ring, Bool.or_self, Bool.and_self, wp_Lc, wp_Yes, wp_pow10_9, wp_pow10_18, wp_pow10_40, wp_For, wp_sFld, wp_last, set_last, wp_KIx, wp_inT, wp_inL, eqF_str, flat_str, flat_int, flat_non, List.any_cons, List.any_nil, List.all_cons, List.all_nil, Bool.and_true, Bool.or_false, Bool.true_and, Bool.false_and, Bool.and_false, Bool.false_or, Bool.or_true, Bool.true_or, Bool.not_not, List.map_cons, List.map_nil, List.length_cons, List.length_nil, List.cons_append, List.nil_append, List.append_nil, List.set_cons_zero, List.set_cons_succ, List.replicate_succ, List.replicate_zero, Nat.reduceSub, Nat.reduceAdd, Nat.reduceLeDiff, Nat.zero_add, Nat.sub_self, decide_eq_true_eq, Bool.not_eq_true', Bool.not_eq_eq_eq_not, Bool.not_true, Bool.not_false, decide_eq_false_iff_not, if_true, if_false, reduceIte, Bool.false_eq_true, true_and, and_true, decide_true, decide_false, Bool.true_eq_false, eq_self, e, e2, bt.sm, bk.sm, b3.sm, b4.sm, eq_R (pairs_eq b2 _), eq_R (pairs_eq b3 _)]
theorem k_pairs : ∃ t, K39 "pairs" (.int ((m : Int) + 1)) n t := by
  have hk : Pe ((m : Int) + 1) := by unfold Pe; omega
  have mk := mk_num (n := (m : Int) + 1) lk_pairs (by omega) (by omega)
  have h1 := most_pairs hk (by omega) (pen hn)
  have h2 := law_pairs hk (by omega) (pen hn)
  have ht := fun a b => p_tie (k := (m : Int) + 1) (a := a) (b := b) hn hm (by omega) (by omega)
  have hM : mPairs ((m : Int) + 1) n = if (n : Int) < 2 * ((m : Int) + 1) then two n else if two ((m : Int) + 1 - 1) + ((m : Int) + 1 - 1) * (n - ((m : Int) + 1) + 1) > two (2 * ((m : Int) + 1) - 1) then two ((m : Int) + 1 - 1) + ((m : Int) + 1 - 1) * (n - ((m : Int) + 1) + 1) else two (2 * ((m : Int) + 1) - 1) := rfl
  by_cases q : (n : Int) < 2 * ((m : Int) + 1)
  · rw [if_pos q] at hM
    have hc : ((cnt F9 (prsF 0 n) : Nat) : Int) = two n := colsB_ok e9 hn
    rw [hM, ← hc] at h1 h2
    refine ⟨F9, mk, fun a b _ _ S => ?_, h1, h2⟩
    rw [ht, decide_eq_true q]
    rfl
  · rw [if_neg q] at hM
    by_cases c : two ((m : Int) + 1 - 1) + ((m : Int) + 1 - 1) * (n - ((m : Int) + 1) + 1) ≤ two (2 * ((m : Int) + 1) - 1)
    · rw [if_neg (by omega)] at hM
      have hc : ((cnt (F6 (2 * m + 1)) (prsF 0 n) : Nat) : Int) = n6 ((2 * m + 1 : Nat) : Int) n := colsB_ok (all_r e6 (show 2 * m + 1 < 84 by omega)) hn
      have hc2 : n6 ((2 * m + 1 : Nat) : Int) n = two (2 * ((m : Int) + 1) - 1) := by
        show (if (n : Int) ≤ _ then _ else two _) = _
        rw [if_neg (by omega)]
        congr 1
        omega
      rw [hM, ← hc2, ← hc] at h1 h2
      refine ⟨F6 (2 * m + 1), mk, fun a b _ _ S => ?_, h1, h2⟩
      rw [ht, decide_eq_false q, if_pos c, Bool.false_or]
      show _ = some (D.bl (Nat.blt b (2 * m + 1)), S)
      rw [← ltI, show (2 * ((m : Int) + 1) - 1) = ((2 * m + 1 : Nat) : Int) by omega]
    · rw [if_pos (by omega)] at hM
      have hc : ((cnt (F5 m) (prsF 0 n) : Nat) : Int) = n5 (m : Int) n := colsB_ok (all_r e5 hm) hn
      have hc2 : n5 (m : Int) n = two ((m : Int) + 1 - 1) + ((m : Int) + 1 - 1) * (n - ((m : Int) + 1) + 1) := by
        show (if (n : Int) ≤ _ then _ else two _ + _ * _) = _
        rw [if_neg (by omega), show (m : Int) + 1 - 1 = m by omega, show (n : Int) - ((m : Int) + 1) + 1 = n - m by omega]
      rw [hM, ← hc2, ← hc] at h1 h2
      refine ⟨F5 m, mk, fun a b _ _ S => ?_, h1, h2⟩
      rw [ht, decide_eq_false q, if_neg c, Bool.false_or]
      show _ = some (D.bl (Nat.blt a m), S)
      rw [← ltI, show (m : Int) + 1 - 1 = (m : Int) by omega]
end
end LW

namespace LW
open PySem PySem.Spec PyProof.Rows L2 DL
def pD2 (p : Nat × Nat) : D := .tup [.int (p.1 : Int), .int (p.2 : Int)]
theorem all_eq (S : Sto) : ∀ (n : Nat), n ≤ 40 → w__law_all [.int (n : Int)] S = some (.tup ((prsF 0 n).map pD2), S)
  | 0, _ => by kernel_rfl
  | 1, _ => by kernel_rfl
  | 2, _ => by kernel_rfl
  | 3, _ => by kernel_rfl
  | 4, _ => by kernel_rfl
  | 5, _ => by kernel_rfl
  | 6, _ => by kernel_rfl
  | 7, _ => by kernel_rfl
  | 8, _ => by kernel_rfl
  | 9, _ => by kernel_rfl
  | 10, _ => by kernel_rfl
  | 11, _ => by kernel_rfl
  | 12, _ => by kernel_rfl
  | 13, _ => by kernel_rfl
  | 14, _ => by kernel_rfl
  | 15, _ => by kernel_rfl
  | 16, _ => by kernel_rfl
  | 17, _ => by kernel_rfl
  | 18, _ => by kernel_rfl
  | 19, _ => by kernel_rfl
  | 20, _ => by kernel_rfl
  | 21, _ => by kernel_rfl
  | 22, _ => by kernel_rfl
  | 23, _ => by kernel_rfl
  | 24, _ => by kernel_rfl
  | 25, _ => by kernel_rfl
  | 26, _ => by kernel_rfl
  | 27, _ => by kernel_rfl
  | 28, _ => by kernel_rfl
  | 29, _ => by kernel_rfl
  | 30, _ => by kernel_rfl
  | 31, _ => by kernel_rfl
  | 32, _ => by kernel_rfl
  | 33, _ => by kernel_rfl
  | 34, _ => by kernel_rfl
  | 35, _ => by kernel_rfl
  | 36, _ => by kernel_rfl
  | 37, _ => by kernel_rfl
  | 38, _ => by kernel_rfl
  | 39, _ => by kernel_rfl
  | 40, _ => by kernel_rfl
  | n + 41, h => absurd h (by omega)
end LW

namespace LW
open PySem PySem.Spec PyProof.Rows L2 DL
theorem two_ok {a b n : Int} (ha : 0 ≤ a) (ha2 : a < n) (hb : 0 ≤ b) (hb2 : b < n) (hne : a ≠ b) (S : Sto) : w_check_two [.int a, .int b, .int n] S = some (.non, S) := by
  rw [← R_eq]
  unfold w_check_two d_check_two b_check_two
  have h1 : (decide (0 ≤ a) && decide (a ≤ n - 1)) = true := by simp; omega
  have h2 : (decide (0 ≤ b) && decide (b ≤ n - 1)) = true := by simp; omega
  have h3 : ¬ b = a := fun h => hne h.symm
  simp only [R_some, wb_bl, wi_int, wstr_str, wtup_tup, wlst_lst, wref_ref, wp_var0, wp_varS, wp_C, wp_Bin, wp_neg, wp_nil, wp_cons, wp_tup, wp_lst, wp_lstM, wp_Call, wp_And, wp_Or, wp_Not, wp_Test, wp_tAnd, wp_tOr, wp_tNot, wp_If, wp_Chain, wp_Skip, wp_Break, wp_Cont, wp_Never, wp_fNever, wp_Seq, wp_pfl_nx, wp_pfl_rt, wp_pfl_bk, wp_pfl_ct, wp_Expr, wp_Ret, wp_sIf, wp_Asg, wp_N, wp_gNil, wp_gCons, wp_gTup, wp_gSub, wp_Par, wp_two, wp_Run, wp_run_rt, wp_run_nx, wp_bk_nx, wp_bk_ct, wp_bk_bk, wp_bk_rt, wp_r1, wp_r2, wp_add, wp_addL, wp_addS, wp_mul, wp_fdiv, wp_mod, wp_I0, wp_eqI, wp_eqS, wp_eqB, wp_neI, wp_neS, wp_neB, wp_isN, wp_notN, isn_int, isn_non, isn_str, isn_tup, isn_lst, isn_ref, isn_bl, wp_isi, wp_someB, isi_str_str, isi_int_int, isi_int_bl, isi_bool_int, isi_bool_bl, isi_int_non, isi_int_str, isi_tuple_tup, wp_abs, wp_max2, wp_min2, wp_maxT, wp_intI, wp_intB, wp_lenS, wp_lenT, wp_lenL, wp_lenC, wp_divmod, wp_listL, wp_listT, wp_tupL, wp_tupT, wp_KIn, wp_strE, wp_Fld, wp_FldO, wp_Meth, wp_MakeF, wp_someL, wp_iR1, wp_iR2, wp_iLst, wp_iTup, wp_Prop, wp_IsC, wp_DGet1, wp_DIn, wp_gUnl, wp_DictK, wp_rep, wp_MethK, wp_CallK, wp_DispF, wp_DIx, wp_someX, wp_ixL, wp_ixT, wp_ixC, atI0, atI1, atI2, ixN0, ixN1, wp_Sl, wp_oNone, wp_oSome, wp_slC, wp_slL, wp_slS, str_eq, String.reduceEq, in_ring_crowd, in_ring_star, in_ring_pairs, in_ring_row, in_ring_ring, in_ring_core, in_ring_linked, in_ring_odd_ring, in_ring_even_ring, Bool.or_self, Bool.and_self, wp_Lc, wp_Yes, wp_pow10_9, wp_pow10_18, wp_pow10_40, wp_For, wp_sFld, wp_last, set_last, wp_KIx, wp_inT, wp_inL, eqF_str, flat_str, flat_int, flat_non, List.any_cons, List.any_nil, List.all_cons, List.all_nil, Bool.and_true, Bool.or_false, Bool.true_and, Bool.false_and, Bool.and_false, Bool.false_or, Bool.or_true, Bool.true_or, Bool.not_not, List.map_cons, List.map_nil, List.length_cons, List.length_nil, List.cons_append, List.nil_append, List.append_nil, List.set_cons_zero, List.set_cons_succ, List.replicate_succ, List.replicate_zero, Nat.reduceSub, Nat.reduceAdd, Nat.reduceLeDiff, Nat.zero_add, Nat.sub_self, decide_eq_true_eq, Bool.not_eq_true', Bool.not_eq_eq_eq_not, Bool.not_true, Bool.not_false, decide_eq_false_iff_not, if_true, if_false, reduceIte, Bool.false_eq_true, true_and, and_true, decide_true, decide_false, Bool.true_eq_false, eq_self, eq_R (between_int _ _ _ _), h1, h2, h3]
theorem hf_tied : hasF ["word", "many"] "tied" = false := by decide +kernel
theorem tied_eq {kd : Str} {x : D} {n a b : Int} {t : Bool} (hn : Pe n) (h0 : 0 ≤ a) (h1 : a < b) (h3 : b < n) {S : Sto} (h : w_is_rule_tie [.str kd, x, .int n, .int a, .int b] S = some (.bl t, S)) :
    w_Thing_tied [thing kd x, .int n, .int a, .int b] S = some (.bl t, S) ∧ w_Thing_tied [thing kd x, .int n, .int b, .int a] S = some (.bl t, S) := by
  unfold Pe at hn
  refine ⟨?_, ?_⟩
  · rw [← R_eq]
    unfold w_Thing_tied d_Thing_tied b_Thing_tied
    simp only [R_some, wb_bl, wi_int, wstr_str, wtup_tup, wlst_lst, wref_ref, wp_var0, wp_varS, wp_C, wp_Bin, wp_neg, wp_nil, wp_cons, wp_tup, wp_lst, wp_lstM, wp_Call, wp_And, wp_Or, wp_Not, wp_Test, wp_tAnd, wp_tOr, wp_tNot, wp_If, wp_Chain, wp_Skip, wp_Break, wp_Cont, wp_Never, wp_fNever, wp_Seq, wp_pfl_nx, wp_pfl_rt, wp_pfl_bk, wp_pfl_ct, wp_Expr, wp_Ret, wp_sIf, wp_Asg, wp_N, wp_gNil, wp_gCons, wp_gTup, wp_gSub, wp_Par, wp_two, wp_Run, wp_run_rt, wp_run_nx, wp_bk_nx, wp_bk_ct, wp_bk_bk, wp_bk_rt, wp_r1, wp_r2, wp_add, wp_addL, wp_addS, wp_mul, wp_fdiv, wp_mod, wp_I0, wp_eqI, wp_eqS, wp_eqB, wp_neI, wp_neS, wp_neB, wp_isN, wp_notN, isn_int, isn_non, isn_str, isn_tup, isn_lst, isn_ref, isn_bl, wp_isi, wp_someB, isi_str_str, isi_int_int, isi_int_bl, isi_bool_int, isi_bool_bl, isi_int_non, isi_int_str, isi_tuple_tup, wp_abs, wp_max2, wp_min2, wp_maxT, wp_intI, wp_intB, wp_lenS, wp_lenT, wp_lenL, wp_lenC, wp_divmod, wp_listL, wp_listT, wp_tupL, wp_tupT, wp_KIn, wp_strE, wp_Fld, wp_FldO, wp_Meth, wp_MakeF, wp_someL, wp_iR1, wp_iR2, wp_iLst, wp_iTup, wp_Prop, wp_IsC, wp_DGet1, wp_DIn, wp_gUnl, wp_DictK, wp_rep, wp_MethK, wp_CallK, wp_DispF, wp_DIx, wp_someX, wp_ixL, wp_ixT, wp_ixC, atI0, atI1, atI2, ixN0, ixN1, wp_Sl, wp_oNone, wp_oSome, wp_slC, wp_slL, wp_slS, str_eq, String.reduceEq, in_ring_crowd, in_ring_star, in_ring_pairs, in_ring_row, in_ring_ring, in_ring_core, in_ring_linked, in_ring_odd_ring, in_ring_even_ring, Bool.or_self, Bool.and_self, wp_Lc, wp_Yes, wp_pow10_9, wp_pow10_18, wp_pow10_40, wp_For, wp_sFld, wp_last, set_last, wp_KIx, wp_inT, wp_inL, eqF_str, flat_str, flat_int, flat_non, List.any_cons, List.any_nil, List.all_cons, List.all_nil, Bool.and_true, Bool.or_false, Bool.true_and, Bool.false_and, Bool.and_false, Bool.false_or, Bool.or_true, Bool.true_or, Bool.not_not, List.map_cons, List.map_nil, List.length_cons, List.length_nil, List.cons_append, List.nil_append, List.append_nil, List.set_cons_zero, List.set_cons_succ, List.replicate_succ, List.replicate_zero, Nat.reduceSub, Nat.reduceAdd, Nat.reduceLeDiff, Nat.zero_add, Nat.sub_self, decide_eq_true_eq, Bool.not_eq_true', Bool.not_eq_eq_eq_not, Bool.not_true, Bool.not_false, decide_eq_false_iff_not, if_true, if_false, reduceIte, Bool.false_eq_true, true_and, and_true, decide_true, decide_false, Bool.true_eq_false, eq_self, eq_R (check_eq hn.1 hn.2 _), eq_R (two_ok h0 (by omega) (by omega) h3 (by omega) _), wp_getF word_fld, wp_getF many_fld, show ¬ b < a by omega, show b > a by omega, eq_R h]
  · rw [← R_eq]
    unfold w_Thing_tied d_Thing_tied b_Thing_tied
    simp only [R_some, wb_bl, wi_int, wstr_str, wtup_tup, wlst_lst, wref_ref, wp_var0, wp_varS, wp_C, wp_Bin, wp_neg, wp_nil, wp_cons, wp_tup, wp_lst, wp_lstM, wp_Call, wp_And, wp_Or, wp_Not, wp_Test, wp_tAnd, wp_tOr, wp_tNot, wp_If, wp_Chain, wp_Skip, wp_Break, wp_Cont, wp_Never, wp_fNever, wp_Seq, wp_pfl_nx, wp_pfl_rt, wp_pfl_bk, wp_pfl_ct, wp_Expr, wp_Ret, wp_sIf, wp_Asg, wp_N, wp_gNil, wp_gCons, wp_gTup, wp_gSub, wp_Par, wp_two, wp_Run, wp_run_rt, wp_run_nx, wp_bk_nx, wp_bk_ct, wp_bk_bk, wp_bk_rt, wp_r1, wp_r2, wp_add, wp_addL, wp_addS, wp_mul, wp_fdiv, wp_mod, wp_I0, wp_eqI, wp_eqS, wp_eqB, wp_neI, wp_neS, wp_neB, wp_isN, wp_notN, isn_int, isn_non, isn_str, isn_tup, isn_lst, isn_ref, isn_bl, wp_isi, wp_someB, isi_str_str, isi_int_int, isi_int_bl, isi_bool_int, isi_bool_bl, isi_int_non, isi_int_str, isi_tuple_tup, wp_abs, wp_max2, wp_min2, wp_maxT, wp_intI, wp_intB, wp_lenS, wp_lenT, wp_lenL, wp_lenC, wp_divmod, wp_listL, wp_listT, wp_tupL, wp_tupT, wp_KIn, wp_strE, wp_Fld, wp_FldO, wp_Meth, wp_MakeF, wp_someL, wp_iR1, wp_iR2, wp_iLst, wp_iTup, wp_Prop, wp_IsC, wp_DGet1, wp_DIn, wp_gUnl, wp_DictK, wp_rep, wp_MethK, wp_CallK, wp_DispF, wp_DIx, wp_someX, wp_ixL, wp_ixT, wp_ixC, atI0, atI1, atI2, ixN0, ixN1, wp_Sl, wp_oNone, wp_oSome, wp_slC, wp_slL, wp_slS, str_eq, String.reduceEq, in_ring_crowd, in_ring_star, in_ring_pairs, in_ring_row, in_ring_ring, in_ring_core, in_ring_linked, in_ring_odd_ring, in_ring_even_ring, Bool.or_self, Bool.and_self, wp_Lc, wp_Yes, wp_pow10_9, wp_pow10_18, wp_pow10_40, wp_For, wp_sFld, wp_last, set_last, wp_KIx, wp_inT, wp_inL, eqF_str, flat_str, flat_int, flat_non, List.any_cons, List.any_nil, List.all_cons, List.all_nil, Bool.and_true, Bool.or_false, Bool.true_and, Bool.false_and, Bool.and_false, Bool.false_or, Bool.or_true, Bool.true_or, Bool.not_not, List.map_cons, List.map_nil, List.length_cons, List.length_nil, List.cons_append, List.nil_append, List.append_nil, List.set_cons_zero, List.set_cons_succ, List.replicate_succ, List.replicate_zero, Nat.reduceSub, Nat.reduceAdd, Nat.reduceLeDiff, Nat.zero_add, Nat.sub_self, decide_eq_true_eq, Bool.not_eq_true', Bool.not_eq_eq_eq_not, Bool.not_true, Bool.not_false, decide_eq_false_iff_not, if_true, if_false, reduceIte, Bool.false_eq_true, true_and, and_true, decide_true, decide_false, Bool.true_eq_false, eq_self, eq_R (check_eq hn.1 hn.2 _), eq_R (two_ok (n := n) (show 0 ≤ b by omega) h3 h0 (by omega) (by omega) _), wp_getF word_fld, wp_getF many_fld, show a < b by omega, show ¬ a > b by omega, eq_R h]
def cD (cs : List Nat) : List D := cs.map fun c : Nat => D.int (c : Int)
theorem cD_len {cs : List Nat} : (cD cs).length = cs.length := List.length_map ..
theorem ix_cell {S : Sto} {cs : List Nat} {a : Nat} (h : a < cs.length) {P : D → Sto → Prop} : R (gIx (.ref S.length) (.int (a : Int)) (S ++ [.lst (cD cs)])) P ↔ P (.int (cs.getD a 0 : Nat)) (S ++ [.lst (cD cs)]) := by
  have e : gIx (.ref S.length) (.int (a : Int)) (S ++ [.lst (cD cs)]) = some (.int (cs.getD a 0 : Nat), S ++ [.lst (cD cs)]) := by
    have e0 : (S ++ [Cell.lst (cD cs)])[S.length]? = some (.lst (cD cs)) := by simp
    unfold gIx
    simp only [e0]
    have e1 : atI (cD cs) (a : Int) = some (.int (cs.getD a 0 : Nat)) := by
      unfold atI ixN
      rw [cD_len, if_pos (by omega), if_pos (by omega)]
      show (cD cs)[(a : Int).toNat]? = _
      rw [Int.toNat_natCast]
      unfold cD
      rw [List.getElem?_map, List.getElem?_eq_getElem h, List.getD_eq_getElem?_getD, List.getElem?_eq_getElem h]
      rfl
    show (atI (cD cs) (a : Int)).map _ = _
    rw [e1]
    rfl
  rw [eq_R e]
theorem set_cell {S : Sto} {cs : List Nat} {a c : Nat} (h : a < cs.length) {Q : Sto → Prop} : RU (gSetA (.ref S.length) (.int (a : Int)) (.int (c : Nat)) (S ++ [.lst (cD cs)])) Q ↔ Q (S ++ [.lst (cD (cs.set a c))]) := by
  have e : gSetA (.ref S.length) (.int (a : Int)) (.int (c : Nat)) (S ++ [.lst (cD cs)]) = some (S ++ [.lst (cD (cs.set a c))]) := by
    have e0 : (S ++ [Cell.lst (cD cs)])[S.length]? = some (.lst (cD cs)) := by simp
    unfold gSetA
    simp only [e0]
    show (ixN (cD cs).length (a : Int)).map _ = _
    have e1 : ixN (cD cs).length (a : Int) = some a := by
      unfold ixN
      rw [cD_len, if_pos (by omega), if_pos (by omega), Int.toNat_natCast]
    rw [e1]
    show some ((S ++ [Cell.lst (cD cs)]).set S.length _) = _
    rw [app_set rfl]
    unfold cD
    rw [List.map_set]
  rw [e, RU]
  exact ⟨fun ⟨a, q, p⟩ => by cases q; exact p, fun q => ⟨_, rfl, q⟩⟩
theorem loop_ok {kd : Str} {x : D} {n : Nat} {t : Nat → Nat → Bool} (hn : n ≤ 40) (K : K39 kd x n t) {S : Sto} {e0 e1 e3 e4 : Option D} {PS : Fl → Sto → Prop} {e10 e11 : Option D}
    (hP : ∀ e10 e11, PS (.nx [e0, e1, some (.str kd), e3, e4, some x, some (thing kd x), some (.int (n : Int)), some (.ref S.length), some (.int ((fin t n).1 : Nat)), e10, e11]) (S ++ [.lst (cD (fin t n).2)])) :
    R (forD (DL.gTup 2 (DL.gCons (gN 10) (DL.gCons (gN 11) DL.gNil))) (sSeq (sIf (fTest (fBin gNe (fMeth "Thing" "tied" w_Thing_tied (fVar 6) (fCons (fVar 7) (fCons (fVar 11) (fCons (fVar 10) fNil)))) (fMeth "Thing" "tied" w_Thing_tied (fVar 6) (fCons (fVar 7) (fCons (fVar 10) (fCons (fVar 11) fNil)))))) (sRet (fC (.bl false))) sSkip)
    (sIf (fTest (fMeth "Thing" "tied" w_Thing_tied (fVar 6) (fCons (fVar 7) (fCons (fVar 10) (fCons (fVar 11) fNil))))) (sSeq (sAsg (fBin gAdd (fVar 9) (fC (.int 1))) (gN 9))
    (sSeq (sAsg (fBin gAdd (fBin gIx (fVar 8) (fVar 10)) (fC (.int 1))) (gSub gSetA (fVar 8) (fVar 10)))
    (sAsg (fBin gAdd (fBin gIx (fVar 8) (fVar 11)) (fC (.int 1))) (gSub gSetA (fVar 8) (fVar 11))))) sSkip)) ((prsF 0 n).map pD2)
      [e0, e1, some (.str kd), e3, e4, some x, some (thing kd x), some (.int (n : Int)), some (.ref S.length), some (.int 0), e10, e11] (S ++ [.lst (cD (List.replicate n 0))])) PS := by
  refine r_forD (fun idx env S2 => ∃ st, st = ((prsF 0 n).take idx).foldl (stp t) (0, List.replicate n 0) ∧ S2 = S ++ [.lst (cD st.2)] ∧ ∃ e10 e11, env = [e0, e1, some (.str kd), e3, e4, some x, some (thing kd x), some (.int (n : Int)), some (.ref S.length), some (.int (st.1 : Nat)), e10, e11]) ⟨_, rfl, rfl, _, _, rfl⟩ ?_ ?_
  · rintro idx d env S2 hd ⟨st, hst, rfl, e10, e11, rfl⟩
    rw [List.getElem?_map] at hd
    obtain ⟨p, hp, rfl⟩ := Option.map_eq_some_iff.mp hd
    have hm := prs_mem (List.mem_of_getElem? hp)
    have hnx : ((prsF 0 n).take (idx + 1)).foldl (stp t) (0, List.replicate n 0) = stp t st p := by
      rw [List.take_add_one, hp, List.foldl_append, ← hst]
      rfl
    have hlen : st.2.length = n := by
      rw [hst]
      exact (fold_ok (fun z hz => by have := prs_mem (List.mem_of_mem_take hz); omega) List.length_replicate fun v => rep_at).2.1
    obtain ⟨a, b⟩ := p
    have hm : 0 ≤ a ∧ a < b ∧ b < 0 + n := hm
    have T := fun S => tied_eq (S := S) (pen hn) (show (0 : Int) ≤ (a : Nat) by omega) (show ((a : Nat) : Int) < (b : Nat) by omega) (show ((b : Nat) : Int) < (n : Nat) by omega) (K.tie a b hm.2.1 (by omega) S)
    unfold pD2
    cases ht : t a b with
    | false =>
      rw [ht] at T
      have e : stp t st (a, b) = st := by unfold stp; rw [ht]; rfl
      simp only [R_some, wb_bl, wi_int, wstr_str, wtup_tup, wlst_lst, wref_ref, wp_var0, wp_varS, wp_C, wp_Bin, wp_neg, wp_nil, wp_cons, wp_tup, wp_lst, wp_lstM, wp_Call, wp_And, wp_Or, wp_Not, wp_Test, wp_tAnd, wp_tOr, wp_tNot, wp_If, wp_Chain, wp_Skip, wp_Break, wp_Cont, wp_Never, wp_fNever, wp_Seq, wp_pfl_nx, wp_pfl_rt, wp_pfl_bk, wp_pfl_ct, wp_Expr, wp_Ret, wp_sIf, wp_Asg, wp_N, wp_gNil, wp_gCons, wp_gTup, wp_gSub, wp_Par, wp_two, wp_Run, wp_run_rt, wp_run_nx, wp_bk_nx, wp_bk_ct, wp_bk_bk, wp_bk_rt, wp_r1, wp_r2, wp_add, wp_addL, wp_addS, wp_mul, wp_fdiv, wp_mod, wp_I0, wp_eqI, wp_eqS, wp_eqB, wp_neI, wp_neS, wp_neB, wp_isN, wp_notN, isn_int, isn_non, isn_str, isn_tup, isn_lst, isn_ref, isn_bl, wp_isi, wp_someB, isi_str_str, isi_int_int, isi_int_bl, isi_bool_int, isi_bool_bl, isi_int_non, isi_int_str, isi_tuple_tup, wp_abs, wp_max2, wp_min2, wp_maxT, wp_intI, wp_intB, wp_lenS, wp_lenT, wp_lenL, wp_lenC, wp_divmod, wp_listL, wp_listT, wp_tupL, wp_tupT, wp_KIn, wp_strE, wp_Fld, wp_FldO, wp_Meth, wp_MakeF, wp_someL, wp_iR1, wp_iR2, wp_iLst, wp_iTup, wp_Prop, wp_IsC, wp_DGet1, wp_DIn, wp_gUnl, wp_DictK, wp_rep, wp_MethK, wp_CallK, wp_DispF, wp_DIx, wp_someX, wp_ixL, wp_ixT, wp_ixC, atI0, atI1, atI2, ixN0, ixN1, wp_Sl, wp_oNone, wp_oSome, wp_slC, wp_slL, wp_slS, str_eq, String.reduceEq, in_ring_crowd, in_ring_star, in_ring_pairs, in_ring_row, in_ring_ring, in_ring_core, in_ring_linked, in_ring_odd_ring, in_ring_even_ring, Bool.or_self, Bool.and_self, wp_Lc, wp_Yes, wp_pow10_9, wp_pow10_18, wp_pow10_40, wp_For, wp_sFld, wp_last, set_last, wp_KIx, wp_inT, wp_inL, eqF_str, flat_str, flat_int, flat_non, List.any_cons, List.any_nil, List.all_cons, List.all_nil, Bool.and_true, Bool.or_false, Bool.true_and, Bool.false_and, Bool.and_false, Bool.false_or, Bool.or_true, Bool.true_or, Bool.not_not, List.map_cons, List.map_nil, List.length_cons, List.length_nil, List.cons_append, List.nil_append, List.append_nil, List.set_cons_zero, List.set_cons_succ, List.replicate_succ, List.replicate_zero, Nat.reduceSub, Nat.reduceAdd, Nat.reduceLeDiff, Nat.zero_add, Nat.sub_self, decide_eq_true_eq, Bool.not_eq_true', Bool.not_eq_eq_eq_not, Bool.not_true, Bool.not_false, decide_eq_false_iff_not, if_true, if_false, reduceIte, Bool.false_eq_true, true_and, and_true, decide_true, decide_false, Bool.true_eq_false, eq_self, ins_thing hf_tied, eq_R (T _).1, eq_R (T _).2]
      exact ⟨_, hnx.symm, by rw [e], _, _, by rw [e]⟩
    | true =>
      rw [ht] at T
      have e : stp t st (a, b) = (st.1 + 1, bmp (bmp st.2 a) b) := by unfold stp; rw [ht]; rfl
      simp only [R_some, wb_bl, wi_int, wstr_str, wtup_tup, wlst_lst, wref_ref, wp_var0, wp_varS, wp_C, wp_Bin, wp_neg, wp_nil, wp_cons, wp_tup, wp_lst, wp_lstM, wp_Call, wp_And, wp_Or, wp_Not, wp_Test, wp_tAnd, wp_tOr, wp_tNot, wp_If, wp_Chain, wp_Skip, wp_Break, wp_Cont, wp_Never, wp_fNever, wp_Seq, wp_pfl_nx, wp_pfl_rt, wp_pfl_bk, wp_pfl_ct, wp_Expr, wp_Ret, wp_sIf, wp_Asg, wp_N, wp_gNil, wp_gCons, wp_gTup, wp_gSub, wp_Par, wp_two, wp_Run, wp_run_rt, wp_run_nx, wp_bk_nx, wp_bk_ct, wp_bk_bk, wp_bk_rt, wp_r1, wp_r2, wp_add, wp_addL, wp_addS, wp_mul, wp_fdiv, wp_mod, wp_I0, wp_eqI, wp_eqS, wp_eqB, wp_neI, wp_neS, wp_neB, wp_isN, wp_notN, isn_int, isn_non, isn_str, isn_tup, isn_lst, isn_ref, isn_bl, wp_isi, wp_someB, isi_str_str, isi_int_int, isi_int_bl, isi_bool_int, isi_bool_bl, isi_int_non, isi_int_str, isi_tuple_tup, wp_abs, wp_max2, wp_min2, wp_maxT, wp_intI, wp_intB, wp_lenS, wp_lenT, wp_lenL, wp_lenC, wp_divmod, wp_listL, wp_listT, wp_tupL, wp_tupT, wp_KIn, wp_strE, wp_Fld, wp_FldO, wp_Meth, wp_MakeF, wp_someL, wp_iR1, wp_iR2, wp_iLst, wp_iTup, wp_Prop, wp_IsC, wp_DGet1, wp_DIn, wp_gUnl, wp_DictK, wp_rep, wp_MethK, wp_CallK, wp_DispF, wp_DIx, wp_someX, wp_ixL, wp_ixT, wp_ixC, atI0, atI1, atI2, ixN0, ixN1, wp_Sl, wp_oNone, wp_oSome, wp_slC, wp_slL, wp_slS, str_eq, String.reduceEq, in_ring_crowd, in_ring_star, in_ring_pairs, in_ring_row, in_ring_ring, in_ring_core, in_ring_linked, in_ring_odd_ring, in_ring_even_ring, Bool.or_self, Bool.and_self, wp_Lc, wp_Yes, wp_pow10_9, wp_pow10_18, wp_pow10_40, wp_For, wp_sFld, wp_last, set_last, wp_KIx, wp_inT, wp_inL, eqF_str, flat_str, flat_int, flat_non, List.any_cons, List.any_nil, List.all_cons, List.all_nil, Bool.and_true, Bool.or_false, Bool.true_and, Bool.false_and, Bool.and_false, Bool.false_or, Bool.or_true, Bool.true_or, Bool.not_not, List.map_cons, List.map_nil, List.length_cons, List.length_nil, List.cons_append, List.nil_append, List.append_nil, List.set_cons_zero, List.set_cons_succ, List.replicate_succ, List.replicate_zero, Nat.reduceSub, Nat.reduceAdd, Nat.reduceLeDiff, Nat.zero_add, Nat.sub_self, decide_eq_true_eq, Bool.not_eq_true', Bool.not_eq_eq_eq_not, Bool.not_true, Bool.not_false, decide_eq_false_iff_not, if_true, if_false, reduceIte, Bool.false_eq_true, true_and, and_true, decide_true, decide_false, Bool.true_eq_false, eq_self, ins_thing hf_tied, eq_R (T _).1, eq_R (T _).2, ix_cell (show a < st.2.length by omega)]
      have cc : ∀ z : Nat, (z : Int) + 1 = ((z + 1 : Nat) : Int) := fun z => by omega
      rw [cc, set_cell (by omega), ix_cell (by rw [List.length_set]; omega)]
      simp only [R_some, wb_bl, wi_int, wstr_str, wtup_tup, wlst_lst, wref_ref, wp_var0, wp_varS, wp_C, wp_Bin, wp_neg, wp_nil, wp_cons, wp_tup, wp_lst, wp_lstM, wp_Call, wp_And, wp_Or, wp_Not, wp_Test, wp_tAnd, wp_tOr, wp_tNot, wp_If, wp_Chain, wp_Skip, wp_Break, wp_Cont, wp_Never, wp_fNever, wp_Seq, wp_pfl_nx, wp_pfl_rt, wp_pfl_bk, wp_pfl_ct, wp_Expr, wp_Ret, wp_sIf, wp_Asg, wp_N, wp_gNil, wp_gCons, wp_gTup, wp_gSub, wp_Par, wp_two, wp_Run, wp_run_rt, wp_run_nx, wp_bk_nx, wp_bk_ct, wp_bk_bk, wp_bk_rt, wp_r1, wp_r2, wp_add, wp_addL, wp_addS, wp_mul, wp_fdiv, wp_mod, wp_I0, wp_eqI, wp_eqS, wp_eqB, wp_neI, wp_neS, wp_neB, wp_isN, wp_notN, isn_int, isn_non, isn_str, isn_tup, isn_lst, isn_ref, isn_bl, wp_isi, wp_someB, isi_str_str, isi_int_int, isi_int_bl, isi_bool_int, isi_bool_bl, isi_int_non, isi_int_str, isi_tuple_tup, wp_abs, wp_max2, wp_min2, wp_maxT, wp_intI, wp_intB, wp_lenS, wp_lenT, wp_lenL, wp_lenC, wp_divmod, wp_listL, wp_listT, wp_tupL, wp_tupT, wp_KIn, wp_strE, wp_Fld, wp_FldO, wp_Meth, wp_MakeF, wp_someL, wp_iR1, wp_iR2, wp_iLst, wp_iTup, wp_Prop, wp_IsC, wp_DGet1, wp_DIn, wp_gUnl, wp_DictK, wp_rep, wp_MethK, wp_CallK, wp_DispF, wp_DIx, wp_someX, wp_ixL, wp_ixT, wp_ixC, atI0, atI1, atI2, ixN0, ixN1, wp_Sl, wp_oNone, wp_oSome, wp_slC, wp_slL, wp_slS, str_eq, String.reduceEq, in_ring_crowd, in_ring_star, in_ring_pairs, in_ring_row, in_ring_ring, in_ring_core, in_ring_linked, in_ring_odd_ring, in_ring_even_ring, Bool.or_self, Bool.and_self, wp_Lc, wp_Yes, wp_pow10_9, wp_pow10_18, wp_pow10_40, wp_For, wp_sFld, wp_last, set_last, wp_KIx, wp_inT, wp_inL, eqF_str, flat_str, flat_int, flat_non, List.any_cons, List.any_nil, List.all_cons, List.all_nil, Bool.and_true, Bool.or_false, Bool.true_and, Bool.false_and, Bool.and_false, Bool.false_or, Bool.or_true, Bool.true_or, Bool.not_not, List.map_cons, List.map_nil, List.length_cons, List.length_nil, List.cons_append, List.nil_append, List.append_nil, List.set_cons_zero, List.set_cons_succ, List.replicate_succ, List.replicate_zero, Nat.reduceSub, Nat.reduceAdd, Nat.reduceLeDiff, Nat.zero_add, Nat.sub_self, decide_eq_true_eq, Bool.not_eq_true', Bool.not_eq_eq_eq_not, Bool.not_true, Bool.not_false, decide_eq_false_iff_not, if_true, if_false, reduceIte, Bool.false_eq_true, true_and, and_true, decide_true, decide_false, Bool.true_eq_false, eq_self]
      rw [cc, set_cell (by rw [List.length_set]; omega)]
      exact ⟨_, hnx.symm, by rw [e]; rfl, _, _, by rw [e]; rfl⟩
  · rintro env S2 ⟨st, hst, rfl, e10, e11, rfl⟩
    rw [List.length_map, List.take_length] at hst
    subst hst
    exact hP _ _
theorem hd_max {cs : List Nat} {k : Nat} (h0 : 0 < k) (h : ∀ c ∈ cs, c < k) : maxI ((0 : Int) :: cs.map (fun c : Nat => (c : Int))) < (k : Int) := by
  obtain ⟨h1, _⟩ := maxI_ok (l := (0 : Int) :: cs.map (fun c : Nat => (c : Int))) (by simp)
  rcases List.mem_cons.mp h1 with q | q
  · rw [q]; omega
  · obtain ⟨c, hc, e⟩ := List.mem_map.mp q
    have := h c hc
    rw [← e]; omega
theorem ints_c {cs : List Nat} : intsOf ([D.int 0] ++ cD cs) = some ((0 : Int) :: cs.map (fun c : Nat => (c : Int))) := by
  have : [D.int 0] ++ cD cs = ((0 : Int) :: cs.map (fun c : Nat => (c : Int))).map D.int := by
    unfold cD
    simp
  rw [this, intsOf_map]
theorem max_cell {S : Sto} {cs : List Nat} {P : D → Sto → Prop} (hl : cs.length ≤ 1000) : R (gAddC (.lst [.int 0]) (.ref S.length) (S ++ [.lst (cD cs)])) P ↔ P (.lst ([.int 0] ++ cD cs)) (S ++ [.lst (cD cs)]) := by
  have e0 : (S ++ [Cell.lst (cD cs)])[S.length]? = some (.lst (cD cs)) := by simp
  have e : gAddC (.lst [.int 0]) (.ref S.length) (S ++ [.lst (cD cs)]) = some (.lst ([.int 0] ++ cD cs), S ++ [.lst (cD cs)]) := by
    unfold gAddC
    simp only [e0]
    rw [if_pos (by rw [cD_len]; show 1 + cs.length ≤ _; omega)]
  rw [eq_R e]
theorem max_run {S : Sto} {cs : List Nat} {P : D → Sto → Prop} : R (cMaxL [.lst ([.int 0] ++ cD cs)] S) P ↔ P (.int (maxI ((0 : Int) :: cs.map (fun c : Nat => (c : Int))))) S := by
  have e : cMaxL [.lst ([.int 0] ++ cD cs)] S = some (.int (maxI ((0 : Int) :: cs.map (fun c : Nat => (c : Int)))), S) := by
    show (intsOf ([.int 0] ++ cD cs)).bind _ = _
    rw [ints_c]
    rfl
  rw [eq_R e]
theorem rep_c {n : Nat} : (List.replicate (n : Int).toNat [D.int 0]).flatten = cD (List.replicate n 0) := by
  rw [Int.toNat_natCast]
  unfold cD
  induction n with
  | zero => rfl
  | succ n ih => show D.int 0 :: (List.replicate n [D.int 0]).flatten = D.int 0 :: (List.replicate n 0).map _; rw [ih]
/-- the tail of a turn: from the count of people on -/
theorem turn_ok {kd : Str} {x : D} {n : Nat} {t : Nat → Nat → Bool} (hn : n ≤ 40) (K : K39 kd x n t) (hs : ∀ S : Sto, kd = "star" → ∃ k : Nat, x = .int (k : Int) ∧ 0 < k ∧ ∀ c ∈ (fin t n).2, c < k) {S : Sto} {e0 e1 e3 e4 e8 e9 e10 e11 : Option D} {I : DEnv → Sto → Prop} {PS : Fl → Sto → Prop}
    (hI : ∀ e8 e9 e10 e11 c, I [e0, e1, some (.str kd), e3, e4, some x, some (thing kd x), some (.int (n : Int)), e8, e9, e10, e11] (S ++ [.lst (cD c)])) :
    R ((sSeq (sPar 8 9 (fCons (fBin gRepM (fLst (fCons (fC (.int 0)) fNil)) (fVar 7)) (fCons (fC (.int 0)) fNil)))
    (sSeq (sFor (iTup (fCall w__law_all (fCons (fVar 7) fNil))) (DL.gTup 2 (DL.gCons (gN 10) (DL.gCons (gN 11) DL.gNil))) (sSeq (sIf (fTest (fBin gNe (fMeth "Thing" "tied" w_Thing_tied (fVar 6) (fCons (fVar 7) (fCons (fVar 11) (fCons (fVar 10) fNil)))) (fMeth "Thing" "tied" w_Thing_tied (fVar 6) (fCons (fVar 7) (fCons (fVar 10) (fCons (fVar 11) fNil)))))) (sRet (fC (.bl false))) sSkip)
    (sIf (fTest (fMeth "Thing" "tied" w_Thing_tied (fVar 6) (fCons (fVar 7) (fCons (fVar 10) (fCons (fVar 11) fNil))))) (sSeq (sAsg (fBin gAdd (fVar 9) (fC (.int 1))) (gN 9))
    (sSeq (sAsg (fBin gAdd (fBin gIx (fVar 8) (fVar 10)) (fC (.int 1))) (gSub gSetA (fVar 8) (fVar 10)))
    (sAsg (fBin gAdd (fBin gIx (fVar 8) (fVar 11)) (fC (.int 1))) (gSub gSetA (fVar 8) (fVar 11))))) sSkip)))
    (sSeq (sIf (tOrD (fTest (fBin gNe (fVar 9) (fMeth "Thing" "most" w_Thing_most (fVar 6) (fCons (fVar 7) fNil)))) (fTest (fBin gNe (fVar 9) (fCall w__law_most (fCons (fVar 2) (fCons (fVar 5) (fCons (fVar 7) fNil))))))) (sRet (fC (.bl false))) sSkip)
    (sIf (tAndD (fTest (fBin gEq (fVar 2) (fC (.str "star")))) (fTest (fBin gGe (fCall cMaxL (fCons (fBin gAddC (fLst (fCons (fC (.int 0)) fNil)) (fVar 8)) fNil)) (fVar 5)))) (sRet (fC (.bl false))) sSkip))))
      [e0, e1, some (.str kd), e3, e4, some x, some (thing kd x), some (.int (n : Int)), e8, e9, e10, e11] S) (PBk I PS) := by
  obtain ⟨f1, f2, _, _⟩ := fin_ok t n
  have hpe := pen hn
  simp only [R_some, wb_bl, wi_int, wstr_str, wtup_tup, wlst_lst, wref_ref, wp_var0, wp_varS, wp_C, wp_Bin, wp_neg, wp_nil, wp_cons, wp_tup, wp_lst, wp_lstM, wp_Call, wp_And, wp_Or, wp_Not, wp_Test, wp_tAnd, wp_tOr, wp_tNot, wp_If, wp_Chain, wp_Skip, wp_Break, wp_Cont, wp_Never, wp_fNever, wp_Seq, wp_pfl_nx, wp_pfl_rt, wp_pfl_bk, wp_pfl_ct, wp_Expr, wp_Ret, wp_sIf, wp_Asg, wp_N, wp_gNil, wp_gCons, wp_gTup, wp_gSub, wp_Par, wp_two, wp_Run, wp_run_rt, wp_run_nx, wp_bk_nx, wp_bk_ct, wp_bk_bk, wp_bk_rt, wp_r1, wp_r2, wp_add, wp_addL, wp_addS, wp_mul, wp_fdiv, wp_mod, wp_I0, wp_eqI, wp_eqS, wp_eqB, wp_neI, wp_neS, wp_neB, wp_isN, wp_notN, isn_int, isn_non, isn_str, isn_tup, isn_lst, isn_ref, isn_bl, wp_isi, wp_someB, isi_str_str, isi_int_int, isi_int_bl, isi_bool_int, isi_bool_bl, isi_int_non, isi_int_str, isi_tuple_tup, wp_abs, wp_max2, wp_min2, wp_maxT, wp_intI, wp_intB, wp_lenS, wp_lenT, wp_lenL, wp_lenC, wp_divmod, wp_listL, wp_listT, wp_tupL, wp_tupT, wp_KIn, wp_strE, wp_Fld, wp_FldO, wp_Meth, wp_MakeF, wp_someL, wp_iR1, wp_iR2, wp_iLst, wp_iTup, wp_Prop, wp_IsC, wp_DGet1, wp_DIn, wp_gUnl, wp_DictK, wp_rep, wp_MethK, wp_CallK, wp_DispF, wp_DIx, wp_someX, wp_ixL, wp_ixT, wp_ixC, atI0, atI1, atI2, ixN0, ixN1, wp_Sl, wp_oNone, wp_oSome, wp_slC, wp_slL, wp_slS, str_eq, String.reduceEq, in_ring_crowd, in_ring_star, in_ring_pairs, in_ring_row, in_ring_ring, in_ring_core, in_ring_linked, in_ring_odd_ring, in_ring_even_ring, Bool.or_self, Bool.and_self, wp_Lc, wp_Yes, wp_pow10_9, wp_pow10_18, wp_pow10_40, wp_sFld, wp_last, set_last, wp_KIx, wp_inT, wp_inL, eqF_str, flat_str, flat_int, flat_non, List.any_cons, List.any_nil, List.all_cons, List.all_nil, Bool.and_true, Bool.or_false, Bool.true_and, Bool.false_and, Bool.and_false, Bool.false_or, Bool.or_true, Bool.true_or, Bool.not_not, List.map_cons, List.map_nil, List.length_cons, List.length_nil, List.cons_append, List.nil_append, List.append_nil, List.set_cons_zero, List.set_cons_succ, List.replicate_succ, List.replicate_zero, Nat.reduceSub, Nat.reduceAdd, Nat.reduceLeDiff, Nat.zero_add, Nat.sub_self, decide_eq_true_eq, Bool.not_eq_true', Bool.not_eq_eq_eq_not, Bool.not_true, Bool.not_false, decide_eq_false_iff_not, if_true, if_false, reduceIte, Bool.false_eq_true, true_and, and_true, decide_true, decide_false, Bool.true_eq_false, eq_self, wp_repM, rep_c]
  refine ⟨by omega, ?_⟩
  rw [wp_For]
  simp only [R_some, wb_bl, wi_int, wstr_str, wtup_tup, wlst_lst, wref_ref, wp_var0, wp_varS, wp_C, wp_Bin, wp_neg, wp_nil, wp_cons, wp_tup, wp_lst, wp_lstM, wp_Call, wp_And, wp_Or, wp_Not, wp_Test, wp_tAnd, wp_tOr, wp_tNot, wp_If, wp_Chain, wp_Skip, wp_Break, wp_Cont, wp_Never, wp_fNever, wp_Seq, wp_pfl_nx, wp_pfl_rt, wp_pfl_bk, wp_pfl_ct, wp_Expr, wp_Ret, wp_sIf, wp_Asg, wp_N, wp_gNil, wp_gCons, wp_gTup, wp_gSub, wp_Par, wp_two, wp_Run, wp_run_rt, wp_run_nx, wp_bk_nx, wp_bk_ct, wp_bk_bk, wp_bk_rt, wp_r1, wp_r2, wp_add, wp_addL, wp_addS, wp_mul, wp_fdiv, wp_mod, wp_I0, wp_eqI, wp_eqS, wp_eqB, wp_neI, wp_neS, wp_neB, wp_isN, wp_notN, isn_int, isn_non, isn_str, isn_tup, isn_lst, isn_ref, isn_bl, wp_isi, wp_someB, isi_str_str, isi_int_int, isi_int_bl, isi_bool_int, isi_bool_bl, isi_int_non, isi_int_str, isi_tuple_tup, wp_abs, wp_max2, wp_min2, wp_maxT, wp_intI, wp_intB, wp_lenS, wp_lenT, wp_lenL, wp_lenC, wp_divmod, wp_listL, wp_listT, wp_tupL, wp_tupT, wp_KIn, wp_strE, wp_Fld, wp_FldO, wp_Meth, wp_MakeF, wp_someL, wp_iR1, wp_iR2, wp_iLst, wp_iTup, wp_Prop, wp_IsC, wp_DGet1, wp_DIn, wp_gUnl, wp_DictK, wp_rep, wp_MethK, wp_CallK, wp_DispF, wp_DIx, wp_someX, wp_ixL, wp_ixT, wp_ixC, atI0, atI1, atI2, ixN0, ixN1, wp_Sl, wp_oNone, wp_oSome, wp_slC, wp_slL, wp_slS, str_eq, String.reduceEq, in_ring_crowd, in_ring_star, in_ring_pairs, in_ring_row, in_ring_ring, in_ring_core, in_ring_linked, in_ring_odd_ring, in_ring_even_ring, Bool.or_self, Bool.and_self, wp_Lc, wp_Yes, wp_pow10_9, wp_pow10_18, wp_pow10_40, wp_sFld, wp_last, set_last, wp_KIx, wp_inT, wp_inL, eqF_str, flat_str, flat_int, flat_non, List.any_cons, List.any_nil, List.all_cons, List.all_nil, Bool.and_true, Bool.or_false, Bool.true_and, Bool.false_and, Bool.and_false, Bool.false_or, Bool.or_true, Bool.true_or, Bool.not_not, List.map_cons, List.map_nil, List.length_cons, List.length_nil, List.cons_append, List.nil_append, List.append_nil, List.set_cons_zero, List.set_cons_succ, List.replicate_succ, List.replicate_zero, Nat.reduceSub, Nat.reduceAdd, Nat.reduceLeDiff, Nat.zero_add, Nat.sub_self, decide_eq_true_eq, Bool.not_eq_true', Bool.not_eq_eq_eq_not, Bool.not_true, Bool.not_false, decide_eq_false_iff_not, if_true, if_false, reduceIte, Bool.false_eq_true, true_and, and_true, decide_true, decide_false, Bool.true_eq_false, eq_self, eq_R (all_eq _ n hn)]
  refine loop_ok hn K fun e10 e11 => ?_
  by_cases q : kd = "star"
  · subst q
    obtain ⟨k, rfl, hk0, hk⟩ := hs S rfl
    have hmax := hd_max hk0 hk
    simp only [R_some, wb_bl, wi_int, wstr_str, wtup_tup, wlst_lst, wref_ref, wp_var0, wp_varS, wp_C, wp_Bin, wp_neg, wp_nil, wp_cons, wp_tup, wp_lst, wp_lstM, wp_Call, wp_And, wp_Or, wp_Not, wp_Test, wp_tAnd, wp_tOr, wp_tNot, wp_If, wp_Chain, wp_Skip, wp_Break, wp_Cont, wp_Never, wp_fNever, wp_Seq, wp_pfl_nx, wp_pfl_rt, wp_pfl_bk, wp_pfl_ct, wp_Expr, wp_Ret, wp_sIf, wp_Asg, wp_N, wp_gNil, wp_gCons, wp_gTup, wp_gSub, wp_Par, wp_two, wp_Run, wp_run_rt, wp_run_nx, wp_bk_nx, wp_bk_ct, wp_bk_bk, wp_bk_rt, wp_r1, wp_r2, wp_add, wp_addL, wp_addS, wp_mul, wp_fdiv, wp_mod, wp_I0, wp_eqI, wp_eqS, wp_eqB, wp_neI, wp_neS, wp_neB, wp_isN, wp_notN, isn_int, isn_non, isn_str, isn_tup, isn_lst, isn_ref, isn_bl, wp_isi, wp_someB, isi_str_str, isi_int_int, isi_int_bl, isi_bool_int, isi_bool_bl, isi_int_non, isi_int_str, isi_tuple_tup, wp_abs, wp_max2, wp_min2, wp_maxT, wp_intI, wp_intB, wp_lenS, wp_lenT, wp_lenL, wp_lenC, wp_divmod, wp_listL, wp_listT, wp_tupL, wp_tupT, wp_KIn, wp_strE, wp_Fld, wp_FldO, wp_Meth, wp_MakeF, wp_someL, wp_iR1, wp_iR2, wp_iLst, wp_iTup, wp_Prop, wp_IsC, wp_DGet1, wp_DIn, wp_gUnl, wp_DictK, wp_rep, wp_MethK, wp_CallK, wp_DispF, wp_DIx, wp_someX, wp_ixL, wp_ixT, wp_ixC, atI0, atI1, atI2, ixN0, ixN1, wp_Sl, wp_oNone, wp_oSome, wp_slC, wp_slL, wp_slS, str_eq, String.reduceEq, in_ring_crowd, in_ring_star, in_ring_pairs, in_ring_row, in_ring_ring, in_ring_core, in_ring_linked, in_ring_odd_ring, in_ring_even_ring, Bool.or_self, Bool.and_self, wp_Lc, wp_Yes, wp_pow10_9, wp_pow10_18, wp_pow10_40, wp_For, wp_sFld, wp_last, set_last, wp_KIx, wp_inT, wp_inL, eqF_str, flat_str, flat_int, flat_non, List.any_cons, List.any_nil, List.all_cons, List.all_nil, Bool.and_true, Bool.or_false, Bool.true_and, Bool.false_and, Bool.and_false, Bool.false_or, Bool.or_true, Bool.true_or, Bool.not_not, List.map_cons, List.map_nil, List.length_cons, List.length_nil, List.cons_append, List.nil_append, List.append_nil, List.set_cons_zero, List.set_cons_succ, List.replicate_succ, List.replicate_zero, Nat.reduceSub, Nat.reduceAdd, Nat.reduceLeDiff, Nat.zero_add, Nat.sub_self, decide_eq_true_eq, Bool.not_eq_true', Bool.not_eq_eq_eq_not, Bool.not_true, Bool.not_false, decide_eq_false_iff_not, if_true, if_false, reduceIte, Bool.false_eq_true, true_and, and_true, decide_true, decide_false, Bool.true_eq_false, eq_self, ins_thing hf_most, eq_R (tmost_eq hpe (K.most _)), eq_R (K.law _), f1, max_cell (show (fin t n).2.length ≤ 1000 by omega), max_run, show ¬ ((k : Int) ≤ maxI ((0 : Int) :: (fin t n).2.map (fun c : Nat => (c : Int)))) by omega]
    first
    | exact hI _ _ _ _ _
    | (rw [show D.int 0 :: cD (fin t n).2 = [D.int 0] ++ cD (fin t n).2 from rfl, max_run]
       simp only [R_some, wb_bl, wi_int, wstr_str, wtup_tup, wlst_lst, wref_ref, wp_var0, wp_varS, wp_C, wp_Bin, wp_neg, wp_nil, wp_cons, wp_tup, wp_lst, wp_lstM, wp_Call, wp_And, wp_Or, wp_Not, wp_Test, wp_tAnd, wp_tOr, wp_tNot, wp_If, wp_Chain, wp_Skip, wp_Break, wp_Cont, wp_Never, wp_fNever, wp_Seq, wp_pfl_nx, wp_pfl_rt, wp_pfl_bk, wp_pfl_ct, wp_Expr, wp_Ret, wp_sIf, wp_Asg, wp_N, wp_gNil, wp_gCons, wp_gTup, wp_gSub, wp_Par, wp_two, wp_Run, wp_run_rt, wp_run_nx, wp_bk_nx, wp_bk_ct, wp_bk_bk, wp_bk_rt, wp_r1, wp_r2, wp_add, wp_addL, wp_addS, wp_mul, wp_fdiv, wp_mod, wp_I0, wp_eqI, wp_eqS, wp_eqB, wp_neI, wp_neS, wp_neB, wp_isN, wp_notN, isn_int, isn_non, isn_str, isn_tup, isn_lst, isn_ref, isn_bl, wp_isi, wp_someB, isi_str_str, isi_int_int, isi_int_bl, isi_bool_int, isi_bool_bl, isi_int_non, isi_int_str, isi_tuple_tup, wp_abs, wp_max2, wp_min2, wp_maxT, wp_intI, wp_intB, wp_lenS, wp_lenT, wp_lenL, wp_lenC, wp_divmod, wp_listL, wp_listT, wp_tupL, wp_tupT, wp_KIn, wp_strE, wp_Fld, wp_FldO, wp_Meth, wp_MakeF, wp_someL, wp_iR1, wp_iR2, wp_iLst, wp_iTup, wp_Prop, wp_IsC, wp_DGet1, wp_DIn, wp_gUnl, wp_DictK, wp_rep, wp_MethK, wp_CallK, wp_DispF, wp_DIx, wp_someX, wp_ixL, wp_ixT, wp_ixC, atI0, atI1, atI2, ixN0, ixN1, wp_Sl, wp_oNone, wp_oSome, wp_slC, wp_slL, wp_slS, str_eq, String.reduceEq, in_ring_crowd, in_ring_star, in_ring_pairs, in_ring_row, in_ring_ring, in_ring_core, in_ring_linked, in_ring_odd_ring, in_ring_even_ring, Bool.or_self, Bool.and_self, wp_Lc, wp_Yes, wp_pow10_9, wp_pow10_18, wp_pow10_40, wp_For, wp_sFld, wp_last, set_last, wp_KIx, wp_inT, wp_inL, eqF_str, flat_str, flat_int, flat_non, List.any_cons, List.any_nil, List.all_cons, List.all_nil, Bool.and_true, Bool.or_false, Bool.true_and, Bool.false_and, Bool.and_false, Bool.false_or, Bool.or_true, Bool.true_or, Bool.not_not, List.map_cons, List.map_nil, List.length_cons, List.length_nil, List.cons_append, List.nil_append, List.append_nil, List.set_cons_zero, List.set_cons_succ, List.replicate_succ, List.replicate_zero, Nat.reduceSub, Nat.reduceAdd, Nat.reduceLeDiff, Nat.zero_add, Nat.sub_self, decide_eq_true_eq, Bool.not_eq_true', Bool.not_eq_eq_eq_not, Bool.not_true, Bool.not_false, decide_eq_false_iff_not, if_true, if_false, reduceIte, Bool.false_eq_true, true_and, and_true, decide_true, decide_false, Bool.true_eq_false, eq_self, show ¬ ((k : Int) ≤ maxI ((0 : Int) :: (fin t n).2.map (fun c : Nat => (c : Int)))) by omega]
       exact hI _ _ _ _ _)
  · simp only [R_some, wb_bl, wi_int, wstr_str, wtup_tup, wlst_lst, wref_ref, wp_var0, wp_varS, wp_C, wp_Bin, wp_neg, wp_nil, wp_cons, wp_tup, wp_lst, wp_lstM, wp_Call, wp_And, wp_Or, wp_Not, wp_Test, wp_tAnd, wp_tOr, wp_tNot, wp_If, wp_Chain, wp_Skip, wp_Break, wp_Cont, wp_Never, wp_fNever, wp_Seq, wp_pfl_nx, wp_pfl_rt, wp_pfl_bk, wp_pfl_ct, wp_Expr, wp_Ret, wp_sIf, wp_Asg, wp_N, wp_gNil, wp_gCons, wp_gTup, wp_gSub, wp_Par, wp_two, wp_Run, wp_run_rt, wp_run_nx, wp_bk_nx, wp_bk_ct, wp_bk_bk, wp_bk_rt, wp_r1, wp_r2, wp_add, wp_addL, wp_addS, wp_mul, wp_fdiv, wp_mod, wp_I0, wp_eqI, wp_eqS, wp_eqB, wp_neI, wp_neS, wp_neB, wp_isN, wp_notN, isn_int, isn_non, isn_str, isn_tup, isn_lst, isn_ref, isn_bl, wp_isi, wp_someB, isi_str_str, isi_int_int, isi_int_bl, isi_bool_int, isi_bool_bl, isi_int_non, isi_int_str, isi_tuple_tup, wp_abs, wp_max2, wp_min2, wp_maxT, wp_intI, wp_intB, wp_lenS, wp_lenT, wp_lenL, wp_lenC, wp_divmod, wp_listL, wp_listT, wp_tupL, wp_tupT, wp_KIn, wp_strE, wp_Fld, wp_FldO, wp_Meth, wp_MakeF, wp_someL, wp_iR1, wp_iR2, wp_iLst, wp_iTup, wp_Prop, wp_IsC, wp_DGet1, wp_DIn, wp_gUnl, wp_DictK, wp_rep, wp_MethK, wp_CallK, wp_DispF, wp_DIx, wp_someX, wp_ixL, wp_ixT, wp_ixC, atI0, atI1, atI2, ixN0, ixN1, wp_Sl, wp_oNone, wp_oSome, wp_slC, wp_slL, wp_slS, str_eq, String.reduceEq, in_ring_crowd, in_ring_star, in_ring_pairs, in_ring_row, in_ring_ring, in_ring_core, in_ring_linked, in_ring_odd_ring, in_ring_even_ring, Bool.or_self, Bool.and_self, wp_Lc, wp_Yes, wp_pow10_9, wp_pow10_18, wp_pow10_40, wp_For, wp_sFld, wp_last, set_last, wp_KIx, wp_inT, wp_inL, eqF_str, flat_str, flat_int, flat_non, List.any_cons, List.any_nil, List.all_cons, List.all_nil, Bool.and_true, Bool.or_false, Bool.true_and, Bool.false_and, Bool.and_false, Bool.false_or, Bool.or_true, Bool.true_or, Bool.not_not, List.map_cons, List.map_nil, List.length_cons, List.length_nil, List.cons_append, List.nil_append, List.append_nil, List.set_cons_zero, List.set_cons_succ, List.replicate_succ, List.replicate_zero, Nat.reduceSub, Nat.reduceAdd, Nat.reduceLeDiff, Nat.zero_add, Nat.sub_self, decide_eq_true_eq, Bool.not_eq_true', Bool.not_eq_eq_eq_not, Bool.not_true, Bool.not_false, decide_eq_false_iff_not, if_true, if_false, reduceIte, Bool.false_eq_true, true_and, and_true, decide_true, decide_false, Bool.true_eq_false, eq_self, ins_thing hf_most, eq_R (tmost_eq hpe (K.most _)), eq_R (K.law _), f1, q]
    exact hI _ _ _ _ _
/-! ## kinds with their numbers -/
def Fine (kd : Str) (x : D) : Prop := ∀ n : Nat, n ≤ 40 → ∃ t, K39 kd x n t ∧ (kd = "star" → ∃ k : Nat, x = .int (k : Int) ∧ 0 < k ∧ ∀ c ∈ (fin t n).2, c < k)
def Fam (kd : Str) (lo : Int) : Prop := ∀ m : Nat, m < 42 → Fine kd (.int ((m : Int) + lo))
theorem ns {kd : Str} {P : Prop} (h : ¬ kd = "star") : kd = "star" → P := fun q => absurd q h
theorem f_crowd : Fam "crowd" 2 := fun m hm n hn => ⟨_, k_crowd hn hm, ns (by decide +kernel)⟩
theorem f_row : Fam "row" 2 := fun m hm n hn => ⟨_, k_row hn hm, ns (by decide +kernel)⟩
theorem f_ring : Fam "ring" 3 := fun m hm n hn => ⟨_, k_ring hn hm, ns (by decide +kernel)⟩
theorem f_core : Fam "core" 1 := fun m hm n hn => ⟨_, k_core hn hm, ns (by decide +kernel)⟩
theorem f_linked : Fam "linked" 1 := fun m hm n hn => ⟨_, k_linked hn hm, ns (by decide +kernel)⟩
theorem f_pairs : Fam "pairs" 1 := fun m hm n hn => by
  obtain ⟨t, h⟩ := k_pairs hn hm
  exact ⟨t, h, ns (by decide +kernel)⟩
theorem f_star : Fam "star" 1 := fun m hm n hn => ⟨_, k_star hn hm, fun _ => ⟨m + 1, by congr 1, by omega, star_deg hn hm⟩⟩
theorem f_odd : Fine "odd ring" .non := fun n hn => ⟨_, k_odd hn, ns (by decide +kernel)⟩
theorem f_even : Fine "even ring" .non := fun n hn => ⟨_, k_even hn, ns (by decide +kernel)⟩
def Bse (kd : Str) (b : D) : Prop := (∃ lo : Int, b = .int lo ∧ Fam kd lo) ∨ (b = .non ∧ Fine kd .non)
def items9 : List D := [.tup [.str "crowd", .int 2], .tup [.str "star", .int 1], .tup [.str "pairs", .int 1], .tup [.str "row", .int 2], .tup [.str "ring", .int 3], .tup [.str "core", .int 1], .tup [.str "linked", .int 1], .tup [.str "odd ring", .non], .tup [.str "even ring", .non]]
theorem items_ok {d : D} (h : d ∈ items9) : ∃ kd b, d = .tup [.str kd, b] ∧ Bse kd b := by
  unfold items9 at h
  simp only [List.mem_cons, List.not_mem_nil, or_false] at h
  rcases h with rfl | rfl | rfl | rfl | rfl | rfl | rfl | rfl | rfl
  · exact ⟨_, _, rfl, .inl ⟨_, rfl, f_crowd⟩⟩
  · exact ⟨_, _, rfl, .inl ⟨_, rfl, f_star⟩⟩
  · exact ⟨_, _, rfl, .inl ⟨_, rfl, f_pairs⟩⟩
  · exact ⟨_, _, rfl, .inl ⟨_, rfl, f_row⟩⟩
  · exact ⟨_, _, rfl, .inl ⟨_, rfl, f_ring⟩⟩
  · exact ⟨_, _, rfl, .inl ⟨_, rfl, f_core⟩⟩
  · exact ⟨_, _, rfl, .inl ⟨_, rfl, f_linked⟩⟩
  · exact ⟨_, _, rfl, .inr ⟨rfl, f_odd⟩⟩
  · exact ⟨_, _, rfl, .inr ⟨rfl, f_even⟩⟩
theorem at_640 {r : Int} (h0 : 0 ≤ r) (h1 : r < 2) : ∃ m : Int, 0 < m ∧ m ≤ 40 ∧ atI [D.int 6, .int 40] r = some (.int m) := by
  rcases (show r = 0 ∨ r = 1 by omega) with rfl | rfl
  · exact ⟨6, by omega, by omega, rfl⟩
  · exact ⟨40, by omega, by omega, rfl⟩
end LW

namespace LW
open PySem PySem.Spec PyProof.Rows L2 DL
theorem right_ok {S : Sto} {i : Nat} (hi : Prs S i) : R (w__law_right [.ref i] S) fun d _ => d = .bl true := by
  unfold w__law_right d__law_right b__law_right
  simp only [R_some, wb_bl, wi_int, wstr_str, wtup_tup, wlst_lst, wref_ref, wp_var0, wp_varS, wp_C, wp_Bin, wp_neg, wp_nil, wp_cons, wp_tup, wp_lst, wp_lstM, wp_Call, wp_And, wp_Or, wp_Not, wp_Test, wp_tAnd, wp_tOr, wp_tNot, wp_If, wp_Chain, wp_Skip, wp_Break, wp_Cont, wp_Never, wp_fNever, wp_Seq, wp_pfl_nx, wp_pfl_rt, wp_pfl_bk, wp_pfl_ct, wp_Expr, wp_Ret, wp_sIf, wp_Asg, wp_N, wp_gNil, wp_gCons, wp_gTup, wp_gSub, wp_Par, wp_two, wp_Run, wp_run_rt, wp_run_nx, wp_bk_nx, wp_bk_ct, wp_bk_bk, wp_bk_rt, wp_r1, wp_r2, wp_add, wp_addL, wp_addS, wp_mul, wp_fdiv, wp_mod, wp_I0, wp_eqI, wp_eqS, wp_eqB, wp_neI, wp_neS, wp_neB, wp_isN, wp_notN, isn_int, isn_non, isn_str, isn_tup, isn_lst, isn_ref, isn_bl, wp_isi, wp_someB, isi_str_str, isi_int_int, isi_int_bl, isi_bool_int, isi_bool_bl, isi_int_non, isi_int_str, isi_tuple_tup, wp_abs, wp_max2, wp_min2, wp_maxT, wp_intI, wp_intB, wp_lenS, wp_lenT, wp_lenL, wp_lenC, wp_divmod, wp_listL, wp_listT, wp_tupL, wp_tupT, wp_KIn, wp_strE, wp_Fld, wp_FldO, wp_Meth, wp_MakeF, wp_someL, wp_iR1, wp_iR2, wp_iLst, wp_iTup, wp_Prop, wp_IsC, wp_DGet1, wp_DIn, wp_gUnl, wp_DictK, wp_rep, wp_MethK, wp_CallK, wp_DispF, wp_DIx, wp_someX, wp_ixL, wp_ixT, wp_ixC, atI0, atI1, atI2, ixN0, ixN1, wp_Sl, wp_oNone, wp_oSome, wp_slC, wp_slL, wp_slS, str_eq, String.reduceEq, in_ring_crowd, in_ring_star, in_ring_pairs, in_ring_row, in_ring_ring, in_ring_core, in_ring_linked, in_ring_odd_ring, in_ring_even_ring, Bool.or_self, Bool.and_self, wp_Lc, wp_Yes, wp_pow10_9, wp_pow10_18, wp_pow10_40, wp_For, wp_sFld, wp_last, set_last, wp_KIx, wp_inT, wp_inL, eqF_str, flat_str, flat_int, flat_non, List.any_cons, List.any_nil, List.all_cons, List.all_nil, Bool.and_true, Bool.or_false, Bool.true_and, Bool.false_and, Bool.and_false, Bool.false_or, Bool.or_true, Bool.true_or, Bool.not_not, List.map_cons, List.map_nil, List.length_cons, List.length_nil, List.cons_append, List.nil_append, List.append_nil, List.set_cons_zero, List.set_cons_succ, List.replicate_succ, List.replicate_zero, Nat.reduceSub, Nat.reduceAdd, Nat.reduceLeDiff, Nat.zero_add, Nat.sub_self, decide_eq_true_eq, Bool.not_eq_true', Bool.not_eq_eq_eq_not, Bool.not_true, Bool.not_false, decide_eq_false_iff_not, if_true, if_false, reduceIte, Bool.false_eq_true, true_and, and_true, decide_true, decide_false, Bool.true_eq_false, eq_self]
  refine r_forD (items := items9) (fun _ env S2 => Prs S2 i ∧ ∃ e1 e2 e3 e4 e5 e6 e7 e8 e9 e10 e11, env = [some (.ref i), e1, e2, e3, e4, e5, e6, e7, e8, e9, e10, e11]) ⟨hi, _, _, _, _, _, _, _, _, _, _, _, rfl⟩ ?_ ?_
  · rintro idx d env S2 hd ⟨hi, e1, e2, e3, e4, e5, e6, e7, e8, e9, e10, e11, rfl⟩
    obtain ⟨kd, b, rfl, hb⟩ := items_ok (List.mem_of_getElem? hd)
    simp only [R_some, wb_bl, wi_int, wstr_str, wtup_tup, wlst_lst, wref_ref, wp_var0, wp_varS, wp_C, wp_Bin, wp_neg, wp_nil, wp_cons, wp_tup, wp_lst, wp_lstM, wp_Call, wp_And, wp_Or, wp_Not, wp_Test, wp_tAnd, wp_tOr, wp_tNot, wp_Chain, wp_Skip, wp_Break, wp_Cont, wp_Never, wp_fNever, wp_pfl_nx, wp_pfl_rt, wp_pfl_bk, wp_pfl_ct, wp_Expr, wp_Ret, wp_sIf, wp_N, wp_gNil, wp_gCons, wp_gTup, wp_gSub, wp_two, wp_Run, wp_run_rt, wp_run_nx, wp_bk_nx, wp_bk_ct, wp_bk_bk, wp_bk_rt, wp_r1, wp_r2, wp_add, wp_addL, wp_addS, wp_mul, wp_fdiv, wp_mod, wp_I0, wp_eqI, wp_eqS, wp_eqB, wp_neI, wp_neS, wp_neB, wp_isN, wp_notN, isn_int, isn_non, isn_str, isn_tup, isn_lst, isn_ref, isn_bl, wp_isi, wp_someB, isi_str_str, isi_int_int, isi_int_bl, isi_bool_int, isi_bool_bl, isi_int_non, isi_int_str, isi_tuple_tup, wp_abs, wp_max2, wp_min2, wp_maxT, wp_intI, wp_intB, wp_lenS, wp_lenT, wp_lenL, wp_lenC, wp_divmod, wp_listL, wp_listT, wp_tupL, wp_tupT, wp_KIn, wp_strE, wp_Fld, wp_FldO, wp_Meth, wp_MakeF, wp_someL, wp_iR1, wp_iR2, wp_iLst, wp_iTup, wp_Prop, wp_IsC, wp_DGet1, wp_DIn, wp_gUnl, wp_DictK, wp_rep, wp_MethK, wp_CallK, wp_DispF, wp_DIx, wp_someX, wp_ixL, wp_ixT, wp_ixC, atI0, atI1, atI2, ixN0, ixN1, wp_Sl, wp_oNone, wp_oSome, wp_slC, wp_slL, wp_slS, str_eq, String.reduceEq, in_ring_crowd, in_ring_star, in_ring_pairs, in_ring_row, in_ring_ring, in_ring_core, in_ring_linked, in_ring_odd_ring, in_ring_even_ring, Bool.or_self, Bool.and_self, wp_Lc, wp_Yes, wp_pow10_9, wp_pow10_18, wp_pow10_40, wp_sFld, wp_last, set_last, wp_KIx, wp_inT, wp_inL, eqF_str, flat_str, flat_int, flat_non, List.any_cons, List.any_nil, List.all_cons, List.all_nil, Bool.and_true, Bool.or_false, Bool.true_and, Bool.false_and, Bool.and_false, Bool.false_or, Bool.or_true, Bool.true_or, Bool.not_not, List.map_cons, List.map_nil, List.length_cons, List.length_nil, List.cons_append, List.nil_append, List.append_nil, List.set_cons_zero, List.set_cons_succ, List.replicate_succ, List.replicate_zero, Nat.reduceSub, Nat.reduceAdd, Nat.reduceLeDiff, Nat.zero_add, Nat.sub_self, decide_eq_true_eq, Bool.not_eq_true', Bool.not_eq_eq_eq_not, Bool.not_true, Bool.not_false, decide_eq_false_iff_not, if_true, if_false, reduceIte, Bool.false_eq_true, true_and, and_true, decide_true, decide_false, Bool.true_eq_false, eq_self]
    rw [wp_Seq]
    simp only [R_some, wb_bl, wi_int, wstr_str, wtup_tup, wlst_lst, wref_ref, wp_var0, wp_varS, wp_C, wp_Bin, wp_neg, wp_nil, wp_cons, wp_tup, wp_lst, wp_lstM, wp_Call, wp_And, wp_Or, wp_Not, wp_Test, wp_tAnd, wp_tOr, wp_tNot, wp_Chain, wp_Skip, wp_Break, wp_Cont, wp_Never, wp_fNever, wp_pfl_nx, wp_pfl_rt, wp_pfl_bk, wp_pfl_ct, wp_Expr, wp_Ret, wp_sIf, wp_Asg, wp_N, wp_gNil, wp_gCons, wp_gTup, wp_gSub, wp_two, wp_Run, wp_run_rt, wp_run_nx, wp_bk_nx, wp_bk_ct, wp_bk_bk, wp_bk_rt, wp_r1, wp_r2, wp_add, wp_addL, wp_addS, wp_mul, wp_fdiv, wp_mod, wp_I0, wp_eqI, wp_eqS, wp_eqB, wp_neI, wp_neS, wp_neB, wp_isN, wp_notN, isn_int, isn_non, isn_str, isn_tup, isn_lst, isn_ref, isn_bl, wp_isi, wp_someB, isi_str_str, isi_int_int, isi_int_bl, isi_bool_int, isi_bool_bl, isi_int_non, isi_int_str, isi_tuple_tup, wp_abs, wp_max2, wp_min2, wp_maxT, wp_intI, wp_intB, wp_lenS, wp_lenT, wp_lenL, wp_lenC, wp_divmod, wp_listL, wp_listT, wp_tupL, wp_tupT, wp_KIn, wp_strE, wp_Fld, wp_FldO, wp_Meth, wp_MakeF, wp_someL, wp_iR1, wp_iR2, wp_iLst, wp_iTup, wp_Prop, wp_IsC, wp_DGet1, wp_DIn, wp_gUnl, wp_DictK, wp_rep, wp_MethK, wp_CallK, wp_DispF, wp_DIx, wp_someX, wp_ixL, wp_ixT, wp_ixC, atI0, atI1, atI2, ixN0, ixN1, wp_Sl, wp_oNone, wp_oSome, wp_slC, wp_slL, wp_slS, str_eq, String.reduceEq, in_ring_crowd, in_ring_star, in_ring_pairs, in_ring_row, in_ring_ring, in_ring_core, in_ring_linked, in_ring_odd_ring, in_ring_even_ring, Bool.or_self, Bool.and_self, wp_Lc, wp_Yes, wp_pow10_9, wp_pow10_18, wp_pow10_40, wp_sFld, wp_last, set_last, wp_KIx, wp_inT, wp_inL, eqF_str, flat_str, flat_int, flat_non, List.any_cons, List.any_nil, List.all_cons, List.all_nil, Bool.and_true, Bool.or_false, Bool.true_and, Bool.false_and, Bool.and_false, Bool.false_or, Bool.or_true, Bool.true_or, Bool.not_not, List.map_cons, List.map_nil, List.length_cons, List.length_nil, List.cons_append, List.nil_append, List.append_nil, List.set_cons_zero, List.set_cons_succ, List.replicate_succ, List.replicate_zero, Nat.reduceSub, Nat.reduceAdd, Nat.reduceLeDiff, Nat.zero_add, Nat.sub_self, decide_eq_true_eq, Bool.not_eq_true', Bool.not_eq_eq_eq_not, Bool.not_true, Bool.not_false, decide_eq_false_iff_not, if_true, if_false, reduceIte, Bool.false_eq_true, true_and, and_true, decide_true, decide_false, Bool.true_eq_false, eq_self]
    refine r_draw hi (by decide) (by decide) fun r0 S3 a0 a1 hi3 a3 => ?_
    obtain ⟨mm, m0, m1, hat⟩ := at_640 a0 a1
    try simp only [R_some, wb_bl, wi_int, wstr_str, wtup_tup, wlst_lst, wref_ref, wp_var0, wp_varS, wp_C, wp_Bin, wp_neg, wp_nil, wp_cons, wp_tup, wp_lst, wp_lstM, wp_Call, wp_And, wp_Or, wp_Not, wp_Test, wp_tAnd, wp_tOr, wp_tNot, wp_Chain, wp_Skip, wp_Break, wp_Cont, wp_Never, wp_fNever, wp_pfl_nx, wp_pfl_rt, wp_pfl_bk, wp_pfl_ct, wp_Expr, wp_Ret, wp_sIf, wp_Asg, wp_N, wp_gNil, wp_gCons, wp_gTup, wp_gSub, wp_two, wp_Run, wp_run_rt, wp_run_nx, wp_bk_nx, wp_bk_ct, wp_bk_bk, wp_bk_rt, wp_r1, wp_r2, wp_add, wp_addL, wp_addS, wp_mul, wp_fdiv, wp_mod, wp_I0, wp_eqI, wp_eqS, wp_eqB, wp_neI, wp_neS, wp_neB, wp_isN, wp_notN, isn_int, isn_non, isn_str, isn_tup, isn_lst, isn_ref, isn_bl, wp_isi, wp_someB, isi_str_str, isi_int_int, isi_int_bl, isi_bool_int, isi_bool_bl, isi_int_non, isi_int_str, isi_tuple_tup, wp_abs, wp_max2, wp_min2, wp_maxT, wp_intI, wp_intB, wp_lenS, wp_lenT, wp_lenL, wp_lenC, wp_divmod, wp_listL, wp_listT, wp_tupL, wp_tupT, wp_KIn, wp_strE, wp_Fld, wp_FldO, wp_Meth, wp_MakeF, wp_someL, wp_iR1, wp_iR2, wp_iLst, wp_iTup, wp_Prop, wp_IsC, wp_DGet1, wp_DIn, wp_gUnl, wp_DictK, wp_rep, wp_MethK, wp_CallK, wp_DispF, wp_DIx, wp_someX, wp_ixL, wp_ixT, wp_ixC, atI0, atI1, atI2, ixN0, ixN1, wp_Sl, wp_oNone, wp_oSome, wp_slC, wp_slL, wp_slS, str_eq, String.reduceEq, in_ring_crowd, in_ring_star, in_ring_pairs, in_ring_row, in_ring_ring, in_ring_core, in_ring_linked, in_ring_odd_ring, in_ring_even_ring, Bool.or_self, Bool.and_self, wp_Lc, wp_Yes, wp_pow10_9, wp_pow10_18, wp_pow10_40, wp_sFld, wp_last, set_last, wp_KIx, wp_inT, wp_inL, eqF_str, flat_str, flat_int, flat_non, List.any_cons, List.any_nil, List.all_cons, List.all_nil, Bool.and_true, Bool.or_false, Bool.true_and, Bool.false_and, Bool.and_false, Bool.false_or, Bool.or_true, Bool.true_or, Bool.not_not, List.map_cons, List.map_nil, List.length_cons, List.length_nil, List.cons_append, List.nil_append, List.append_nil, List.set_cons_zero, List.set_cons_succ, List.replicate_succ, List.replicate_zero, Nat.reduceSub, Nat.reduceAdd, Nat.reduceLeDiff, Nat.zero_add, Nat.sub_self, decide_eq_true_eq, Bool.not_eq_true', Bool.not_eq_eq_eq_not, Bool.not_true, Bool.not_false, decide_eq_false_iff_not, if_true, if_false, reduceIte, Bool.false_eq_true, true_and, and_true, decide_true, decide_false, Bool.true_eq_false, eq_self]
    refine ⟨_, hat, ?_⟩
    refine r_draw hi3 m0 (by omega) fun r S4 b0 b1 hi4 b3 => ?_
    obtain ⟨m, rfl⟩ := Int.eq_ofNat_of_zero_le b0
    rcases hb with ⟨lo, rfl, hF⟩ | ⟨rfl, hF⟩
    · have hFm := hF m (by omega)
      have hmk : mkF_Thing [.str kd, .int (lo + (m : Int))] = some [.str kd, .int (lo + (m : Int))] := by
        obtain ⟨t, K, _⟩ := hFm 0 (by omega)
        rw [Int.add_comm]
        exact K.made
      rw [wp_Seq]
      simp only [R_some, wb_bl, wi_int, wstr_str, wtup_tup, wlst_lst, wref_ref, wp_var0, wp_varS, wp_C, wp_Bin, wp_neg, wp_nil, wp_cons, wp_tup, wp_lst, wp_lstM, wp_Call, wp_And, wp_Or, wp_Not, wp_Test, wp_tAnd, wp_tOr, wp_tNot, wp_If, wp_Chain, wp_Skip, wp_Break, wp_Cont, wp_Never, wp_fNever, wp_pfl_nx, wp_pfl_rt, wp_pfl_bk, wp_pfl_ct, wp_Expr, wp_Ret, wp_sIf, wp_Asg, wp_N, wp_gNil, wp_gCons, wp_gTup, wp_gSub, wp_two, wp_Run, wp_run_rt, wp_run_nx, wp_bk_nx, wp_bk_ct, wp_bk_bk, wp_bk_rt, wp_r1, wp_r2, wp_add, wp_addL, wp_addS, wp_mul, wp_fdiv, wp_mod, wp_I0, wp_eqI, wp_eqS, wp_eqB, wp_neI, wp_neS, wp_neB, wp_isN, wp_notN, isn_int, isn_non, isn_str, isn_tup, isn_lst, isn_ref, isn_bl, wp_isi, wp_someB, isi_str_str, isi_int_int, isi_int_bl, isi_bool_int, isi_bool_bl, isi_int_non, isi_int_str, isi_tuple_tup, wp_abs, wp_max2, wp_min2, wp_maxT, wp_intI, wp_intB, wp_lenS, wp_lenT, wp_lenL, wp_lenC, wp_divmod, wp_listL, wp_listT, wp_tupL, wp_tupT, wp_KIn, wp_strE, wp_Fld, wp_FldO, wp_Meth, wp_MakeF, wp_someL, wp_iR1, wp_iR2, wp_iLst, wp_iTup, wp_Prop, wp_IsC, wp_DGet1, wp_DIn, wp_gUnl, wp_DictK, wp_rep, wp_MethK, wp_CallK, wp_DispF, wp_DIx, wp_someX, wp_ixL, wp_ixT, wp_ixC, atI0, atI1, atI2, ixN0, ixN1, wp_Sl, wp_oNone, wp_oSome, wp_slC, wp_slL, wp_slS, str_eq, String.reduceEq, in_ring_crowd, in_ring_star, in_ring_pairs, in_ring_row, in_ring_ring, in_ring_core, in_ring_linked, in_ring_odd_ring, in_ring_even_ring, Bool.or_self, Bool.and_self, wp_Lc, wp_Yes, wp_pow10_9, wp_pow10_18, wp_pow10_40, wp_sFld, wp_last, set_last, wp_KIx, wp_inT, wp_inL, eqF_str, flat_str, flat_int, flat_non, List.any_cons, List.any_nil, List.all_cons, List.all_nil, Bool.and_true, Bool.or_false, Bool.true_and, Bool.false_and, Bool.and_false, Bool.false_or, Bool.or_true, Bool.true_or, Bool.not_not, List.map_cons, List.map_nil, List.length_cons, List.length_nil, List.cons_append, List.nil_append, List.append_nil, List.set_cons_zero, List.set_cons_succ, List.replicate_succ, List.replicate_zero, Nat.reduceSub, Nat.reduceAdd, Nat.reduceLeDiff, Nat.zero_add, Nat.sub_self, decide_eq_true_eq, Bool.not_eq_true', Bool.not_eq_eq_eq_not, Bool.not_true, Bool.not_false, decide_eq_false_iff_not, if_true, if_false, reduceIte, Bool.false_eq_true, true_and, and_true, decide_true, decide_false, Bool.true_eq_false, eq_self]
      rw [wp_Seq, wp_Par]
      simp only [R_some, wb_bl, wi_int, wstr_str, wtup_tup, wlst_lst, wref_ref, wp_var0, wp_varS, wp_C, wp_Bin, wp_neg, wp_nil, wp_cons, wp_tup, wp_lst, wp_lstM, wp_Call, wp_And, wp_Or, wp_Not, wp_Test, wp_tAnd, wp_tOr, wp_tNot, wp_If, wp_Chain, wp_Skip, wp_Break, wp_Cont, wp_Never, wp_fNever, wp_pfl_nx, wp_pfl_rt, wp_pfl_bk, wp_pfl_ct, wp_Expr, wp_Ret, wp_sIf, wp_Asg, wp_N, wp_gNil, wp_gCons, wp_gTup, wp_gSub, wp_two, wp_Run, wp_run_rt, wp_run_nx, wp_bk_nx, wp_bk_ct, wp_bk_bk, wp_bk_rt, wp_r1, wp_r2, wp_add, wp_addL, wp_addS, wp_mul, wp_fdiv, wp_mod, wp_I0, wp_eqI, wp_eqS, wp_eqB, wp_neI, wp_neS, wp_neB, wp_isN, wp_notN, isn_int, isn_non, isn_str, isn_tup, isn_lst, isn_ref, isn_bl, wp_isi, wp_someB, isi_str_str, isi_int_int, isi_int_bl, isi_bool_int, isi_bool_bl, isi_int_non, isi_int_str, isi_tuple_tup, wp_abs, wp_max2, wp_min2, wp_maxT, wp_intI, wp_intB, wp_lenS, wp_lenT, wp_lenL, wp_lenC, wp_divmod, wp_listL, wp_listT, wp_tupL, wp_tupT, wp_KIn, wp_strE, wp_Fld, wp_FldO, wp_Meth, wp_MakeF, wp_someL, wp_iR1, wp_iR2, wp_iLst, wp_iTup, wp_Prop, wp_IsC, wp_DGet1, wp_DIn, wp_gUnl, wp_DictK, wp_rep, wp_MethK, wp_CallK, wp_DispF, wp_DIx, wp_someX, wp_ixL, wp_ixT, wp_ixC, atI0, atI1, atI2, ixN0, ixN1, wp_Sl, wp_oNone, wp_oSome, wp_slC, wp_slL, wp_slS, str_eq, String.reduceEq, in_ring_crowd, in_ring_star, in_ring_pairs, in_ring_row, in_ring_ring, in_ring_core, in_ring_linked, in_ring_odd_ring, in_ring_even_ring, Bool.or_self, Bool.and_self, wp_Lc, wp_Yes, wp_pow10_9, wp_pow10_18, wp_pow10_40, wp_sFld, wp_last, set_last, wp_KIx, wp_inT, wp_inL, eqF_str, flat_str, flat_int, flat_non, List.any_cons, List.any_nil, List.all_cons, List.all_nil, Bool.and_true, Bool.or_false, Bool.true_and, Bool.false_and, Bool.and_false, Bool.false_or, Bool.or_true, Bool.true_or, Bool.not_not, List.map_cons, List.map_nil, List.length_cons, List.length_nil, List.cons_append, List.nil_append, List.append_nil, List.set_cons_zero, List.set_cons_succ, List.replicate_succ, List.replicate_zero, Nat.reduceSub, Nat.reduceAdd, Nat.reduceLeDiff, Nat.zero_add, Nat.sub_self, decide_eq_true_eq, Bool.not_eq_true', Bool.not_eq_eq_eq_not, Bool.not_true, Bool.not_false, decide_eq_false_iff_not, if_true, if_false, reduceIte, Bool.false_eq_true, true_and, and_true, decide_true, decide_false, Bool.true_eq_false, eq_self, hmk]
      refine r_draw hi4 (by decide) (by decide) fun rn S5 c0 c1 hi5 c3 => ?_
      obtain ⟨n, rfl⟩ := Int.eq_ofNat_of_zero_le c0
      obtain ⟨t, K, hs⟩ := hFm n (by omega)
      rw [Int.add_comm] at K hs
      try simp only [R_some, wb_bl, wi_int, wstr_str, wtup_tup, wlst_lst, wref_ref, wp_var0, wp_varS, wp_C, wp_Bin, wp_neg, wp_nil, wp_cons, wp_tup, wp_lst, wp_lstM, wp_Call, wp_And, wp_Or, wp_Not, wp_Test, wp_tAnd, wp_tOr, wp_tNot, wp_Chain, wp_Skip, wp_Break, wp_Cont, wp_Never, wp_fNever, wp_pfl_nx, wp_pfl_rt, wp_pfl_bk, wp_pfl_ct, wp_Expr, wp_Ret, wp_sIf, wp_Asg, wp_N, wp_gNil, wp_gCons, wp_gTup, wp_gSub, wp_two, wp_Run, wp_run_rt, wp_run_nx, wp_bk_nx, wp_bk_ct, wp_bk_bk, wp_bk_rt, wp_r1, wp_r2, wp_add, wp_addL, wp_addS, wp_mul, wp_fdiv, wp_mod, wp_I0, wp_eqI, wp_eqS, wp_eqB, wp_neI, wp_neS, wp_neB, wp_isN, wp_notN, isn_int, isn_non, isn_str, isn_tup, isn_lst, isn_ref, isn_bl, wp_isi, wp_someB, isi_str_str, isi_int_int, isi_int_bl, isi_bool_int, isi_bool_bl, isi_int_non, isi_int_str, isi_tuple_tup, wp_abs, wp_max2, wp_min2, wp_maxT, wp_intI, wp_intB, wp_lenS, wp_lenT, wp_lenL, wp_lenC, wp_divmod, wp_listL, wp_listT, wp_tupL, wp_tupT, wp_KIn, wp_strE, wp_Fld, wp_FldO, wp_Meth, wp_MakeF, wp_someL, wp_iR1, wp_iR2, wp_iLst, wp_iTup, wp_Prop, wp_IsC, wp_DGet1, wp_DIn, wp_gUnl, wp_DictK, wp_rep, wp_MethK, wp_CallK, wp_DispF, wp_DIx, wp_someX, wp_ixL, wp_ixT, wp_ixC, atI0, atI1, atI2, ixN0, ixN1, wp_Sl, wp_oNone, wp_oSome, wp_slC, wp_slL, wp_slS, str_eq, String.reduceEq, in_ring_crowd, in_ring_star, in_ring_pairs, in_ring_row, in_ring_ring, in_ring_core, in_ring_linked, in_ring_odd_ring, in_ring_even_ring, Bool.or_self, Bool.and_self, wp_Lc, wp_Yes, wp_pow10_9, wp_pow10_18, wp_pow10_40, wp_sFld, wp_last, set_last, wp_KIx, wp_inT, wp_inL, eqF_str, flat_str, flat_int, flat_non, List.any_cons, List.any_nil, List.all_cons, List.all_nil, Bool.and_true, Bool.or_false, Bool.true_and, Bool.false_and, Bool.and_false, Bool.false_or, Bool.or_true, Bool.true_or, Bool.not_not, List.map_cons, List.map_nil, List.length_cons, List.length_nil, List.cons_append, List.nil_append, List.append_nil, List.set_cons_zero, List.set_cons_succ, List.replicate_succ, List.replicate_zero, Nat.reduceSub, Nat.reduceAdd, Nat.reduceLeDiff, Nat.zero_add, Nat.sub_self, decide_eq_true_eq, Bool.not_eq_true', Bool.not_eq_eq_eq_not, Bool.not_true, Bool.not_false, decide_eq_false_iff_not, if_true, if_false, reduceIte, Bool.false_eq_true, true_and, and_true, decide_true, decide_false, Bool.true_eq_false, eq_self]
      exact turn_ok (by omega) K (fun _ => hs) fun e8 e9 e10 e11 c => ⟨hi5.app _, _, _, _, _, _, _, _, _, _, _, _, rfl⟩
    · have hmk : mkF_Thing [.str kd, .non] = some [.str kd, .non] := by
        obtain ⟨t, K, _⟩ := hF 0 (by omega)
        exact K.made
      rw [wp_Seq]
      simp only [R_some, wb_bl, wi_int, wstr_str, wtup_tup, wlst_lst, wref_ref, wp_var0, wp_varS, wp_C, wp_Bin, wp_neg, wp_nil, wp_cons, wp_tup, wp_lst, wp_lstM, wp_Call, wp_And, wp_Or, wp_Not, wp_Test, wp_tAnd, wp_tOr, wp_tNot, wp_If, wp_Chain, wp_Skip, wp_Break, wp_Cont, wp_Never, wp_fNever, wp_pfl_nx, wp_pfl_rt, wp_pfl_bk, wp_pfl_ct, wp_Expr, wp_Ret, wp_sIf, wp_Asg, wp_N, wp_gNil, wp_gCons, wp_gTup, wp_gSub, wp_two, wp_Run, wp_run_rt, wp_run_nx, wp_bk_nx, wp_bk_ct, wp_bk_bk, wp_bk_rt, wp_r1, wp_r2, wp_add, wp_addL, wp_addS, wp_mul, wp_fdiv, wp_mod, wp_I0, wp_eqI, wp_eqS, wp_eqB, wp_neI, wp_neS, wp_neB, wp_isN, wp_notN, isn_int, isn_non, isn_str, isn_tup, isn_lst, isn_ref, isn_bl, wp_isi, wp_someB, isi_str_str, isi_int_int, isi_int_bl, isi_bool_int, isi_bool_bl, isi_int_non, isi_int_str, isi_tuple_tup, wp_abs, wp_max2, wp_min2, wp_maxT, wp_intI, wp_intB, wp_lenS, wp_lenT, wp_lenL, wp_lenC, wp_divmod, wp_listL, wp_listT, wp_tupL, wp_tupT, wp_KIn, wp_strE, wp_Fld, wp_FldO, wp_Meth, wp_MakeF, wp_someL, wp_iR1, wp_iR2, wp_iLst, wp_iTup, wp_Prop, wp_IsC, wp_DGet1, wp_DIn, wp_gUnl, wp_DictK, wp_rep, wp_MethK, wp_CallK, wp_DispF, wp_DIx, wp_someX, wp_ixL, wp_ixT, wp_ixC, atI0, atI1, atI2, ixN0, ixN1, wp_Sl, wp_oNone, wp_oSome, wp_slC, wp_slL, wp_slS, str_eq, String.reduceEq, in_ring_crowd, in_ring_star, in_ring_pairs, in_ring_row, in_ring_ring, in_ring_core, in_ring_linked, in_ring_odd_ring, in_ring_even_ring, Bool.or_self, Bool.and_self, wp_Lc, wp_Yes, wp_pow10_9, wp_pow10_18, wp_pow10_40, wp_sFld, wp_last, set_last, wp_KIx, wp_inT, wp_inL, eqF_str, flat_str, flat_int, flat_non, List.any_cons, List.any_nil, List.all_cons, List.all_nil, Bool.and_true, Bool.or_false, Bool.true_and, Bool.false_and, Bool.and_false, Bool.false_or, Bool.or_true, Bool.true_or, Bool.not_not, List.map_cons, List.map_nil, List.length_cons, List.length_nil, List.cons_append, List.nil_append, List.append_nil, List.set_cons_zero, List.set_cons_succ, List.replicate_succ, List.replicate_zero, Nat.reduceSub, Nat.reduceAdd, Nat.reduceLeDiff, Nat.zero_add, Nat.sub_self, decide_eq_true_eq, Bool.not_eq_true', Bool.not_eq_eq_eq_not, Bool.not_true, Bool.not_false, decide_eq_false_iff_not, if_true, if_false, reduceIte, Bool.false_eq_true, true_and, and_true, decide_true, decide_false, Bool.true_eq_false, eq_self]
      rw [wp_Seq, wp_Par]
      simp only [R_some, wb_bl, wi_int, wstr_str, wtup_tup, wlst_lst, wref_ref, wp_var0, wp_varS, wp_C, wp_Bin, wp_neg, wp_nil, wp_cons, wp_tup, wp_lst, wp_lstM, wp_Call, wp_And, wp_Or, wp_Not, wp_Test, wp_tAnd, wp_tOr, wp_tNot, wp_If, wp_Chain, wp_Skip, wp_Break, wp_Cont, wp_Never, wp_fNever, wp_pfl_nx, wp_pfl_rt, wp_pfl_bk, wp_pfl_ct, wp_Expr, wp_Ret, wp_sIf, wp_Asg, wp_N, wp_gNil, wp_gCons, wp_gTup, wp_gSub, wp_two, wp_Run, wp_run_rt, wp_run_nx, wp_bk_nx, wp_bk_ct, wp_bk_bk, wp_bk_rt, wp_r1, wp_r2, wp_add, wp_addL, wp_addS, wp_mul, wp_fdiv, wp_mod, wp_I0, wp_eqI, wp_eqS, wp_eqB, wp_neI, wp_neS, wp_neB, wp_isN, wp_notN, isn_int, isn_non, isn_str, isn_tup, isn_lst, isn_ref, isn_bl, wp_isi, wp_someB, isi_str_str, isi_int_int, isi_int_bl, isi_bool_int, isi_bool_bl, isi_int_non, isi_int_str, isi_tuple_tup, wp_abs, wp_max2, wp_min2, wp_maxT, wp_intI, wp_intB, wp_lenS, wp_lenT, wp_lenL, wp_lenC, wp_divmod, wp_listL, wp_listT, wp_tupL, wp_tupT, wp_KIn, wp_strE, wp_Fld, wp_FldO, wp_Meth, wp_MakeF, wp_someL, wp_iR1, wp_iR2, wp_iLst, wp_iTup, wp_Prop, wp_IsC, wp_DGet1, wp_DIn, wp_gUnl, wp_DictK, wp_rep, wp_MethK, wp_CallK, wp_DispF, wp_DIx, wp_someX, wp_ixL, wp_ixT, wp_ixC, atI0, atI1, atI2, ixN0, ixN1, wp_Sl, wp_oNone, wp_oSome, wp_slC, wp_slL, wp_slS, str_eq, String.reduceEq, in_ring_crowd, in_ring_star, in_ring_pairs, in_ring_row, in_ring_ring, in_ring_core, in_ring_linked, in_ring_odd_ring, in_ring_even_ring, Bool.or_self, Bool.and_self, wp_Lc, wp_Yes, wp_pow10_9, wp_pow10_18, wp_pow10_40, wp_sFld, wp_last, set_last, wp_KIx, wp_inT, wp_inL, eqF_str, flat_str, flat_int, flat_non, List.any_cons, List.any_nil, List.all_cons, List.all_nil, Bool.and_true, Bool.or_false, Bool.true_and, Bool.false_and, Bool.and_false, Bool.false_or, Bool.or_true, Bool.true_or, Bool.not_not, List.map_cons, List.map_nil, List.length_cons, List.length_nil, List.cons_append, List.nil_append, List.append_nil, List.set_cons_zero, List.set_cons_succ, List.replicate_succ, List.replicate_zero, Nat.reduceSub, Nat.reduceAdd, Nat.reduceLeDiff, Nat.zero_add, Nat.sub_self, decide_eq_true_eq, Bool.not_eq_true', Bool.not_eq_eq_eq_not, Bool.not_true, Bool.not_false, decide_eq_false_iff_not, if_true, if_false, reduceIte, Bool.false_eq_true, true_and, and_true, decide_true, decide_false, Bool.true_eq_false, eq_self, hmk]
      refine r_draw hi4 (by decide) (by decide) fun rn S5 c0 c1 hi5 c3 => ?_
      obtain ⟨n, rfl⟩ := Int.eq_ofNat_of_zero_le c0
      obtain ⟨t, K, hs⟩ := hF n (by omega)
      try simp only [R_some, wb_bl, wi_int, wstr_str, wtup_tup, wlst_lst, wref_ref, wp_var0, wp_varS, wp_C, wp_Bin, wp_neg, wp_nil, wp_cons, wp_tup, wp_lst, wp_lstM, wp_Call, wp_And, wp_Or, wp_Not, wp_Test, wp_tAnd, wp_tOr, wp_tNot, wp_Chain, wp_Skip, wp_Break, wp_Cont, wp_Never, wp_fNever, wp_pfl_nx, wp_pfl_rt, wp_pfl_bk, wp_pfl_ct, wp_Expr, wp_Ret, wp_sIf, wp_Asg, wp_N, wp_gNil, wp_gCons, wp_gTup, wp_gSub, wp_two, wp_Run, wp_run_rt, wp_run_nx, wp_bk_nx, wp_bk_ct, wp_bk_bk, wp_bk_rt, wp_r1, wp_r2, wp_add, wp_addL, wp_addS, wp_mul, wp_fdiv, wp_mod, wp_I0, wp_eqI, wp_eqS, wp_eqB, wp_neI, wp_neS, wp_neB, wp_isN, wp_notN, isn_int, isn_non, isn_str, isn_tup, isn_lst, isn_ref, isn_bl, wp_isi, wp_someB, isi_str_str, isi_int_int, isi_int_bl, isi_bool_int, isi_bool_bl, isi_int_non, isi_int_str, isi_tuple_tup, wp_abs, wp_max2, wp_min2, wp_maxT, wp_intI, wp_intB, wp_lenS, wp_lenT, wp_lenL, wp_lenC, wp_divmod, wp_listL, wp_listT, wp_tupL, wp_tupT, wp_KIn, wp_strE, wp_Fld, wp_FldO, wp_Meth, wp_MakeF, wp_someL, wp_iR1, wp_iR2, wp_iLst, wp_iTup, wp_Prop, wp_IsC, wp_DGet1, wp_DIn, wp_gUnl, wp_DictK, wp_rep, wp_MethK, wp_CallK, wp_DispF, wp_DIx, wp_someX, wp_ixL, wp_ixT, wp_ixC, atI0, atI1, atI2, ixN0, ixN1, wp_Sl, wp_oNone, wp_oSome, wp_slC, wp_slL, wp_slS, str_eq, String.reduceEq, in_ring_crowd, in_ring_star, in_ring_pairs, in_ring_row, in_ring_ring, in_ring_core, in_ring_linked, in_ring_odd_ring, in_ring_even_ring, Bool.or_self, Bool.and_self, wp_Lc, wp_Yes, wp_pow10_9, wp_pow10_18, wp_pow10_40, wp_sFld, wp_last, set_last, wp_KIx, wp_inT, wp_inL, eqF_str, flat_str, flat_int, flat_non, List.any_cons, List.any_nil, List.all_cons, List.all_nil, Bool.and_true, Bool.or_false, Bool.true_and, Bool.false_and, Bool.and_false, Bool.false_or, Bool.or_true, Bool.true_or, Bool.not_not, List.map_cons, List.map_nil, List.length_cons, List.length_nil, List.cons_append, List.nil_append, List.append_nil, List.set_cons_zero, List.set_cons_succ, List.replicate_succ, List.replicate_zero, Nat.reduceSub, Nat.reduceAdd, Nat.reduceLeDiff, Nat.zero_add, Nat.sub_self, decide_eq_true_eq, Bool.not_eq_true', Bool.not_eq_eq_eq_not, Bool.not_true, Bool.not_false, decide_eq_false_iff_not, if_true, if_false, reduceIte, Bool.false_eq_true, true_and, and_true, decide_true, decide_false, Bool.true_eq_false, eq_self]
      exact turn_ok (by omega) K (fun _ => hs) fun e8 e9 e10 e11 c => ⟨hi5.app _, _, _, _, _, _, _, _, _, _, _, _, rfl⟩
  · rintro env S2 ⟨hi, e1, e2, e3, e4, e5, e6, e7, e8, e9, e10, e11, rfl⟩
    simp only [R_some, wb_bl, wi_int, wstr_str, wtup_tup, wlst_lst, wref_ref, wp_var0, wp_varS, wp_C, wp_Bin, wp_neg, wp_nil, wp_cons, wp_tup, wp_lst, wp_lstM, wp_Call, wp_And, wp_Or, wp_Not, wp_Test, wp_tAnd, wp_tOr, wp_tNot, wp_If, wp_Chain, wp_Skip, wp_Break, wp_Cont, wp_Never, wp_fNever, wp_Seq, wp_pfl_nx, wp_pfl_rt, wp_pfl_bk, wp_pfl_ct, wp_Expr, wp_Ret, wp_sIf, wp_Asg, wp_N, wp_gNil, wp_gCons, wp_gTup, wp_gSub, wp_Par, wp_two, wp_Run, wp_run_rt, wp_run_nx, wp_bk_nx, wp_bk_ct, wp_bk_bk, wp_bk_rt, wp_r1, wp_r2, wp_add, wp_addL, wp_addS, wp_mul, wp_fdiv, wp_mod, wp_I0, wp_eqI, wp_eqS, wp_eqB, wp_neI, wp_neS, wp_neB, wp_isN, wp_notN, isn_int, isn_non, isn_str, isn_tup, isn_lst, isn_ref, isn_bl, wp_isi, wp_someB, isi_str_str, isi_int_int, isi_int_bl, isi_bool_int, isi_bool_bl, isi_int_non, isi_int_str, isi_tuple_tup, wp_abs, wp_max2, wp_min2, wp_maxT, wp_intI, wp_intB, wp_lenS, wp_lenT, wp_lenL, wp_lenC, wp_divmod, wp_listL, wp_listT, wp_tupL, wp_tupT, wp_KIn, wp_strE, wp_Fld, wp_FldO, wp_Meth, wp_MakeF, wp_someL, wp_iR1, wp_iR2, wp_iLst, wp_iTup, wp_Prop, wp_IsC, wp_DGet1, wp_DIn, wp_gUnl, wp_DictK, wp_rep, wp_MethK, wp_CallK, wp_DispF, wp_DIx, wp_someX, wp_ixL, wp_ixT, wp_ixC, atI0, atI1, atI2, ixN0, ixN1, wp_Sl, wp_oNone, wp_oSome, wp_slC, wp_slL, wp_slS, str_eq, String.reduceEq, in_ring_crowd, in_ring_star, in_ring_pairs, in_ring_row, in_ring_ring, in_ring_core, in_ring_linked, in_ring_odd_ring, in_ring_even_ring, Bool.or_self, Bool.and_self, wp_Lc, wp_Yes, wp_pow10_9, wp_pow10_18, wp_pow10_40, wp_For, wp_sFld, wp_last, set_last, wp_KIx, wp_inT, wp_inL, eqF_str, flat_str, flat_int, flat_non, List.any_cons, List.any_nil, List.all_cons, List.all_nil, Bool.and_true, Bool.or_false, Bool.true_and, Bool.false_and, Bool.and_false, Bool.false_or, Bool.or_true, Bool.true_or, Bool.not_not, List.map_cons, List.map_nil, List.length_cons, List.length_nil, List.cons_append, List.nil_append, List.append_nil, List.set_cons_zero, List.set_cons_succ, List.replicate_succ, List.replicate_zero, Nat.reduceSub, Nat.reduceAdd, Nat.reduceLeDiff, Nat.zero_add, Nat.sub_self, decide_eq_true_eq, Bool.not_eq_true', Bool.not_eq_eq_eq_not, Bool.not_true, Bool.not_false, decide_eq_false_iff_not, if_true, if_false, reduceIte, Bool.false_eq_true, true_and, and_true, decide_true, decide_false, Bool.true_eq_false, eq_self]
theorem plain (ns : List Int) (h : ns.length ≤ 63) : ∃ S', lawD [.scr ns] [] = some (.bl true, S') := by
  have main : R (lawD [.scr ns] []) fun d S' => d = .bl true := r_run (r_ret (r_all ns h rfl rfl (by decide : (0 : Int) ≤ 2) (by decide) (fun S => rfl) (fun S i h => right_ok h) fun S => rfl))
  obtain ⟨d, S', e, rfl⟩ := main
  exact ⟨S', e⟩
end LW

namespace LW
open PySem PySem.Spec PyProof.Rows L2 DL
theorem all_mk {l : PySem.W.OpenLaw} {w : World} {K : PySem.W.Frag} {h : Heap} {mg : Str → Option Value} {fa : Addr} (X : K.In h) (G : h.Ns mainGlobals mg) (hfa : mg "law" = some (.ref fa))
    {t_MOST_ASKED : Tok}
    {g_LEAST : Addr} {es_LEAST : Array DictEntry} {cn_LEAST : Nat}
    {ga_PLAIN : Addr} {gd_PLAIN : Option Addr} {gi_PLAIN : Array Value} {gn_PLAIN : Nat} {gs_PLAIN : Array (Option Value)}
    {C_Thing : Addr}
    {f_is_integer : Addr} {od_is_integer an_is_integer : Option Addr} {sl_is_integer : Array (Option Value)} {oc_is_integer kV_is_integer dc_is_integer pm_is_integer cd_is_integer ct_is_integer : Value}
    {f_is_between : Addr} {od_is_between an_is_between : Option Addr} {sl_is_between : Array (Option Value)} {oc_is_between kV_is_between dc_is_between pm_is_between cd_is_between ct_is_between : Value}
    {f_check_people : Addr} {od_check_people an_check_people : Option Addr} {sl_check_people : Array (Option Value)} {oc_check_people kV_check_people dc_check_people pm_check_people cd_check_people ct_check_people : Value}
    {f_check_two : Addr} {od_check_two an_check_two : Option Addr} {sl_check_two : Array (Option Value)} {oc_check_two kV_check_two dc_check_two pm_check_two cd_check_two ct_check_two : Value}
    {f_pairs_of : Addr} {od_pairs_of an_pairs_of : Option Addr} {sl_pairs_of : Array (Option Value)} {oc_pairs_of kV_pairs_of dc_pairs_of pm_pairs_of cd_pairs_of ct_pairs_of : Value}
    {f_most_pairs : Addr} {od_most_pairs an_most_pairs : Option Addr} {sl_most_pairs : Array (Option Value)} {oc_most_pairs kV_most_pairs dc_most_pairs pm_most_pairs cd_most_pairs ct_most_pairs : Value}
    {f_most_rings : Addr} {od_most_rings an_most_rings : Option Addr} {sl_most_rings : Array (Option Value)} {oc_most_rings kV_most_rings dc_most_rings pm_most_rings cd_most_rings ct_most_rings : Value}
    {f_most_groups : Addr} {od_most_groups an_most_groups : Option Addr} {sl_most_groups : Array (Option Value)} {oc_most_groups kV_most_groups dc_most_groups pm_most_groups cd_most_groups ct_most_groups : Value}
    {f_is_all_tied : Addr} {od_is_all_tied an_is_all_tied : Option Addr} {sl_is_all_tied : Array (Option Value)} {oc_is_all_tied kV_is_all_tied dc_is_all_tied pm_is_all_tied cd_is_all_tied ct_is_all_tied : Value}
    {f_most_of : Addr} {od_most_of an_most_of : Option Addr} {sl_most_of : Array (Option Value)} {oc_most_of kV_most_of dc_most_of pm_most_of cd_most_of ct_most_of : Value}
    {f_is_star_tie : Addr} {od_is_star_tie an_is_star_tie : Option Addr} {sl_is_star_tie : Array (Option Value)} {oc_is_star_tie kV_is_star_tie dc_is_star_tie pm_is_star_tie cd_is_star_tie ct_is_star_tie : Value}
    {f_is_ring_tie : Addr} {od_is_ring_tie an_is_ring_tie : Option Addr} {sl_is_ring_tie : Array (Option Value)} {oc_is_ring_tie kV_is_ring_tie dc_is_ring_tie pm_is_ring_tie cd_is_ring_tie ct_is_ring_tie : Value}
    {f_is_rule_tie : Addr} {od_is_rule_tie an_is_rule_tie : Option Addr} {sl_is_rule_tie : Array (Option Value)} {oc_is_rule_tie kV_is_rule_tie dc_is_rule_tie pm_is_rule_tie cd_is_rule_tie ct_is_rule_tie : Value}
    {f_Thing___init__ : Addr} {od_Thing___init__ an_Thing___init__ : Option Addr} {sl_Thing___init__ : Array (Option Value)} {oc_Thing___init__ kV_Thing___init__ dc_Thing___init__ pm_Thing___init__ cd_Thing___init__ ct_Thing___init__ : Value}
    {dt_Thing___init__ : Addr} {do_Thing___init__ : Value} {dd_Thing___init__ : Option Addr} {di_Thing___init__ : Array Value} {dn_Thing___init__ : Nat} {ds_Thing___init__ : Array (Option Value)}
    {f_Thing_most : Addr} {od_Thing_most an_Thing_most : Option Addr} {sl_Thing_most : Array (Option Value)} {oc_Thing_most kV_Thing_most dc_Thing_most pm_Thing_most cd_Thing_most ct_Thing_most : Value}
    {f_Thing_tied : Addr} {od_Thing_tied an_Thing_tied : Option Addr} {sl_Thing_tied : Array (Option Value)} {oc_Thing_tied kV_Thing_tied dc_Thing_tied pm_Thing_tied cd_Thing_tied ct_Thing_tied : Value}
    {f__law_purse : Addr} {od__law_purse an__law_purse : Option Addr} {sl__law_purse : Array (Option Value)} {oc__law_purse kV__law_purse dc__law_purse pm__law_purse cd__law_purse ct__law_purse : Value}
    {f__law_draw : Addr} {od__law_draw an__law_draw : Option Addr} {sl__law_draw : Array (Option Value)} {oc__law_draw kV__law_draw dc__law_draw pm__law_draw cd__law_draw ct__law_draw : Value}
    {f__law_all : Addr} {od__law_all an__law_all : Option Addr} {sl__law_all : Array (Option Value)} {oc__law_all kV__law_all dc__law_all pm__law_all cd__law_all ct__law_all : Value}
    {f__law_two : Addr} {od__law_two an__law_two : Option Addr} {sl__law_two : Array (Option Value)} {oc__law_two kV__law_two dc__law_two pm__law_two cd__law_two ct__law_two : Value}
    {f__law_most : Addr} {od__law_most an__law_most : Option Addr} {sl__law_most : Array (Option Value)} {oc__law_most kV__law_most dc__law_most pm__law_most cd__law_most ct__law_most : Value}
    {f__law_right : Addr} {od__law_right an__law_right : Option Addr} {sl__law_right : Array (Option Value)} {oc__law_right kV__law_right dc__law_right pm__law_right cd__law_right ct__law_right : Value}
    {f_law : Addr} {od_law an_law : Option Addr} {sl_law : Array (Option Value)} {oc_law kV_law dc_law pm_law cd_law ct_law : Value}
    (n_abs : PySem.W.nsIn K mainGlobals "abs" = some none)
    (n_all : PySem.W.nsIn K mainGlobals "all" = some none)
    (n_bool : PySem.W.nsIn K mainGlobals "bool" = some none)
    (n_divmod : PySem.W.nsIn K mainGlobals "divmod" = some none)
    (n_int : PySem.W.nsIn K mainGlobals "int" = some none)
    (n_isinstance : PySem.W.nsIn K mainGlobals "isinstance" = some none)
    (n_len : PySem.W.nsIn K mainGlobals "len" = some none)
    (n_max : PySem.W.nsIn K mainGlobals "max" = some none)
    (n_min : PySem.W.nsIn K mainGlobals "min" = some none)
    (n_range : PySem.W.nsIn K mainGlobals "range" = some none)
    (n_str : PySem.W.nsIn K mainGlobals "str" = some none)
    (n_tuple : PySem.W.nsIn K mainGlobals "tuple" = some none)
    (c_MOST_ASKED : PySem.W.nsIn K mainGlobals "MOST_ASKED" = some (some (.int 10000000000000000000000000000000000000000 t_MOST_ASKED)))
    (k_LEAST : PySem.W.nsIn K mainGlobals "LEAST" = some (some (.ref g_LEAST)))
    (l_LEAST : K.lookup g_LEAST = some ⟨.type "dict", none, .dict es_LEAST cn_LEAST, #[]⟩)
    (o_LEAST : TabOk w.params tab_LEAST es_LEAST.toList)
    (y_LEAST : (g_LEAST == sysModules) = false)
    (ta_PLAIN : PySem.W.nsIn K mainGlobals "PLAIN" = some (some (.ref ga_PLAIN)))
    (tl_PLAIN : K.lookup ga_PLAIN = some ⟨.type "tuple", gd_PLAIN, .seq gi_PLAIN gn_PLAIN, gs_PLAIN⟩)
    (tz_PLAIN : gi_PLAIN.size ≤ sizeLine)
    (tv_PLAIN : Vals [.str "odd ring", .str "even ring"] gi_PLAIN.toList)
    (ca_Thing : PySem.W.nsIn K mainGlobals "Thing" = some (some (.ref C_Thing)))
    (cpg_Thing : PySem.W.plainGet K C_Thing Str.empty = true)
    (chd_Thing : PySem.W.hasDictIn K C_Thing = true)
    (cpo_Thing : PySem.W.plainOver K C_Thing = true)
    (csa_Thing : PySem.W.findIn K (.ref C_Thing) "__setattr__" = some (some (.builtin "object.__setattr__")))
    (cmk_Thing : PySem.W.makesIn K C_Thing = true)
    (ckp_Thing : PySem.W.keepIn K (.ref C_Thing) = true)
    (na_Thing_many : PySem.W.findIn K (.ref C_Thing) "many" = some none)
    (na_Thing_word : PySem.W.findIn K (.ref C_Thing) "word" = some none)
    (a_is_integer : PySem.W.nsIn K mainGlobals "is_integer" = some (some (.ref f_is_integer)))
    (l_is_integer : K.lookup f_is_integer = some ⟨oc_is_integer, od_is_integer, .func (PySem.W.fnOf "is_integer" "is_integer" (defArgs s_is_integer) (defBody s_is_integer) (defScope s_is_integer) .none kV_is_integer dc_is_integer pm_is_integer an_is_integer cd_is_integer ct_is_integer), sl_is_integer⟩)
    (c_is_integer : PySem.W.codeIn K cd_is_integer "is_integer" = true)
    (k_is_integer : PySem.W.keepIn K (.ref f_is_integer) = true)
    (a_is_between : PySem.W.nsIn K mainGlobals "is_between" = some (some (.ref f_is_between)))
    (l_is_between : K.lookup f_is_between = some ⟨oc_is_between, od_is_between, .func (PySem.W.fnOf "is_between" "is_between" (defArgs s_is_between) (defBody s_is_between) (defScope s_is_between) .none kV_is_between dc_is_between pm_is_between an_is_between cd_is_between ct_is_between), sl_is_between⟩)
    (c_is_between : PySem.W.codeIn K cd_is_between "is_between" = true)
    (k_is_between : PySem.W.keepIn K (.ref f_is_between) = true)
    (a_check_people : PySem.W.nsIn K mainGlobals "check_people" = some (some (.ref f_check_people)))
    (l_check_people : K.lookup f_check_people = some ⟨oc_check_people, od_check_people, .func (PySem.W.fnOf "check_people" "check_people" (defArgs s_check_people) (defBody s_check_people) (defScope s_check_people) .none kV_check_people dc_check_people pm_check_people an_check_people cd_check_people ct_check_people), sl_check_people⟩)
    (c_check_people : PySem.W.codeIn K cd_check_people "check_people" = true)
    (k_check_people : PySem.W.keepIn K (.ref f_check_people) = true)
    (a_check_two : PySem.W.nsIn K mainGlobals "check_two" = some (some (.ref f_check_two)))
    (l_check_two : K.lookup f_check_two = some ⟨oc_check_two, od_check_two, .func (PySem.W.fnOf "check_two" "check_two" (defArgs s_check_two) (defBody s_check_two) (defScope s_check_two) .none kV_check_two dc_check_two pm_check_two an_check_two cd_check_two ct_check_two), sl_check_two⟩)
    (c_check_two : PySem.W.codeIn K cd_check_two "check_two" = true)
    (k_check_two : PySem.W.keepIn K (.ref f_check_two) = true)
    (a_pairs_of : PySem.W.nsIn K mainGlobals "pairs_of" = some (some (.ref f_pairs_of)))
    (l_pairs_of : K.lookup f_pairs_of = some ⟨oc_pairs_of, od_pairs_of, .func (PySem.W.fnOf "pairs_of" "pairs_of" (defArgs s_pairs_of) (defBody s_pairs_of) (defScope s_pairs_of) .none kV_pairs_of dc_pairs_of pm_pairs_of an_pairs_of cd_pairs_of ct_pairs_of), sl_pairs_of⟩)
    (c_pairs_of : PySem.W.codeIn K cd_pairs_of "pairs_of" = true)
    (k_pairs_of : PySem.W.keepIn K (.ref f_pairs_of) = true)
    (a_most_pairs : PySem.W.nsIn K mainGlobals "most_pairs" = some (some (.ref f_most_pairs)))
    (l_most_pairs : K.lookup f_most_pairs = some ⟨oc_most_pairs, od_most_pairs, .func (PySem.W.fnOf "most_pairs" "most_pairs" (defArgs s_most_pairs) (defBody s_most_pairs) (defScope s_most_pairs) .none kV_most_pairs dc_most_pairs pm_most_pairs an_most_pairs cd_most_pairs ct_most_pairs), sl_most_pairs⟩)
    (c_most_pairs : PySem.W.codeIn K cd_most_pairs "most_pairs" = true)
    (k_most_pairs : PySem.W.keepIn K (.ref f_most_pairs) = true)
    (a_most_rings : PySem.W.nsIn K mainGlobals "most_rings" = some (some (.ref f_most_rings)))
    (l_most_rings : K.lookup f_most_rings = some ⟨oc_most_rings, od_most_rings, .func (PySem.W.fnOf "most_rings" "most_rings" (defArgs s_most_rings) (defBody s_most_rings) (defScope s_most_rings) .none kV_most_rings dc_most_rings pm_most_rings an_most_rings cd_most_rings ct_most_rings), sl_most_rings⟩)
    (c_most_rings : PySem.W.codeIn K cd_most_rings "most_rings" = true)
    (k_most_rings : PySem.W.keepIn K (.ref f_most_rings) = true)
    (a_most_groups : PySem.W.nsIn K mainGlobals "most_groups" = some (some (.ref f_most_groups)))
    (l_most_groups : K.lookup f_most_groups = some ⟨oc_most_groups, od_most_groups, .func (PySem.W.fnOf "most_groups" "most_groups" (defArgs s_most_groups) (defBody s_most_groups) (defScope s_most_groups) .none kV_most_groups dc_most_groups pm_most_groups an_most_groups cd_most_groups ct_most_groups), sl_most_groups⟩)
    (c_most_groups : PySem.W.codeIn K cd_most_groups "most_groups" = true)
    (k_most_groups : PySem.W.keepIn K (.ref f_most_groups) = true)
    (a_is_all_tied : PySem.W.nsIn K mainGlobals "is_all_tied" = some (some (.ref f_is_all_tied)))
    (l_is_all_tied : K.lookup f_is_all_tied = some ⟨oc_is_all_tied, od_is_all_tied, .func (PySem.W.fnOf "is_all_tied" "is_all_tied" (defArgs s_is_all_tied) (defBody s_is_all_tied) (defScope s_is_all_tied) .none kV_is_all_tied dc_is_all_tied pm_is_all_tied an_is_all_tied cd_is_all_tied ct_is_all_tied), sl_is_all_tied⟩)
    (c_is_all_tied : PySem.W.codeIn K cd_is_all_tied "is_all_tied" = true)
    (k_is_all_tied : PySem.W.keepIn K (.ref f_is_all_tied) = true)
    (a_most_of : PySem.W.nsIn K mainGlobals "most_of" = some (some (.ref f_most_of)))
    (l_most_of : K.lookup f_most_of = some ⟨oc_most_of, od_most_of, .func (PySem.W.fnOf "most_of" "most_of" (defArgs s_most_of) (defBody s_most_of) (defScope s_most_of) .none kV_most_of dc_most_of pm_most_of an_most_of cd_most_of ct_most_of), sl_most_of⟩)
    (c_most_of : PySem.W.codeIn K cd_most_of "most_of" = true)
    (k_most_of : PySem.W.keepIn K (.ref f_most_of) = true)
    (a_is_star_tie : PySem.W.nsIn K mainGlobals "is_star_tie" = some (some (.ref f_is_star_tie)))
    (l_is_star_tie : K.lookup f_is_star_tie = some ⟨oc_is_star_tie, od_is_star_tie, .func (PySem.W.fnOf "is_star_tie" "is_star_tie" (defArgs s_is_star_tie) (defBody s_is_star_tie) (defScope s_is_star_tie) .none kV_is_star_tie dc_is_star_tie pm_is_star_tie an_is_star_tie cd_is_star_tie ct_is_star_tie), sl_is_star_tie⟩)
    (c_is_star_tie : PySem.W.codeIn K cd_is_star_tie "is_star_tie" = true)
    (k_is_star_tie : PySem.W.keepIn K (.ref f_is_star_tie) = true)
    (a_is_ring_tie : PySem.W.nsIn K mainGlobals "is_ring_tie" = some (some (.ref f_is_ring_tie)))
    (l_is_ring_tie : K.lookup f_is_ring_tie = some ⟨oc_is_ring_tie, od_is_ring_tie, .func (PySem.W.fnOf "is_ring_tie" "is_ring_tie" (defArgs s_is_ring_tie) (defBody s_is_ring_tie) (defScope s_is_ring_tie) .none kV_is_ring_tie dc_is_ring_tie pm_is_ring_tie an_is_ring_tie cd_is_ring_tie ct_is_ring_tie), sl_is_ring_tie⟩)
    (c_is_ring_tie : PySem.W.codeIn K cd_is_ring_tie "is_ring_tie" = true)
    (k_is_ring_tie : PySem.W.keepIn K (.ref f_is_ring_tie) = true)
    (a_is_rule_tie : PySem.W.nsIn K mainGlobals "is_rule_tie" = some (some (.ref f_is_rule_tie)))
    (l_is_rule_tie : K.lookup f_is_rule_tie = some ⟨oc_is_rule_tie, od_is_rule_tie, .func (PySem.W.fnOf "is_rule_tie" "is_rule_tie" (defArgs s_is_rule_tie) (defBody s_is_rule_tie) (defScope s_is_rule_tie) .none kV_is_rule_tie dc_is_rule_tie pm_is_rule_tie an_is_rule_tie cd_is_rule_tie ct_is_rule_tie), sl_is_rule_tie⟩)
    (c_is_rule_tie : PySem.W.codeIn K cd_is_rule_tie "is_rule_tie" = true)
    (k_is_rule_tie : PySem.W.keepIn K (.ref f_is_rule_tie) = true)
    (a_Thing___init__ : PySem.W.findIn K (.ref C_Thing) "__init__" = some (some (.ref f_Thing___init__)))
    (i_Thing___init__ : PySem.W.isFn K (.ref f_Thing___init__) = true)
    (l_Thing___init__ : K.lookup f_Thing___init__ = some ⟨oc_Thing___init__, od_Thing___init__, .func (PySem.W.fnOf "__init__" "Thing.__init__" (defArgs s_Thing___init__) (defBody s_Thing___init__) (defScope s_Thing___init__) (.ref dt_Thing___init__) kV_Thing___init__ dc_Thing___init__ pm_Thing___init__ an_Thing___init__ cd_Thing___init__ ct_Thing___init__), sl_Thing___init__⟩)
    (c_Thing___init__ : PySem.W.codeIn K cd_Thing___init__ "Thing.__init__" = true)
    (k_Thing___init__ : PySem.W.keepIn K (.ref f_Thing___init__) = true)
    (dl_Thing___init__ : K.lookup dt_Thing___init__ = some ⟨do_Thing___init__, dd_Thing___init__, .seq di_Thing___init__ dn_Thing___init__, ds_Thing___init__⟩)
    (dv_Thing___init__ : Vals [.non] di_Thing___init__.toList)
    (a_Thing_most : PySem.W.findIn K (.ref C_Thing) "most" = some (some (.ref f_Thing_most)))
    (i_Thing_most : PySem.W.isFn K (.ref f_Thing_most) = true)
    (l_Thing_most : K.lookup f_Thing_most = some ⟨oc_Thing_most, od_Thing_most, .func (PySem.W.fnOf "most" "Thing.most" (defArgs s_Thing_most) (defBody s_Thing_most) (defScope s_Thing_most) .none kV_Thing_most dc_Thing_most pm_Thing_most an_Thing_most cd_Thing_most ct_Thing_most), sl_Thing_most⟩)
    (c_Thing_most : PySem.W.codeIn K cd_Thing_most "Thing.most" = true)
    (k_Thing_most : PySem.W.keepIn K (.ref f_Thing_most) = true)
    (a_Thing_tied : PySem.W.findIn K (.ref C_Thing) "tied" = some (some (.ref f_Thing_tied)))
    (i_Thing_tied : PySem.W.isFn K (.ref f_Thing_tied) = true)
    (l_Thing_tied : K.lookup f_Thing_tied = some ⟨oc_Thing_tied, od_Thing_tied, .func (PySem.W.fnOf "tied" "Thing.tied" (defArgs s_Thing_tied) (defBody s_Thing_tied) (defScope s_Thing_tied) .none kV_Thing_tied dc_Thing_tied pm_Thing_tied an_Thing_tied cd_Thing_tied ct_Thing_tied), sl_Thing_tied⟩)
    (c_Thing_tied : PySem.W.codeIn K cd_Thing_tied "Thing.tied" = true)
    (k_Thing_tied : PySem.W.keepIn K (.ref f_Thing_tied) = true)
    (a__law_purse : PySem.W.nsIn K mainGlobals "_law_purse" = some (some (.ref f__law_purse)))
    (l__law_purse : K.lookup f__law_purse = some ⟨oc__law_purse, od__law_purse, .func (PySem.W.fnOf "_law_purse" "_law_purse" (defArgs s__law_purse) (defBody s__law_purse) (defScope s__law_purse) .none kV__law_purse dc__law_purse pm__law_purse an__law_purse cd__law_purse ct__law_purse), sl__law_purse⟩)
    (c__law_purse : PySem.W.codeIn K cd__law_purse "_law_purse" = true)
    (k__law_purse : PySem.W.keepIn K (.ref f__law_purse) = true)
    (a__law_draw : PySem.W.nsIn K mainGlobals "_law_draw" = some (some (.ref f__law_draw)))
    (l__law_draw : K.lookup f__law_draw = some ⟨oc__law_draw, od__law_draw, .func (PySem.W.fnOf "_law_draw" "_law_draw" (defArgs s__law_draw) (defBody s__law_draw) (defScope s__law_draw) .none kV__law_draw dc__law_draw pm__law_draw an__law_draw cd__law_draw ct__law_draw), sl__law_draw⟩)
    (c__law_draw : PySem.W.codeIn K cd__law_draw "_law_draw" = true)
    (k__law_draw : PySem.W.keepIn K (.ref f__law_draw) = true)
    (a__law_all : PySem.W.nsIn K mainGlobals "_law_all" = some (some (.ref f__law_all)))
    (l__law_all : K.lookup f__law_all = some ⟨oc__law_all, od__law_all, .func (PySem.W.fnOf "_law_all" "_law_all" (defArgs s__law_all) (defBody s__law_all) (defScope s__law_all) .none kV__law_all dc__law_all pm__law_all an__law_all cd__law_all ct__law_all), sl__law_all⟩)
    (c__law_all : PySem.W.codeIn K cd__law_all "_law_all" = true)
    (k__law_all : PySem.W.keepIn K (.ref f__law_all) = true)
    (a__law_two : PySem.W.nsIn K mainGlobals "_law_two" = some (some (.ref f__law_two)))
    (l__law_two : K.lookup f__law_two = some ⟨oc__law_two, od__law_two, .func (PySem.W.fnOf "_law_two" "_law_two" (defArgs s__law_two) (defBody s__law_two) (defScope s__law_two) .none kV__law_two dc__law_two pm__law_two an__law_two cd__law_two ct__law_two), sl__law_two⟩)
    (c__law_two : PySem.W.codeIn K cd__law_two "_law_two" = true)
    (k__law_two : PySem.W.keepIn K (.ref f__law_two) = true)
    (a__law_most : PySem.W.nsIn K mainGlobals "_law_most" = some (some (.ref f__law_most)))
    (l__law_most : K.lookup f__law_most = some ⟨oc__law_most, od__law_most, .func (PySem.W.fnOf "_law_most" "_law_most" (defArgs s__law_most) (defBody s__law_most) (defScope s__law_most) .none kV__law_most dc__law_most pm__law_most an__law_most cd__law_most ct__law_most), sl__law_most⟩)
    (c__law_most : PySem.W.codeIn K cd__law_most "_law_most" = true)
    (k__law_most : PySem.W.keepIn K (.ref f__law_most) = true)
    (a__law_right : PySem.W.nsIn K mainGlobals "_law_right" = some (some (.ref f__law_right)))
    (l__law_right : K.lookup f__law_right = some ⟨oc__law_right, od__law_right, .func (PySem.W.fnOf "_law_right" "_law_right" (defArgs s__law_right) (defBody s__law_right) (defScope s__law_right) .none kV__law_right dc__law_right pm__law_right an__law_right cd__law_right ct__law_right), sl__law_right⟩)
    (c__law_right : PySem.W.codeIn K cd__law_right "_law_right" = true)
    (k__law_right : PySem.W.keepIn K (.ref f__law_right) = true)
    (a_law : PySem.W.nsIn K mainGlobals "law" = some (some (.ref f_law)))
    (l_law : K.lookup f_law = some ⟨oc_law, od_law, .func (PySem.W.fnOf "law" "law" (defArgs s_law) (defBody s_law) (defScope s_law) .none kV_law dc_law pm_law an_law cd_law ct_law), sl_law⟩)
    (c_law : PySem.W.codeIn K cd_law "law" = true)
    (k_law : PySem.W.keepIn K (.ref f_law) = true) :
    ∃ fd : FuncData, (∀ (s : Shared) (v : Value), BindsTo s fd ⟨[v], []⟩ [("_law_script", v)]) ∧ ∀ base : Heap, K.In base → base.Ns mainGlobals mg → FnG l.prog w K mg base 12 fa fd ["_law_script"] (spScr K) := by
  have e := hfa.symm.trans (PySem.W.mg_of X G a_law)
  cases e
  have T : Txt w K mg (fun c : Str => if c = "Thing" then some C_Thing else none) C_Thing := ⟨PySem.W.mg_none_of X G n_abs,
    PySem.W.mg_none_of X G n_all,
    PySem.W.mg_none_of X G n_bool,
    PySem.W.mg_none_of X G n_divmod,
    PySem.W.mg_none_of X G n_int,
    PySem.W.mg_none_of X G n_isinstance,
    PySem.W.mg_none_of X G n_len,
    PySem.W.mg_none_of X G n_max,
    PySem.W.mg_none_of X G n_min,
    PySem.W.mg_none_of X G n_range,
    PySem.W.mg_none_of X G n_str,
    PySem.W.mg_none_of X G n_tuple,
    ⟨_, PySem.W.mg_of X G c_MOST_ASKED, ⟨_, rfl⟩⟩,
    kg_of (PySem.W.mg_of X G k_LEAST) l_LEAST o_LEAST y_LEAST,
    ⟨_, _, _, _, PySem.W.mg_of X G ta_PLAIN, tl_PLAIN, rfl, rfl, tz_PLAIN, tv_PLAIN⟩,
    ⟨if_pos rfl, ⟨cpg_Thing, chd_Thing, cpo_Thing, csa_Thing⟩⟩,
    PySem.W.mg_of X G ca_Thing,
    na_Thing_many,
    na_Thing_word,
    ⟨_, _, fun_mk (st := s_is_integer) l_is_integer c_is_integer k_is_integer, PySem.W.mg_of X G a_is_integer, (fun_mk (st := s_is_integer) l_is_integer c_is_integer k_is_integer).binds (ps := ["value"]) (fun _ _ _ _ _ _ us hl => match us, hl with | [_], _ => rfl), (fun b hb => by cases hb)⟩,
    ⟨_, _, fun_mk (st := s_is_between) l_is_between c_is_between k_is_between, PySem.W.mg_of X G a_is_between, (fun_mk (st := s_is_between) l_is_between c_is_between k_is_between).binds (ps := ["value", "least", "most"]) (fun _ _ _ _ _ _ us hl => match us, hl with | [_, _, _], _ => rfl), (fun b hb => by cases hb)⟩,
    ⟨_, _, fun_mk (st := s_check_people) l_check_people c_check_people k_check_people, PySem.W.mg_of X G a_check_people, (fun_mk (st := s_check_people) l_check_people c_check_people k_check_people).binds (ps := ["people", "most"]) (fun _ _ _ _ _ _ us hl => match us, hl with | [_, _], _ => rfl), (fun b hb => by cases hb)⟩,
    ⟨_, _, fun_mk (st := s_check_two) l_check_two c_check_two k_check_two, PySem.W.mg_of X G a_check_two, (fun_mk (st := s_check_two) l_check_two c_check_two k_check_two).binds (ps := ["one", "other", "people"]) (fun _ _ _ _ _ _ us hl => match us, hl with | [_, _, _], _ => rfl), (fun b hb => by cases hb)⟩,
    ⟨_, _, fun_mk (st := s_pairs_of) l_pairs_of c_pairs_of k_pairs_of, PySem.W.mg_of X G a_pairs_of, (fun_mk (st := s_pairs_of) l_pairs_of c_pairs_of k_pairs_of).binds (ps := ["many"]) (fun _ _ _ _ _ _ us hl => match us, hl with | [_], _ => rfl), (fun b hb => by cases hb)⟩,
    ⟨_, _, fun_mk (st := s_most_pairs) l_most_pairs c_most_pairs k_most_pairs, PySem.W.mg_of X G a_most_pairs, (fun_mk (st := s_most_pairs) l_most_pairs c_most_pairs k_most_pairs).binds (ps := ["number", "people"]) (fun _ _ _ _ _ _ us hl => match us, hl with | [_, _], _ => rfl), (fun b hb => by cases hb)⟩,
    ⟨_, _, fun_mk (st := s_most_rings) l_most_rings c_most_rings k_most_rings, PySem.W.mg_of X G a_most_rings, (fun_mk (st := s_most_rings) l_most_rings c_most_rings k_most_rings).binds (ps := ["kind", "number", "people"]) (fun _ _ _ _ _ _ us hl => match us, hl with | [_, _, _], _ => rfl), (fun b hb => by cases hb)⟩,
    ⟨_, _, fun_mk (st := s_most_groups) l_most_groups c_most_groups k_most_groups, PySem.W.mg_of X G a_most_groups, (fun_mk (st := s_most_groups) l_most_groups c_most_groups k_most_groups).binds (ps := ["kind", "number", "people"]) (fun _ _ _ _ _ _ us hl => match us, hl with | [_, _, _], _ => rfl), (fun b hb => by cases hb)⟩,
    ⟨_, _, fun_mk (st := s_is_all_tied) l_is_all_tied c_is_all_tied k_is_all_tied, PySem.W.mg_of X G a_is_all_tied, (fun_mk (st := s_is_all_tied) l_is_all_tied c_is_all_tied k_is_all_tied).binds (ps := ["kind", "number", "people"]) (fun _ _ _ _ _ _ us hl => match us, hl with | [_, _, _], _ => rfl), (fun b hb => by cases hb)⟩,
    ⟨_, _, fun_mk (st := s_most_of) l_most_of c_most_of k_most_of, PySem.W.mg_of X G a_most_of, (fun_mk (st := s_most_of) l_most_of c_most_of k_most_of).binds (ps := ["kind", "number", "people"]) (fun _ _ _ _ _ _ us hl => match us, hl with | [_, _, _], _ => rfl), (fun b hb => by cases hb)⟩,
    ⟨_, _, fun_mk (st := s_is_star_tie) l_is_star_tie c_is_star_tie k_is_star_tie, PySem.W.mg_of X G a_is_star_tie, (fun_mk (st := s_is_star_tie) l_is_star_tie c_is_star_tie k_is_star_tie).binds (ps := ["number", "people", "one", "other"]) (fun _ _ _ _ _ _ us hl => match us, hl with | [_, _, _, _], _ => rfl), (fun b hb => by cases hb)⟩,
    ⟨_, _, fun_mk (st := s_is_ring_tie) l_is_ring_tie c_is_ring_tie k_is_ring_tie, PySem.W.mg_of X G a_is_ring_tie, (fun_mk (st := s_is_ring_tie) l_is_ring_tie c_is_ring_tie k_is_ring_tie).binds (ps := ["kind", "number", "one", "other"]) (fun _ _ _ _ _ _ us hl => match us, hl with | [_, _, _, _], _ => rfl), (fun b hb => by cases hb)⟩,
    ⟨_, _, fun_mk (st := s_is_rule_tie) l_is_rule_tie c_is_rule_tie k_is_rule_tie, PySem.W.mg_of X G a_is_rule_tie, (fun_mk (st := s_is_rule_tie) l_is_rule_tie c_is_rule_tie k_is_rule_tie).binds (ps := ["kind", "number", "people", "one", "other"]) (fun _ _ _ _ _ _ us hl => match us, hl with | [_, _, _, _, _], _ => rfl), (fun b hb => by cases hb)⟩,
    ⟨_, _, (FunD.mk ⟨_, _, _, _, _, _, _, _, _, _, rfl, l_Thing___init__, c_Thing___init__, .inr ⟨by simp, _, _, _, dn_Thing___init__, rfl, dl_Thing___init__, by simp, dv_Thing___init__⟩, .inl rfl⟩ k_Thing___init__), ⟨cmk_Thing, a_Thing___init__, i_Thing___init__, ckp_Thing⟩, fun j hj => (match j, hj with | 0, _ => FunD.binds1 (ps := ["self", "kind", "size"]) (FunD.mk ⟨_, _, _, _, _, _, _, _, _, _, rfl, l_Thing___init__, c_Thing___init__, .inr ⟨by simp, _, _, _, dn_Thing___init__, rfl, dl_Thing___init__, by simp, dv_Thing___init__⟩, .inl rfl⟩ k_Thing___init__) 2 0 (by simp) (by simp) fun _ _ _ _ _ _ _ us its h1 h2 => (match us, h1, its, h2 with | [_, _], _, [_], _ => ⟨_, rfl, rfl⟩) | 1, _ => FunD.binds1 (ps := ["self", "kind", "size"]) (FunD.mk ⟨_, _, _, _, _, _, _, _, _, _, rfl, l_Thing___init__, c_Thing___init__, .inr ⟨by simp, _, _, _, dn_Thing___init__, rfl, dl_Thing___init__, by simp, dv_Thing___init__⟩, .inl rfl⟩ k_Thing___init__) 3 1 (by simp) (by simp) fun _ _ _ _ _ _ _ us its h1 h2 => (match us, h1, its, h2 with | [_, _, _], _, [_], _ => ⟨_, rfl, rfl⟩) | j + 2, h => absurd h (by simp)), fun b hb => by cases hb⟩,
    ⟨_, _, fun_mk (st := s_Thing_most) l_Thing_most c_Thing_most k_Thing_most, ⟨a_Thing_most, i_Thing_most, k_Thing_most⟩, (fun_mk (st := s_Thing_most) l_Thing_most c_Thing_most k_Thing_most).binds (ps := ["self", "people"]) (fun _ _ _ _ _ _ us hl => match us, hl with | [_, _], _ => rfl), (fun b hb => by cases hb)⟩,
    ⟨_, _, fun_mk (st := s_Thing_tied) l_Thing_tied c_Thing_tied k_Thing_tied, ⟨a_Thing_tied, i_Thing_tied, k_Thing_tied⟩, (fun_mk (st := s_Thing_tied) l_Thing_tied c_Thing_tied k_Thing_tied).binds (ps := ["self", "people", "one", "other"]) (fun _ _ _ _ _ _ us hl => match us, hl with | [_, _, _, _], _ => rfl), (fun b hb => by cases hb)⟩,
    ⟨_, _, fun_mk (st := s__law_purse) l__law_purse c__law_purse k__law_purse, PySem.W.mg_of X G a__law_purse, (fun_mk (st := s__law_purse) l__law_purse c__law_purse k__law_purse).binds (ps := ["_law_script", "_law_spot"]) (fun _ _ _ _ _ _ us hl => match us, hl with | [_, _], _ => rfl), (fun b hb => by cases hb)⟩,
    ⟨_, _, fun_mk (st := s__law_draw) l__law_draw c__law_draw k__law_draw, PySem.W.mg_of X G a__law_draw, (fun_mk (st := s__law_draw) l__law_draw c__law_draw k__law_draw).binds (ps := ["_law_purse_here", "_law_many"]) (fun _ _ _ _ _ _ us hl => match us, hl with | [_, _], _ => rfl), (fun b hb => by cases hb)⟩,
    ⟨_, _, fun_mk (st := s__law_all) l__law_all c__law_all k__law_all, PySem.W.mg_of X G a__law_all, (fun_mk (st := s__law_all) l__law_all c__law_all k__law_all).binds (ps := ["_law_many"]) (fun _ _ _ _ _ _ us hl => match us, hl with | [_], _ => rfl), (fun b hb => by cases hb)⟩,
    ⟨_, _, fun_mk (st := s__law_two) l__law_two c__law_two k__law_two, PySem.W.mg_of X G a__law_two, (fun_mk (st := s__law_two) l__law_two c__law_two k__law_two).binds (ps := ["_law_many"]) (fun _ _ _ _ _ _ us hl => match us, hl with | [_], _ => rfl), (fun b hb => by cases hb)⟩,
    ⟨_, _, fun_mk (st := s__law_most) l__law_most c__law_most k__law_most, PySem.W.mg_of X G a__law_most, (fun_mk (st := s__law_most) l__law_most c__law_most k__law_most).binds (ps := ["_law_kind", "_law_k", "_law_n"]) (fun _ _ _ _ _ _ us hl => match us, hl with | [_, _, _], _ => rfl), (fun b hb => by cases hb)⟩,
    ⟨_, _, fun_mk (st := s__law_right) l__law_right c__law_right k__law_right, PySem.W.mg_of X G a__law_right, (fun_mk (st := s__law_right) l__law_right c__law_right k__law_right).binds (ps := ["_law_purse_here"]) (fun _ _ _ _ _ _ us hl => match us, hl with | [_], _ => rfl), (fun b hb => by cases hb)⟩,
    ⟨_, _, fun_mk (st := s_law) l_law c_law k_law, PySem.W.mg_of X G a_law, (fun_mk (st := s_law) l_law c_law k_law).binds (ps := ["_law_script"]) (fun _ _ _ _ _ _ us hl => match us, hl with | [_], _ => rfl), (fun b hb => by cases hb)⟩⟩
  exact ⟨_, fun s v => .of_eq rfl, fun base _ _ => law_scr (ct := (fun c : Str => if c = "Thing" then some C_Thing else none)) (law_fn (fun_mk (st := s_law) l_law c_law k_law) T) plain⟩
theorem walk {l : PySem.W.OpenLaw} {q : Program} {loose : List Str} {XP : (Str → Option Value) → Heap → Prop} {YP : World → Heap → Prop} {d : DefRec} {K : Params → PySem.W.Frag} (hn : l.most = some 63) (hdf : d.params.defaults = [])
    (hY : ∀ (w : World) (h : Heap), YP w h → (K w.params).In h)
    (F : ∀ (w : World) (mg : Str → Option Value) (fa : Addr) (h : Heap), (K w.params).In h → h.Ns mainGlobals mg → mg d.name = some (.ref fa) →
      ∃ fd : FuncData, (∀ (s : Shared) (u : Value), BindsTo s fd ⟨[u], []⟩ [("_law_script", u)]) ∧ ∀ base : Heap, (K w.params).In base → base.Ns mainGlobals mg → FnG l.prog w (K w.params) mg base 12 fa fd ["_law_script"] (spScr (K w.params))) :
    PySem.W.WalkO q loose XP YP l.row.toRowW d [] (fun f vs => PySem.call f vs) :=
  walkG (n := 63) (k := 12) (x := "_law_script") (sp := spScr) hn (by decide) hdf ⟨rfl, by decide, by decide⟩ hY F fun _ _ a ns hl hS => ⟨a, ns, rfl, hS, hl, fun _ => rfl⟩
end LW
open PySem PySem.W PyProof.Rows in
set_option maxRecDepth 100000 in
set_option maxHeartbeats 0 in
theorem PySem.Challenge.cw_forcedties_k39_whole_rules_counted_holds : PySem.Challenge.rw_forcedties_k39_whole_rules_counted.Holds := by
  w_on; o_law; k_head; (case hw => w_witness2)
  k_fill
  refine LW.walk (l := PySem.Challenge.rw_forcedties_k39_whole_rules_counted) rfl rfl (fun w h Y => PySem.W.kIn_of Y) ?F
  case F =>
    intro w mg fa h KX G hmg
    refine' LW.all_mk KX G hmg ?n_abs ?n_all ?n_bool ?n_divmod ?n_int ?n_isinstance ?n_len ?n_max ?n_min ?n_range ?n_str ?n_tuple ?c_MOST_ASKED ?k_LEAST ?l_LEAST ?o_LEAST ?y_LEAST ?ta_PLAIN ?tl_PLAIN ?tz_PLAIN ?tv_PLAIN ?ca_Thing ?cpg_Thing ?chd_Thing ?cpo_Thing ?csa_Thing ?cmk_Thing ?ckp_Thing ?na_Thing_many ?na_Thing_word ?a_is_integer ?l_is_integer ?c_is_integer ?k_is_integer ?a_is_between ?l_is_between ?c_is_between ?k_is_between ?a_check_people ?l_check_people ?c_check_people ?k_check_people ?a_check_two ?l_check_two ?c_check_two ?k_check_two ?a_pairs_of ?l_pairs_of ?c_pairs_of ?k_pairs_of ?a_most_pairs ?l_most_pairs ?c_most_pairs ?k_most_pairs ?a_most_rings ?l_most_rings ?c_most_rings ?k_most_rings ?a_most_groups ?l_most_groups ?c_most_groups ?k_most_groups ?a_is_all_tied ?l_is_all_tied ?c_is_all_tied ?k_is_all_tied ?a_most_of ?l_most_of ?c_most_of ?k_most_of ?a_is_star_tie ?l_is_star_tie ?c_is_star_tie ?k_is_star_tie ?a_is_ring_tie ?l_is_ring_tie ?c_is_ring_tie ?k_is_ring_tie ?a_is_rule_tie ?l_is_rule_tie ?c_is_rule_tie ?k_is_rule_tie ?a_Thing___init__ ?i_Thing___init__ ?l_Thing___init__ ?c_Thing___init__ ?k_Thing___init__ ?dl_Thing___init__ ?dv_Thing___init__ ?a_Thing_most ?i_Thing_most ?l_Thing_most ?c_Thing_most ?k_Thing_most ?a_Thing_tied ?i_Thing_tied ?l_Thing_tied ?c_Thing_tied ?k_Thing_tied ?a__law_purse ?l__law_purse ?c__law_purse ?k__law_purse ?a__law_draw ?l__law_draw ?c__law_draw ?k__law_draw ?a__law_all ?l__law_all ?c__law_all ?k__law_all ?a__law_two ?l__law_two ?c__law_two ?k__law_two ?a__law_most ?l__law_most ?c__law_most ?k__law_most ?a__law_right ?l__law_right ?c__law_right ?k__law_right ?a_law ?l_law ?c_law ?k_law
    (case n_abs => k_is)
    (case n_all => k_is)
    (case n_bool => k_is)
    (case n_divmod => k_is)
    (case n_int => k_is)
    (case n_isinstance => k_is)
    (case n_len => k_is)
    (case n_max => k_is)
    (case n_min => k_is)
    (case n_range => k_is)
    (case n_str => k_is)
    (case n_tuple => k_is)
    (case c_MOST_ASKED => k_is)
    (case k_LEAST => k_is)
    (case l_LEAST => k_is)
    (case o_LEAST => exact ⟨⟨_, _, rfl, rfl, rfl⟩, ⟨_, _, rfl, rfl, rfl⟩, ⟨_, _, rfl, rfl, rfl⟩, ⟨_, _, rfl, rfl, rfl⟩, ⟨_, _, rfl, rfl, rfl⟩, ⟨_, _, rfl, rfl, rfl⟩, ⟨_, _, rfl, rfl, rfl⟩, trivial⟩)
    (case y_LEAST => decide)
    (case ta_PLAIN => k_is)
    (case tl_PLAIN => k_is)
    (case tz_PLAIN => rw [sizeLine_eq]; decide)
    (case tv_PLAIN => exact (.cons ⟨_, rfl⟩ (.cons ⟨_, rfl⟩ .nil)))
    (case ca_Thing => k_is)
    (case cpg_Thing => k_is)
    (case chd_Thing => k_is)
    (case cpo_Thing => k_is)
    (case csa_Thing => k_is)
    (case cmk_Thing => k_is)
    (case ckp_Thing => k_is)
    (case na_Thing_many => k_is)
    (case na_Thing_word => k_is)
    (case a_is_integer => k_is)
    (case l_is_integer => k_is)
    (case c_is_integer => k_is)
    (case k_is_integer => k_is)
    (case a_is_between => k_is)
    (case l_is_between => k_is)
    (case c_is_between => k_is)
    (case k_is_between => k_is)
    (case a_check_people => k_is)
    (case l_check_people => k_is)
    (case c_check_people => k_is)
    (case k_check_people => k_is)
    (case a_check_two => k_is)
    (case l_check_two => k_is)
    (case c_check_two => k_is)
    (case k_check_two => k_is)
    (case a_pairs_of => k_is)
    (case l_pairs_of => k_is)
    (case c_pairs_of => k_is)
    (case k_pairs_of => k_is)
    (case a_most_pairs => k_is)
    (case l_most_pairs => k_is)
    (case c_most_pairs => k_is)
    (case k_most_pairs => k_is)
    (case a_most_rings => k_is)
    (case l_most_rings => k_is)
    (case c_most_rings => k_is)
    (case k_most_rings => k_is)
    (case a_most_groups => k_is)
    (case l_most_groups => k_is)
    (case c_most_groups => k_is)
    (case k_most_groups => k_is)
    (case a_is_all_tied => k_is)
    (case l_is_all_tied => k_is)
    (case c_is_all_tied => k_is)
    (case k_is_all_tied => k_is)
    (case a_most_of => k_is)
    (case l_most_of => k_is)
    (case c_most_of => k_is)
    (case k_most_of => k_is)
    (case a_is_star_tie => k_is)
    (case l_is_star_tie => k_is)
    (case c_is_star_tie => k_is)
    (case k_is_star_tie => k_is)
    (case a_is_ring_tie => k_is)
    (case l_is_ring_tie => k_is)
    (case c_is_ring_tie => k_is)
    (case k_is_ring_tie => k_is)
    (case a_is_rule_tie => k_is)
    (case l_is_rule_tie => k_is)
    (case c_is_rule_tie => k_is)
    (case k_is_rule_tie => k_is)
    (case a_Thing___init__ => k_is)
    (case i_Thing___init__ => k_is)
    (case l_Thing___init__ => k_is)
    (case c_Thing___init__ => k_is)
    (case k_Thing___init__ => k_is)
    (case dl_Thing___init__ => k_is)
    (case dv_Thing___init__ => exact (.cons rfl .nil))
    (case a_Thing_most => k_is)
    (case i_Thing_most => k_is)
    (case l_Thing_most => k_is)
    (case c_Thing_most => k_is)
    (case k_Thing_most => k_is)
    (case a_Thing_tied => k_is)
    (case i_Thing_tied => k_is)
    (case l_Thing_tied => k_is)
    (case c_Thing_tied => k_is)
    (case k_Thing_tied => k_is)
    (case a__law_purse => k_is)
    (case l__law_purse => k_is)
    (case c__law_purse => k_is)
    (case k__law_purse => k_is)
    (case a__law_draw => k_is)
    (case l__law_draw => k_is)
    (case c__law_draw => k_is)
    (case k__law_draw => k_is)
    (case a__law_all => k_is)
    (case l__law_all => k_is)
    (case c__law_all => k_is)
    (case k__law_all => k_is)
    (case a__law_two => k_is)
    (case l__law_two => k_is)
    (case c__law_two => k_is)
    (case k__law_two => k_is)
    (case a__law_most => k_is)
    (case l__law_most => k_is)
    (case c__law_most => k_is)
    (case k__law_most => k_is)
    (case a__law_right => k_is)
    (case l__law_right => k_is)
    (case c__law_right => k_is)
    (case k__law_right => k_is)
    (case a_law => k_is)
    (case l_law => k_is)
    (case c_law => k_is)
    (case k_law => k_is)
