import PyProof.Rows.All
import Wide.All
import OpenK.AllK
import Wide.FinOn
import HandS.ForMost
import HandS.Defaults
import HandS.ExcOwn
import HandS.WordsExc
import HandS.EndBits
import HandS.SortKw
import HandS.IsInst
import HandS.Conv
import HandS.Flow
import HandS.Style
import HandS.Deep
import HandS.Zip
import HandS.Rev
import HandS.TupLe
import HandS.TupAny
import KE.SortData
import KE.SortKeyHeap
import PyProof.Rows.EqDataRows
import PyProof.ReprRoads
import KE.GoesMore
import KE.GoesEnum
import HandS.SortInts
import KE.KSuper
import HandS.ExcSuper
import HandS.ExcField
import HandS.ExcIs
import HandS.TryMany
import KE.KCallOwn
import PyProof.InstNe
import HandS.Text
import HandS.FStr
import HandS.List
import HandS.Iter
import KE.KWithOwn
import PySem.Challenge.RW_oncetested_k02_boards_written_and_read
set_option Elab.async false
set_option linter.all false
set_option maxRecDepth 100000
set_option maxHeartbeats 1000000
/-! VG: promises of defs where no repr is under way (guards): rooms, calls, bodies, the end. -/
namespace L2
open PySem PySem.Spec PyProof.Rows
structure RoomG (k : Nat) (A : Around) : Prop where
  r : Room k A
  g : A.guards = some []
theorem RoomG.mono {j k : Nat} {A : Around} (r : RoomG k A) (h : j ≤ k) : RoomG j A := ⟨r.r.mono h, r.g⟩
theorem RoomG.deeper {k : Nat} {A : Around} (r : RoomG (k + 1) A) (env : Env) : RoomG k (A.deeper env) := ⟨r.r.deeper env, r.g⟩
theorem RoomG.in1 {k : Nat} {A : Around} (r : RoomG (k + 1) A) : RoomG k A.in1 := ⟨r.r.in1, r.g⟩
theorem RoomG.make {k : Nat} {A : Around} (r : RoomG (k + 1) A) (C : Addr) (us : List Value) (kw : List (Str × Value)) : RoomG k (A.under (.builtin "type.__call__" ⟨.ref C :: us, kw⟩)) := ⟨r.r.make C us kw, by
  show pushGuards (Code.guards (.builtin "type.__call__" ⟨.ref C :: us, kw⟩)) A.guards = some []
  have e : Code.guards (.builtin "type.__call__" ⟨.ref C :: us, kw⟩) = [] := by
    first
      | rfl
      | (simp [Code.guards, Code.isGuard, guardIds])
  rw [e, r.g]
  rfl⟩
structure FnG (P : Program) (w : World) (K : PySem.W.Frag) (mg : Str → Option Value) (base : Heap) (CX : CXT) (k : Nat) (f : Addr) (fd : FuncData) (ps : List Str) (sp : Sp) : Prop where
  len : ∀ vs H Q E, sp vs H Q E → vs.length = ps.length
  run : ∀ (A : Around) (outer : List Env) (s : Shared) (H : Hp) (args : Args) (us : List Value) (vs : List V) (Q : VK) (E : XK), RoomG k A → Env0 P w K mg base A outer s H → BindsTo s fd args (ps.zip us) → Vals vs us → sp vs H Q E →
    codeAny (model P w) A (.call (.ref f) args) (CR CX outer P w H s Q E) s
section
variable {P : Program} {w : World} {K : PySem.W.Frag} {mg : Str → Option Value} {base : Heap} {CX : CXT} {k : Nat} {f : Addr} {fd : FuncData} {ps : List Str} {sp : Sp}
theorem FnG.mono {j : Nat} (F : FnG P w K mg base CX j f fd ps sp) (h : j ≤ k) : FnG P w K mg base CX k f fd ps sp := ⟨F.len, fun A outer s H args us vs Q E hr => F.run A outer s H args us vs Q E (hr.mono h)⟩
theorem FnG.imp {sp' : Sp} (F : FnG P w K mg base CX k f fd ps sp) (h : ∀ vs H Q E, sp' vs H Q E → sp vs H Q E) : FnG P w K mg base CX k f fd ps sp' :=
  ⟨fun vs H Q E q => F.len vs H Q E (h _ _ _ _ q), fun A outer s H args us vs Q E hr he hb hv hs => F.run A outer s H args us vs Q E hr he hb hv (h _ _ _ _ hs)⟩
end
/-- a def by its body -/
theorem fn_ofG {CX : CXT} {P : Program} {w : World} {K : PySem.W.Frag} {mg : Str → Option Value} {base : Heap} {k : Nat} {f : Addr} {name qual : Str} {params : Arguments} {body : List Stmt} {scope : Scope} {dV kV doc pm cdv ct oc : Value} {an od : Option Addr}
    {osl : Array (Option Value)} {N ps : List Str} {sp : Sp} (lk : K.lookup f = some ⟨oc, od, .func (PySem.W.fnOf name qual params body scope dV kV doc pm an cdv ct), osl⟩) (hcd : PySem.W.codeIn K cdv qual = true) (S : FnScope N ps scope)
    (len : ∀ vs H Q E, sp vs H Q E → vs.length = ps.length)
    (hbody : ∀ (A : Around) (outer : List Env) (s : Shared) (H : Hp) (vs : List V) (Q : VK) (E : XK), RoomG k (A.deeper (envOfC qual scope s.heap.objs.size f cdv)) → sp vs H Q E →
      ∃ t, PSs (cxOf CX P w K mg base N qual scope f cdv A outer s H E) body t ∧ t { nx := fun _ H' => Q .non H', rt := Q } (L2.start N vs) H) :
    FnG P w K mg base CX (k + 1) f (PySem.W.fnOf name qual params body scope dV kV doc pm an cdv ct) ps sp := by
  refine ⟨len, fun A outer s H args us vs Q E hr e0 hb r hsp => ?_⟩
  have hl := len _ _ _ _ hsp
  have KX : K.In s.heap := e0.mod.kin.keeps fun b o e => (e0.bs b o e).1
  have lim : s.heap.NoLimit := e0.mod.nolimit.keeps fun b o e => (e0.bs b o e).1
  have hkind : ∀ y ∈ ps.zip us, scope.names.lookup y.1 = some .local ∨ (scope.names.lookup y.1 = some .cell ∧ ((cellsFrom (s.heap.objs.size + 1) scope.names []).lookup y.1).isSome = true) := fun ⟨n, v⟩ hy => by
    rcases S.par n (List.of_mem_zip hy).1 with q | q
    · exact .inl q
    · exact .inr ⟨q, PySem.W.cellsFrom_some _ _ _ (.inl q)⟩
  refine codeAny_call_function hr.r.depth (KX _ _ lk) rfl S.co S.gen rfl (PySem.W.codeRec_of KX hcd) (hb _ _ _ _ ?_)
  refine wpAny_newFunctionEnv_cells S.kind hkind fun env he s1 x => ?_
  subst he
  refine ⟨lim.keeps x.toInCall.keep, codeAny_func ?_⟩
  obtain ⟨t, ht, hq⟩ := hbody A outer s H vs Q E (hr.deeper _) hsp
  have I : Inv (cxOf CX P w K mg base N qual scope f cdv A outer s H E) [] (L2.start N vs) H s1 := inv_start S hr.r.hd e0 hl r x
  refine wpAny_mono (ht.run [] s1 (L2.start N vs) H _ I hq) (fun fl s' hs => ?_) fun e s' hs => hs
  have fin : ∀ {σ' : St} {H' : Hp} {v : V} {u : Value}, Inv (cxOf CX P w K mg base N qual scope f cdv A outer s H E) [] σ' H' s' → RelV v u → Q v H' → CE outer P w H s Q u s' :=
    fun {σ' H' v u} J rv q => ⟨v, H', J.os, J.bare, J.base, J.hok, rv, q⟩
  cases fl with
  | ret u =>
    obtain ⟨v, σ', H', J, rv, q⟩ := hs
    exact fin J rv q
  | next =>
    obtain ⟨σ', H', J, q⟩ := hs
    exact fin (v := V.non) (u := Value.none) J rfl q
  | brk =>
    obtain ⟨_, _, _, q⟩ := hs
    exact False.elim q
  | cont =>
    obtain ⟨_, _, _, q⟩ := hs
    exact False.elim q
section
variable {P : Program} {w : World} {K : PySem.W.Frag} {mg : Str → Option Value} {base : Heap}
theorem Fun.okG {x qual : Str} {st : Stmt} {f : Addr} {fd : FuncData} {N ps : List Str} {k : Nat} {sp : Sp} (F : Fun K x qual st f fd) (S : FnScope N ps (defScope st)) (len : ∀ vs H Q E, sp vs H Q E → vs.length = ps.length)
    (hbody : ∀ (cdv : Value) (A : Around) (outer : List Env) (s : Shared) (H : Hp) (vs : List V) (Q : VK) (E : XK), RoomG k (A.deeper (envOfC qual (defScope st) s.heap.objs.size f cdv)) → sp vs H Q E →
      ∃ t, PSs (cxOf CX0 P w K mg base N qual (defScope st) f cdv A outer s H E).nox (defBody st) t ∧ t { nx := fun _ H' => Q .non H', rt := Q } (L2.start N vs) H) : FnG P w K mg base CX0 (k + 1) f fd ps sp := by
  obtain ⟨oc, od, kV, doc, pm, an, cdv, ct, osl, rfl, lk, hcd⟩ := F.ex
  refine fn_ofG lk hcd S len fun A outer s H vs Q E hr hsp => ?_
  obtain ⟨t, h, q⟩ := hbody cdv A outer s H vs Q E hr hsp
  exact ⟨t, h.nox, q⟩
theorem Fun.okXG {x qual : Str} {st : Stmt} {f : Addr} {fd : FuncData} {N ps : List Str} {k : Nat} {sp : Sp} (F : Fun K x qual st f fd) (S : FnScope N ps (defScope st)) (len : ∀ vs H Q E, sp vs H Q E → vs.length = ps.length)
    (hbody : ∀ (cdv : Value) (A : Around) (outer : List Env) (s : Shared) (H : Hp) (vs : List V) (Q : VK) (E : XK), RoomG k (A.deeper (envOfC qual (defScope st) s.heap.objs.size f cdv)) → sp vs H Q E →
      ∃ t, PSs (cxOf (L2.CX P w) P w K mg base N qual (defScope st) f cdv A outer s H E) (defBody st) t ∧ t { nx := fun _ H' => Q .non H', rt := Q } (L2.start N vs) H) : FnG P w K mg base (L2.CX P w) (k + 1) f fd ps sp := by
  obtain ⟨oc, od, kV, doc, pm, an, cdv, ct, osl, rfl, lk, hcd⟩ := F.ex
  exact fn_ofG lk hcd S len fun A outer s H vs Q E hr hsp => hbody cdv A outer s H vs Q E hr hsp
end
section
variable {X : Cx} {CX : CXT} {k : Nat} {f C : Addr} {fd : FuncData} {ps ks : List Str} {sp : Sp} {E : St → XK} {x : Str} {p pos : Pos} {e : Expr} {es : List Expr} {kws : List Keyword} {t tk : TA}
/-- the callee runs, however its arguments are bound, what it raises wished for at the slots -/
theorem run_G {A : Around} {pins : List (Addr × Obj)} {σ : St} {H : Hp} {s : Shared} {Q : VK} {args : Args} {us : List Value} {vs : List V} (F : FnG X.prog X.w X.K X.mg X.base CX k f fd ps sp) (hr : RoomG k A) (he : Env0 X.prog X.w X.K X.mg X.base A X.stack s H)
    (hb : BindsTo s fd args (ps.zip us)) (hx : PassesAt CX X σ (E σ)) (I : Inv X pins σ H s) (r : Vals vs us) (h : sp vs H Q (E σ)) : codeAny (model X.prog X.w) A (.call (.ref f) args) (fun r s' => match r with
      | .ok (.ret u) => EP X pins σ Q u s'
      | .ok _ => False
      | .error e => X.xe e s') s := by
  refine codeAny_mono (F.run A X.stack s H args us vs Q (E σ) hr he hb r h) fun r s' hq => ?_
  cases r with
  | error e => exact hx pins H s e s' I hq
  | ok fl =>
    cases fl with
    | ret u => exact I.after hq
    | next => exact False.elim hq
    | brk => exact False.elim hq
    | cont => exact False.elim hq
theorem call_G {A : Around} {pins : List (Addr × Obj)} {σ : St} {H : Hp} {s : Shared} {Q : VK} {us vsu : List Value} {kw : List (Str × Value)} {vs : List V} (F : FnG X.prog X.w X.K X.mg X.base CX k f fd ps sp) (hr : RoomG k A) (he : Env0 X.prog X.w X.K X.mg X.base A X.stack s H)
    (hb : BindsTo s fd ⟨us, kw⟩ (ps.zip vsu)) (hx : PassesAt CX X σ (E σ)) (I : Inv X pins σ H s) (r : Vals vs vsu) (h : sp vs H Q (E σ)) : wpAny (model X.prog X.w) A (call (.ref f) us kw) (EP X pins σ Q) X.xe s :=
  wpAny_call (codeAny_mono (run_G F hr he hb hx I r h) fun r s' hq => by
    cases r with
    | error e => exact hq
    | ok fl =>
      cases fl with
      | ret u => exact hq
      | next => exact False.elim hq
      | brk => exact False.elim hq
      | cont => exact False.elim hq)
theorem binds_all {s : Shared} {us : List Value} {H : Hp} {vs : List V} {Q : VK} {E : XK} {K : PySem.W.Frag} (hb : Binds K fd ps []) (len : ∀ vs H Q E, sp vs H Q E → vs.length = ps.length) (KX : K.In s.heap) (r : Vals vs us) (h : sp vs H Q E) : BindsTo s fd ⟨us, []⟩ (ps.zip us) := by
  have hl : us.length = ps.length := by rw [← r.length]; exact len _ _ _ _ h
  have b := hb s us KX (by rw [List.append_nil]; exact hl)
  rw [List.append_nil] at b
  exact b
/-- f(e, ..) -/
theorem pe_callG (F : FnG X.prog X.w X.K X.mg X.base CX k f fd ps sp) (hr : RoomG k X.A) (hg : Gl X x) (hm : X.mg x = some (.ref f)) (hk : PySem.W.keepIn X.K (.ref f) = true) (hb : Binds X.K fd ps []) (hx : ∀ σ, PassesAt CX X σ (E σ))
    (ha : PA X (e :: es) t) (hdb : (x == ("__debug__" : Str)) = false := by decide) (he : starEach (e :: es) X.env = (false, eval e X.env) :: starEach es X.env := by rfl) (hpl : (backTo pos (starEach es X.env)).any (·.1) = false := by rfl) :
    PE X (.Call (.Name x p) (e :: es) [] pos) (tCallS sp E t) := by
  refine ⟨fun pins s σ H Q I h => ?_⟩
  refine wpAny_Call_Name_kw (ld_glob I hg hm ?_ hdb)
  refine PySem.W.callWith_K (h₀ := X.base) I.ok.mod.kin hk (thn (ha.run pos pins s σ H _ I h) fun us s1 ⟨vs, H1, I1, r, q⟩ => ⟨I1.kIn, ?_⟩) he hpl
  exact call_G F hr I1.env0 (binds_all hb F.len I1.kIn r q) (hx σ) I1 r q
/-- f() -/
theorem pe_callG0 (F : FnG X.prog X.w X.K X.mg X.base CX k f fd ps sp) (hr : RoomG k X.A) (hg : Gl X x) (hm : X.mg x = some (.ref f)) (hk : PySem.W.keepIn X.K (.ref f) = true) (hb : Binds X.K fd ps []) (hx : ∀ σ, PassesAt CX X σ (E σ))
    (hdb : (x == ("__debug__" : Str)) = false := by decide) : PE X (.Call (.Name x p) [] [] pos) (tCallS sp E tNil) := by
  refine ⟨fun pins s σ H Q I h => ?_⟩
  refine wpAny_Call_Name_kw (ld_glob I hg hm ?_ hdb)
  refine PySem.W.callWith_K0 I.kIn hk ?_
  exact call_G (us := []) (vsu := []) (vs := []) F hr I.env0 (binds_all hb F.len I.kIn (us := []) (vs := []) .nil h) (hx σ) I .nil h
/-- f(e, .., k = v, ..) -/
def tCallKG (sp : Sp) (gV : List V → List V → List V) (E : St → XK) (t tk : TA) : TE := fun σ H Q => t σ H fun vs H1 => tk σ H1 fun zs H2 => sp (gV vs zs) H2 Q (E σ)
theorem pe_callKG {g : List Value → List Value → List Value} {gV : List V → List V → List V} (F : FnG X.prog X.w X.K X.mg X.base CX k f fd ps sp) (hr : RoomG k X.A) (hg : Gl X x) (hm : X.mg x = some (.ref f)) (hk : PySem.W.keepIn X.K (.ref f) = true) (hb : KBinds X.K fd ps ks g gV) (hx : ∀ σ, PassesAt CX X σ (E σ))
    (ha : PA X (e :: es) t) (hkw : PK X kws tk) (hall : (backToKw pos (keywordEach kws X.env)).all (·.1.isSome) = true := by rfl) (hks : (backToKw pos (keywordEach kws X.env)).filterMap (·.1) = ks := by rfl)
    (hdb : (x == ("__debug__" : Str)) = false := by decide) (he : starEach (e :: es) X.env = (false, eval e X.env) :: starEach es X.env := by rfl)
    (hpl : ((backTo pos (starEach (e :: es) X.env)).any (·.1) || (backToKw pos (keywordEach kws X.env)).any (·.1.isNone)) = false := by rfl) :
    PE X (.Call (.Name x p) (e :: es) kws pos) (tCallKG sp gV E t tk) := by
  refine ⟨fun pins s σ H Q I h => ?_⟩
  refine wpAny_Call_Name_kw (ld_glob I hg hm ?_ hdb)
  refine PySem.W.callWith_KW (h₀ := X.base) I.ok.mod.kin hk hall (thn (ha.run pos pins s σ H _ I h) fun us s1 ⟨vs, H1, I1, r, q⟩ => ?_) hpl he
  refine thn (hkw.run pos pins s1 σ H1 _ I1 q) fun ws s2 ⟨zs, H2, I2, rz, q2⟩ => ⟨I2.kIn, ?_⟩
  rw [hks]
  have r2 := hb.rel r rz
  exact call_G F hr I2.env0 (hb.to s2 us ws I2.kIn (by rw [← r2.length]; exact F.len _ _ _ _ q2)) (hx σ) I2 r2 q2
/-- f(k = v, ..) -/
theorem pe_callKG0 {g : List Value → List Value → List Value} {gV : List V → List V → List V} (F : FnG X.prog X.w X.K X.mg X.base CX k f fd ps sp) (hr : RoomG k X.A) (hg : Gl X x) (hm : X.mg x = some (.ref f)) (hk : PySem.W.keepIn X.K (.ref f) = true) (hb : KBinds X.K fd ps ks g gV) (hx : ∀ σ, PassesAt CX X σ (E σ))
    (hkw : PK X kws tk) (hall : (backToKw pos (keywordEach kws X.env)).all (·.1.isSome) = true := by rfl) (hks : (backToKw pos (keywordEach kws X.env)).filterMap (·.1) = ks := by rfl)
    (hdb : (x == ("__debug__" : Str)) = false := by decide) (hpl : ((backTo pos (starEach [] X.env)).any (·.1) || (backToKw pos (keywordEach kws X.env)).any (·.1.isNone)) = false := by rfl) :
    PE X (.Call (.Name x p) [] kws pos) (tCallKG sp gV E tNil tk) := by
  refine ⟨fun pins s σ H Q I h => ?_⟩
  refine wpAny_Call_Name_kw (ld_glob I hg hm ?_ hdb)
  refine PySem.W.callWith_KW0 (h₀ := X.base) I.ok.mod.kin hk hall (thn (hkw.run pos pins s σ H _ I h) fun ws s2 ⟨zs, H2, I2, rz, q2⟩ => ⟨I2.kIn, ?_⟩) hpl
  rw [hks]
  have r2 := hb.rel (vs := []) (us := []) .nil rz
  exact call_G F hr I2.env0 (hb.to s2 [] ws I2.kIn (by rw [← r2.length]; exact F.len _ _ _ _ q2)) (hx σ) I2 r2 q2
/-- C(e, ..) -/
def tMakeG (C : Addr) (sp : Sp) (E : St → XK) (t : TA) : TE := fun σ H Q => t σ H fun vs H1 => ∀ x dx, H1 x = none → H1 dx = none → dx ≠ x →
  sp (.ref x :: vs) (upd (upd H1 dx (.own x)) x (.ins C dx [])) (fun v H2 => v = .non ∧ Q (.ref x) H2) (E σ)
theorem make_G {pins : List (Addr × Obj)} {σ : St} {H : Hp} {s : Shared} {Q : VK} {us vsu : List Value} {kw : List (Str × Value)} {vs : List V} (M : Mk X.K C f) (F : FnG X.prog X.w X.K X.mg X.base CX k f fd ps sp) (hr : RoomG (k + 1) X.A)
    (hb : ∀ s : Shared, X.K.In s.heap → ∀ x : Addr, BindsTo s fd ⟨.ref x :: us, kw⟩ (ps.zip (.ref x :: vsu))) (hx : PassesAt CX X σ (E σ)) (I : Inv X pins σ H s) (r : Vals vs vsu)
    (h : ∀ x dx, H x = none → H dx = none → dx ≠ x → sp (.ref x :: vs) (upd (upd H dx (.own x)) x (.ins C dx [])) (fun v H2 => v = .non ∧ Q (.ref x) H2) (E σ)) : wpAny (model X.prog X.w) X.A (call (.ref C) us kw) (EP X pins σ Q) X.xe s := by
  have hq := h (s.heap.objs.size + 1) s.heap.objs.size (I.hok.fresh (Nat.le_succ _)) (I.hok.fresh (Nat.le_refl _)) (Nat.ne_of_lt (Nat.lt_succ_self _))
  have I2 := Inv.made (C := C) I
  have r2 : Vals (V.ref (s.heap.objs.size + 1) :: vs) (Value.ref (s.heap.objs.size + 1) :: vsu) := .cons rfl r
  refine wpAny_call (make_map (f := f) I.kIn M.makes M.init (beq_iff_eq.mp M.fn) (codeAny_mono (run_G F (hr.make C us kw) (I2.env0.make C us kw) (hb _ I2.kIn _) hx I2 r2 hq) fun r s' hq' => ?_))
  cases r with
  | error e => exact hq'
  | ok fl =>
    cases fl with
    | ret u =>
      obtain ⟨v, H', I3, rv, ev, q3⟩ := hq'
      subst ev
      exact ⟨rv, ⟨V.ref (s.heap.objs.size + 1), H', I3, rfl, q3⟩⟩
    | next => exact False.elim hq'
    | brk => exact False.elim hq'
    | cont => exact False.elim hq'
theorem pe_makeG (M : Mk X.K C f) (F : FnG X.prog X.w X.K X.mg X.base CX k f fd ps sp) (hr : RoomG (k + 1) X.A) (hg : Gl X x) (hm : X.mg x = some (.ref C)) (hb : Binds X.K fd ps []) (hx : ∀ σ, PassesAt CX X σ (E σ))
    (ha : PA X (e :: es) t) (hdb : (x == ("__debug__" : Str)) = false := by decide) (he : starEach (e :: es) X.env = (false, eval e X.env) :: starEach es X.env := by rfl) (hpl : (backTo pos (starEach es X.env)).any (·.1) = false := by rfl) :
    PE X (.Call (.Name x p) (e :: es) [] pos) (tMakeG C sp E t) := by
  refine ⟨fun pins s σ H Q I h => ?_⟩
  refine wpAny_Call_Name_kw (ld_glob I hg hm ?_ hdb)
  refine PySem.W.callWith_K (h₀ := X.base) I.ok.mod.kin M.kp (thn (ha.run pos pins s σ H _ I h) fun us s1 ⟨vs, H1, I1, r, q⟩ => ⟨I1.kIn, ?_⟩) he hpl
  have hl : us.length + 1 = ps.length := by
    have := F.len _ _ _ _ (q (s1.heap.objs.size + 1) s1.heap.objs.size (I1.hok.fresh (Nat.le_succ _)) (I1.hok.fresh (Nat.le_refl _)) (Nat.ne_of_lt (Nat.lt_succ_self _)))
    rw [← r.length]
    exact this
  refine make_G M F hr (fun s KX x => ?_) (hx σ) I1 r q
  have b := hb s (.ref x :: us) KX (by rw [List.append_nil]; exact hl)
  rw [List.append_nil] at b
  exact b
/-- C(k = v, ..): the values by the keywords' order, then in the parameters' -/
def tMakeKG (C : Addr) (sp : Sp) (gV : List V → List V) (E : St → XK) (tk : TA) : TE := fun σ H Q => tk σ H fun zs H1 => ∀ x dx, H1 x = none → H1 dx = none → dx ≠ x →
  sp (.ref x :: gV zs) (upd (upd H1 dx (.own x)) x (.ins C dx [])) (fun v H2 => v = .non ∧ Q (.ref x) H2) (E σ)
theorem pe_makeKG {g : List Value → List Value} {gV : List V → List V} (M : Mk X.K C f) (F : FnG X.prog X.w X.K X.mg X.base CX k f fd ps sp) (hr : RoomG (k + 1) X.A) (hg : Gl X x) (hm : X.mg x = some (.ref C))
    (hb : KBinds X.K fd ps ks (fun us ws => us ++ g ws) (fun us ws => us ++ gV ws)) (hx : ∀ σ, PassesAt CX X σ (E σ))
    (hkw : PK X kws tk) (hall : (backToKw pos (keywordEach kws X.env)).all (·.1.isSome) = true := by rfl) (hks : (backToKw pos (keywordEach kws X.env)).filterMap (·.1) = ks := by rfl)
    (hdb : (x == ("__debug__" : Str)) = false := by decide) (hpl : ((backTo pos (starEach [] X.env)).any (·.1) || (backToKw pos (keywordEach kws X.env)).any (·.1.isNone)) = false := by rfl) :
    PE X (.Call (.Name x p) [] kws pos) (tMakeKG C sp gV E tk) := by
  refine ⟨fun pins s σ H Q I h => ?_⟩
  refine wpAny_Call_Name_kw (ld_glob I hg hm ?_ hdb)
  refine PySem.W.callWith_KW0 (h₀ := X.base) I.ok.mod.kin M.kp hall (thn (hkw.run pos pins s σ H _ I h) fun ws s2 ⟨zs, H2, I2, rz, q2⟩ => ⟨I2.kIn, ?_⟩) hpl
  rw [hks]
  have rg : Vals (gV zs) (g ws) := hb.rel (vs := []) (us := []) .nil rz
  have hl : ([Value.none] ++ g ws).length = ps.length := by
    have := F.len _ _ _ _ (q2 (s2.heap.objs.size + 1) s2.heap.objs.size (I2.hok.fresh (Nat.le_succ _)) (I2.hok.fresh (Nat.le_refl _)) (Nat.ne_of_lt (Nat.lt_succ_self _)))
    show (g ws).length + 1 = _
    rw [← rg.length]
    exact this
  exact make_G M F hr (us := []) (fun s KX x => hb.to s [.ref x] ws KX hl) (hx σ) I2 rg q2
end

theorem law_callG {P : Program} {w : World} {K : PySem.W.Frag} {mg mb : Str → Option Value} {CX : CXT} {k : Nat} {fa a : Addr} {fd : FuncData} {x : Str} {sp : Sp} {s₁ : Shared} {vs : List Value} {ns : List Int}
    (KX : K.In s₁.heap) (hns : s₁.heap.Ns mainGlobals mg) (hb : s₁.heap.Ns builtinsNs mb) (hbb : ∀ x : Str, x ≠ "__name__" → mb x = bootBuiltins x) (hlim : s₁.heap.NoLimit) (hg : s₁.gens = #[])
    (ha : s₁.heap.get? a = some { cls := .type "list", data := .seq vs.toArray }) (hi : IntsAre vs ns) (hl : ns.length ≤ sizeLine) (hr : RoomG k callerA)
    (F : ∀ base : Heap, K.In base → base.Ns mainGlobals mg → FnG P w K mg base CX k fa fd [x] sp) (hbind : ∀ (s : Shared) (u : Value), BindsTo s fd ⟨[u], []⟩ [(x, u)])
    (hsp : ∀ H : Hp, Only H → SqL K H a (ns.map V.int) → sp [.ref a] H (fun v _ => v = .bl true) fun _ _ _ => False)
    (hCX : ∀ H e s', CX [] H s₁ (fun _ _ _ => False) e s' → False) :
    codeAny (model P w) callerA (.call (.ref fa) ⟨[.ref a], []⟩) (fun r s' => r = .ok (.ret (.bool true)) ∧ OldK s₁.heap s'.heap ∧ s'.os = s₁.os ∧ AllBare s'.gens) s₁ := by
  have rv := vals_ints hi
  have lenV := hi.length
  have core : ∀ H : Hp, Only H → SqL K H a (ns.map V.int) → HOk P w H s₁.heap → (∀ b, H b ≠ none → b = a) → (H a ≠ none → K.lookup a = none) →
      codeAny (model P w) callerA (.call (.ref fa) ⟨[.ref a], []⟩) (fun r s' => r = .ok (.ret (.bool true)) ∧ OldK s₁.heap s'.heap ∧ s'.os = s₁.os ∧ AllBare s'.gens) s₁ := by
    intro H hO hS hok hA hK
    have base_of : ∀ {b : Addr} {o : Obj}, s₁.heap.get? b = some o → H b = none → (hidT s₁.heap H).get? b = some o := fun e n => hidT_get e n
    have noA : ∀ {b : Addr} {o : Obj} {es : Array DictEntry} {ep : Nat}, s₁.heap.get? b = some o → o.data = .dict es ep → H b = none := fun {b o es ep} e d => by
      cases q : H b with
      | none => rfl
      | some u =>
        have e' : b = a := hA b (by rw [q]; simp)
        subst e'
        rw [ha] at e; cases e
        have d' : Data.seq vs.toArray _ = Data.dict es ep := d
        cases d'
    have nsK : ∀ {b : Addr} {m : Str → Option Value}, s₁.heap.Ns b m → (hidT s₁.heap H).Ns b m := fun {b m} ⟨o, es, ep, e, d, r⟩ => ⟨o, es, ep, base_of e (noA e d), d, r⟩
    have hKb : K.In (hidT s₁.heap H) := fun b o e => base_of (KX b o e) (by
      cases q : H b with
      | none => rfl
      | some u =>
        have e' : b = a := hA b (by rw [q]; simp)
        subst e'
        rw [hK (by rw [q]; simp)] at e; cases e)
    have hM : Mod K mg (hidT s₁.heap H) := ⟨hKb, nsK hns, ⟨mb, nsK hb, hbb⟩, let ⟨mc, h1, h2⟩ := hlim; ⟨mc, nsK h1, h2⟩⟩
    have e0 : Env0 P w K mg (hidT s₁.heap H) callerA [] s₁ H := ⟨rfl, hM, fun b o e => of_hidT e, Nat.le_of_eq (hidT_size _ _), trivial, fun b hb => absurd (show b ∈ ([] : List Addr) from hb) (by simp), hok, .of_eq hg⟩
    refine codeAny_mono ((F _ hKb (nsK hns)).run callerA [] s₁ H ⟨[.ref a], []⟩ [.ref a] [.ref a] _ _ hr e0 (hbind s₁ (.ref a)) (.cons rfl .nil) (hsp H hO hS)) fun r s' h => ?_
    cases r with
    | error e => exact (hCX H e s' h).elim
    | ok fl =>
      cases fl with
      | next => exact False.elim h
      | brk => exact False.elim h
      | cont => exact False.elim h
      | ret u =>
        obtain ⟨v, H', os, bare, un, hok', r', q⟩ := h
        have q' : v = .bl true := q
        subst q'
        obtain rfl : u = Value.bool true := r'
        refine ⟨rfl, OldK.of_keep fun b o e => ?_, os, bare⟩
        cases q : H b with
        | none => exact un.keep b o e q (by intro z; exact absurd (show b ∈ ([] : List Addr) from z) (by simp)) (by simp)
        | some u =>
          rcases hO b with z | ⟨ob, xs, z⟩
          · rw [q] at z; cases z
          · have z2 := un.frzs b ob _ z
            obtain ⟨e1, _⟩ := hok b _ z
            obtain ⟨e2, _⟩ := hok' b _ z2
            rw [e] at e1; cases e1
            exact e2
  cases hk : K.lookup a with
  | some o =>
    have e := KX a o hk
    rw [ha] at e
    cases e
    refine core (fun _ => none) (fun _ => .inl rfl) (.inr ⟨_, vs.toArray, _, hk, rfl, rfl, rfl, by rw [List.size_toArray, lenV]; exact hl, by simpa using rv⟩) (fun b u z => by have z' : (none : Option HO) = some u := z; cases z') (fun b z => absurd rfl z) fun z => absurd rfl z
  | none =>
    refine core (fun b => if b = a then some (.frz { cls := .type "list", data := .seq vs.toArray } (.lst (ns.map V.int))) else none) (fun b => ?_) (.inl (.inr ⟨{ cls := .type "list", data := .seq vs.toArray }, if_pos rfl⟩)) (fun b u z => ?_) (fun b z => ?_) fun _ => hk
    · by_cases hb : b = a
      · exact .inr ⟨_, _, if_pos hb⟩
      · exact .inl (if_neg hb)
    · by_cases hb : b = a
      · have z' := (if_pos hb).symm.trans z
        cases z'
        subst hb
        exact ⟨ha, by rw [List.length_map]; exact hl, vs, _, rv, ha⟩
      · have z' := (if_neg hb).symm.trans z
        cases z'
    · by_cases hb : b = a
      · exact hb
      · exact absurd (if_neg hb) z
/-- the end of a law row, the script's bits told -/
theorem walk_ofG {l : PySem.W.OpenLaw} {n k : Nat} {q : Program} {loose : List Str} {XP : (Str → Option Value) → Heap → Prop} {YP : World → Heap → Prop} {d : DefRec} {K : Params → PySem.W.Frag} {CX : World → CXT} {sp : World → Sp} {x : Str}
    (hn : l.most = some n) (hn2 : n ≤ sizeLine) (hdf : d.params.defaults = []) (hr : Room k callerA)
    (hY : ∀ (w : World) (h : Heap), YP w h → (K w.params).In h)
    (F : ∀ (w : World) (mg : Str → Option Value) (fa : Addr) (h : Heap), (K w.params).In h → h.Ns mainGlobals mg → mg d.name = some (.ref fa) →
      ∃ fd : FuncData, (∀ (s : Shared) (u : Value), BindsTo s fd ⟨[u], []⟩ [(x, u)]) ∧
        ∀ base : Heap, (K w.params).In base → base.Ns mainGlobals mg → FnG l.prog w (K w.params) mg base (CX w) k fa fd [x] (sp w))
    (hsp : ∀ (w : World) (H : Hp) (a : Addr) (ns : List Int), ns.length ≤ n → (∀ z ∈ ns, Builtin.Int.intBits z ≤ 1048576) → Only H → SqL (K w.params) H a (ns.map V.int) → sp w [.ref a] H (fun v _ => v = .bl true) fun _ _ _ => False)
    (hCX : ∀ (w : World) (H : Hp) (s : Shared) (e : Value) (s' : Shared), CX w [] H s (fun _ _ _ => False) e s' → False) :
    PySem.W.WalkO q loose XP YP l.row.toRowW d [] (fun f vs => PySem.call f vs) := by
  refine Att.attach_callB hn hdf fun w s₀ s₁ mg mb fa o pm cd doc a vs ns G Y ho hd hcd hmg hobj hints hlen hbits hg => ?_
  have KX := hY w _ Y
  obtain ⟨fd, hb, hF⟩ := F w mg fa _ KX G.T.g hmg
  exact law_callG KX G.T.g G.T.b G.T.builtins G.T.nolimit hg hobj hints (Nat.le_trans hlen hn2) ⟨hr, rfl⟩ hF hb (fun H hO hS => hsp w H a ns hlen hbits hO hS) fun H e s' => hCX w H s₁ e s'
end L2
set_option Elab.async false
set_option linter.all false
set_option maxRecDepth 100000
/-! VL1: plain values over HandS: data by value, lists that a frame owns, ghosts; how they lie in the heap. -/
namespace VL
open PySem PySem.Spec PyProof.Rows L2
abbrev St := L2.St

/-- ghosts: F, the lists that nobody changes any more; D, the lists of the draws (1: a handle, 2: a list within) -/
structure Gh where
  F : Addr → Prop
  D : Addr → Nat

/-- what a slot holds -/
inductive SV where
  | d (x : PyData)
  | own (xs : List PyData)
  | deal (k : Nat)
  | obj (C : Addr) (fs : List (Str × PyData))
  | me (a : Addr)
  | exc (a d : Addr) (fs : List (Str × PyData))
  | scr (ns : List Int)
/-- what an expression gives: data; a new list that nobody else holds; the list that slot i owns; a draw's handle; an object -/
inductive TV where
  | d (x : PyData)
  | fresh (xs : List PyData)
  | bor (i : Nat)
  | deal (k : Nat)
  | obj (C : Addr) (fs : List (Str × PyData))
  | scr (ns : List Int)
/-- an exception: its class, its fields -/
structure Xn where
  c : Value
  fs : List (Str × PyData)
abbrev SE := List (Option SV)

section
variable (K : PySem.W.Frag)
mutual
inductive Rp (F : Addr → Prop) (H : Hp) : V → PyData → Prop
  | non : Rp F H .non .none
  | bl (b : Bool) : Rp F H (.bl b) (.bool b)
  | int (i : Int) : Rp F H (.int i) (.int i)
  | str (x : Str) : Rp F H (.str x) (.str x)
  | lst {a : Addr} {xs : List V} {ds : List PyData} : F a → H a = some (.lst xs) → RpAll F H xs ds → Rp F H (.ref a) (.list ds)
  | tup {a : Addr} {xs : List V} {ds : List PyData} : SqT K H a xs → RpAll F H xs ds → Rp F H (.ref a) (.tuple ds)
inductive RpAll (F : Addr → Prop) (H : Hp) : List V → List PyData → Prop
  | nil : RpAll F H [] []
  | cons {v : V} {vs : List V} {d : PyData} {ds : List PyData} : Rp F H v d → RpAll F H vs ds → RpAll F H (v :: vs) (d :: ds)
end
end

/-- what stays from H to H': tuples, frozen lists, what the written part says -/
structure Keep (K : PySem.W.Frag) (F : Addr → Prop) (H : Hp) (F' : Addr → Prop) (H' : Hp) : Prop where
  f : ∀ a, F a → F' a
  l : ∀ a xs, F a → H a = some (.lst xs) → H' a = some (.lst xs)
  t : ∀ a xs, SqT K H a xs → SqT K H' a xs
section
variable {K : PySem.W.Frag} {F F' F'' : Addr → Prop} {H H' H'' : Hp}
theorem Keep.refl : Keep K F H F H := ⟨fun _ h => h, fun _ _ _ h => h, fun _ _ h => h⟩
theorem Keep.low (k : Keep K F H F' H') : Keep K (fun _ => False) H (fun _ => False) H' := ⟨fun _ h => h, fun _ _ h _ => h.elim, k.t⟩
theorem Keep.trans (a : Keep K F H F' H') (b : Keep K F' H' F'' H'') : Keep K F H F'' H'' :=
  ⟨fun x h => b.f x (a.f x h), fun x xs h q => b.l x xs (a.f x h) (a.l x xs h q), fun x xs q => b.t x xs (a.t x xs q)⟩
mutual
theorem Rp.keep (k : Keep K F H F' H') : ∀ {v : V} {x : PyData}, Rp K F H v x → Rp K F' H' v x
  | _, _, .non => .non
  | _, _, .bl b => .bl b
  | _, _, .int i => .int i
  | _, _, .str x => .str x
  | _, _, .lst f h r => .lst (k.f _ f) (k.l _ _ f h) (RpAll.keep k r)
  | _, _, .tup h r => .tup (k.t _ _ h) (RpAll.keep k r)
theorem RpAll.keep (k : Keep K F H F' H') : ∀ {vs : List V} {xs : List PyData}, RpAll K F H vs xs → RpAll K F' H' vs xs
  | _, _, .nil => .nil
  | _, _, .cons h r => .cons (Rp.keep k h) (RpAll.keep k r)
end
mutual
theorem Rp.dp : ∀ {v : V} {x : PyData}, Rp K F H v x → Dp K H v x
  | _, _, .non => .non
  | _, _, .bl b => .bl b
  | _, _, .int i => .int i
  | _, _, .str x => .str x
  | _, _, .lst _ h r => .lst (.inl (.inl h)) (RpAll.dp r)
  | _, _, .tup h r => .tup h (RpAll.dp r)
theorem RpAll.dp : ∀ {vs : List V} {xs : List PyData}, RpAll K F H vs xs → DpAll K H vs xs
  | _, _, .nil => .nil
  | _, _, .cons h r => .cons (Rp.dp h) (RpAll.dp r)
end
theorem RpAll.length : ∀ {vs : List V} {xs : List PyData}, RpAll K F H vs xs → vs.length = xs.length
  | _, _, .nil => rfl
  | _, _, .cons _ r => by simp [RpAll.length r]
theorem RpAll.append : ∀ {vs ws : List V} {xs ys : List PyData}, RpAll K F H vs xs → RpAll K F H ws ys → RpAll K F H (vs ++ ws) (xs ++ ys)
  | _, _, _, _, .nil, s => s
  | _, _, _, _, .cons h r, s => .cons h (RpAll.append r s)
theorem RpAll.get : ∀ {vs : List V} {xs : List PyData} {i : Nat} {v : V}, RpAll K F H vs xs → vs[i]? = some v → ∃ x, xs[i]? = some x ∧ Rp K F H v x
  | _, _, _, _, .nil, h => by simp at h
  | _, _, 0, _, .cons h r, e => by simp at e; subst e; exact ⟨_, rfl, h⟩
  | _, _, i + 1, _, .cons h r, e => by
    obtain ⟨x, e1, e2⟩ := RpAll.get (i := i) r (by simpa using e)
    exact ⟨x, by simpa using e1, e2⟩
theorem RpAll.get2 : ∀ {vs : List V} {xs : List PyData} {i : Nat} {x : PyData}, RpAll K F H vs xs → xs[i]? = some x → ∃ v, vs[i]? = some v ∧ Rp K F H v x
  | _, _, _, _, .nil, h => by simp at h
  | _, _, 0, _, .cons h r, e => by simp at e; subst e; exact ⟨_, rfl, h⟩
  | _, _, i + 1, _, .cons h r, e => by
    obtain ⟨x, e1, e2⟩ := RpAll.get2 (i := i) r (by simpa using e)
    exact ⟨x, by simpa using e1, e2⟩
theorem RpAll.take : ∀ {vs : List V} {xs : List PyData} (n : Nat), RpAll K F H vs xs → RpAll K F H (vs.take n) (xs.take n)
  | _, _, 0, _ => .nil
  | _, _, _ + 1, .nil => .nil
  | _, _, n + 1, .cons h r => .cons h (RpAll.take n r)
theorem RpAll.drop : ∀ {vs : List V} {xs : List PyData} (n : Nat), RpAll K F H vs xs → RpAll K F H (vs.drop n) (xs.drop n)
  | _, _, 0, r => r
  | _, _, _ + 1, .nil => .nil
  | _, _, n + 1, .cons _ r => RpAll.drop n r
theorem RpAll.set {v : V} {x : PyData} (h : Rp K F H v x) : ∀ {vs : List V} {xs : List PyData} (i : Nat), RpAll K F H vs xs → RpAll K F H (vs.set i v) (xs.set i x)
  | _, _, _, .nil => .nil
  | _, _, 0, .cons _ r => .cons h r
  | _, _, i + 1, .cons q r => .cons q (RpAll.set h i r)
theorem RpAll.reverse {vs : List V} {xs : List PyData} (h : RpAll K F H vs xs) : RpAll K F H vs.reverse xs.reverse := by
  have : ∀ {vs : List V} {xs : List PyData}, RpAll K F H vs xs → RpAll K F H vs.reverse xs.reverse := by
    intro vs
    induction vs with
    | nil => intro xs h; cases h; exact .nil
    | cons v vs ih =>
      intro xs h
      cases h with
      | cons q r =>
        rw [List.reverse_cons, List.reverse_cons]
        exact (ih r).append (.cons q .nil)
  exact this h
theorem RpAll.eraseIdx : ∀ {vs : List V} {xs : List PyData} (i : Nat), RpAll K F H vs xs → RpAll K F H (vs.eraseIdx i) (xs.eraseIdx i)
  | _, _, _, .nil => .nil
  | _, _, 0, .cons _ r => r
  | _, _, i + 1, .cons q r => .cons q (RpAll.eraseIdx i r)
theorem RpAll.dropLast {vs : List V} {xs : List PyData} (h : RpAll K F H vs xs) : RpAll K F H vs.dropLast xs.dropLast := by
  have e1 : vs.dropLast = vs.take (vs.length - 1) := by rw [List.dropLast_eq_take]
  have e2 : xs.dropLast = xs.take (xs.length - 1) := by rw [List.dropLast_eq_take]
  rw [e1, e2, h.length]
  exact h.take _
theorem RpAll.ints : ∀ {vs : List V} {ns : List Int}, RpAll K F H vs (ns.map PyData.int) → vs = ns.map V.int
  | _, [], h => by cases h; rfl
  | _, n :: ns, h => by
    cases h with
    | cons q r => cases q; rw [RpAll.ints r]; rfl
theorem RpAll.ofInts : ∀ (ns : List Int), RpAll K F H (ns.map V.int) (ns.map PyData.int)
  | [] => .nil
  | n :: ns => .cons (.int n) (RpAll.ofInts ns)
theorem RpAll.bools : ∀ {vs : List V} {ns : List Bool}, RpAll K F H vs (ns.map PyData.bool) → vs = ns.map V.bl
  | _, [], h => by cases h; rfl
  | _, n :: ns, h => by
    cases h with
    | cons q r => cases q; rw [RpAll.bools r]; rfl
end

/-- read now: a list may be one that changes later -/
def Rq (K : PySem.W.Frag) (F : Addr → Prop) (H : Hp) (v : V) : PyData → Prop
  | .list ds => ∃ a xs, v = .ref a ∧ H a = some (.lst xs) ∧ RpAll K F H xs ds
  | x => Rp K F H v x
section
variable {K : PySem.W.Frag} {F F' : Addr → Prop} {H H' : Hp}
theorem Rp.rq {v : V} {x : PyData} (h : Rp K F H v x) : Rq K F H v x := by
  cases h with
  | lst f h r => exact ⟨_, _, rfl, h, r⟩
  | non => exact .non
  | bl b => exact .bl b
  | int i => exact .int i
  | str x => exact .str x
  | tup h r => exact .tup h r
theorem Rq.dp {v : V} {x : PyData} (h : Rq K F H v x) : Dp K H v x := by
  cases x with
  | list ds => obtain ⟨a, xs, rfl, h1, h2⟩ := h; exact .lst (.inl (.inl h1)) h2.dp
  | none => exact Rp.dp h
  | bool b => exact Rp.dp h
  | int i => exact Rp.dp h
  | str x => exact Rp.dp h
  | tuple ds => exact Rp.dp h
  | dict kvs => exact Rp.dp h
theorem Rq.int {v : V} {i : Int} (h : Rq K F H v (.int i)) : v = .int i := by cases h; rfl
theorem Rq.bool {v : V} {i : Bool} (h : Rq K F H v (.bool i)) : v = .bl i := by cases h; rfl
theorem Rq.str {v : V} {i : Str} (h : Rq K F H v (.str i)) : v = .str i := by cases h; rfl
theorem Rq.none {v : V} (h : Rq K F H v .none) : v = .non := by cases h; rfl
theorem Rq.tup {v : V} {ds : List PyData} (h : Rq K F H v (.tuple ds)) : ∃ a xs, v = .ref a ∧ SqT K H a xs ∧ RpAll K F H xs ds := by
  cases h with
  | tup h r => exact ⟨_, _, rfl, h, r⟩
end

/-- the draws' lists: a handle holds three numbers, or a list of numbers and a number -/
def DI (D : Addr → Nat) (H : Hp) : Prop := ∀ a,
  (D a = 1 → ∃ i j k : Int, H a = some (.lst [V.int i, V.int j, V.int k])) ∧
  (D a = 3 → ∃ (c : Addr) (b : Int), D c = 2 ∧ H a = some (.lst [V.ref c, V.int b])) ∧
  (D a = 2 → ∃ ns : List Int, ns.length ≤ 63 ∧ H a = some (.lst (ns.map V.int))) ∧ D a ≤ 3
theorem le3 {n : Nat} (h : n ≤ 3) (h0 : n ≠ 0) : n = 1 ∨ n = 2 ∨ n = 3 := by omega
theorem DI.some {D : Addr → Nat} {H : Hp} (h : DI D H) {a : Addr} (n : D a ≠ 0) : ∃ xs, H a = some (.lst xs) := by
  obtain ⟨h1, h4, h2, h3⟩ := h a
  have e : D a = 1 ∨ D a = 2 ∨ D a = 3 := le3 h3 n
  rcases e with e | e | e
  · obtain ⟨i, j, k, q⟩ := h1 e
    exact ⟨_, q⟩
  · obtain ⟨ns, _, q⟩ := h2 e
    exact ⟨_, q⟩
  · obtain ⟨c, b, _, q⟩ := h4 e
    exact ⟨_, q⟩
theorem DI.keep {D : Addr → Nat} {H H' : Hp} (h : DI D H) (k : ∀ a, D a ≠ 0 → H' a = H a) : DI D H' := fun a => by
  obtain ⟨h1, h4, h2, h3⟩ := h a
  refine ⟨fun e => ?_, fun e => ?_, fun e => ?_, h3⟩
  · rw [k a (by rw [e]; decide)]
    exact h1 e
  · rw [k a (by rw [e]; decide)]
    exact h4 e
  · rw [k a (by rw [e]; decide)]
    exact h2 e

/-- fields of an object -/
def RFs (K : PySem.W.Frag) (F : Addr → Prop) (H : Hp) : List (Str × V) → List (Str × PyData) → Prop := Paired fun p q => p.1 = q.1 ∧ Rp K F H p.2 q.2
theorem RFs.keep {K : PySem.W.Frag} {F F' : Addr → Prop} {H H' : Hp} (k : Keep K F H F' H') {vs : List (Str × V)} {fs : List (Str × PyData)} (h : RFs K F H vs fs) : RFs K F' H' vs fs :=
  Paired.mapP h fun _ _ q => ⟨q.1, q.2.keep k⟩

/-- the script: nobody changes it -/
def Scr (K : PySem.W.Frag) (H : Hp) (a : Addr) (ns : List Int) : Prop := (∃ o, H a = some (.frz o (.lst (ns.map V.int)))) ∨ SqL K (fun _ => none) a (ns.map V.int)
theorem Scr.sq {K : PySem.W.Frag} {H : Hp} {a : Addr} {ns : List Int} (h : Scr K H a ns) : SqL K H a (ns.map V.int) := by
  rcases h with ⟨o, h⟩ | ((h | ⟨o, h⟩) | h)
  · exact .inl (.inr ⟨o, h⟩)
  · cases h
  · cases h
  · exact .inr h
theorem Scr.mono {K : PySem.W.Frag} {H H' : Hp} {a : Addr} {ns : List Int} (h : Scr K H a ns) (k : ∀ o xs, H a = some (.frz o (.lst xs)) → H' a = some (.frz o (.lst xs))) : Scr K H' a ns := h.elim (fun ⟨o, e⟩ => .inl ⟨o, k o _ e⟩) .inr
def RS (K : PySem.W.Frag) (G : Gh) (H : Hp) : SV → V → Prop
  | .d x, v => Rp K G.F H v x
  | .own xs, v => ∃ a vs, v = .ref a ∧ H a = some (.lst vs) ∧ RpAll K G.F H vs xs ∧ ¬ G.F a ∧ G.D a = 0
  | .deal k, v => ∃ a, v = .ref a ∧ G.D a = k ∧ k ≠ 0
  | .obj C fs, v => ∃ a dx vs, v = .ref a ∧ H a = some (.ins C dx vs) ∧ RFs K G.F H vs fs
  | .me a, v => v = .ref a
  | .exc a d fs, v => v = .ref a ∧ ∃ vs, H d = some (.xd vs) ∧ RFs K (fun _ => False) H vs fs
  | .scr ns, v => ∃ a, v = .ref a ∧ Scr K H a ns

def Own (ρ : SE) (σ : St) (a : Addr) : Prop := ∃ (i : Nat) (xs : List PyData), ρ[i]? = some (some (SV.own xs)) ∧ σ[i]? = some (some (V.ref a))

/-- Hs: the heap at the expression's start -/
def RT (K : PySem.W.Frag) (Hs : Hp) (G : Gh) (ρ : SE) (σ : St) (H : Hp) : TV → V → Prop
  | .d x, v => Rp K G.F H v x
  | .fresh xs, v => ∃ a vs, v = .ref a ∧ H a = some (.lst vs) ∧ RpAll K G.F H vs xs ∧ ¬ G.F a ∧ G.D a = 0 ∧ ¬ Own ρ σ a ∧ Hs a = none
  | .bor i, v => σ[i]? = some (some v)
  | .deal k, v => ∃ a, v = .ref a ∧ G.D a = k ∧ k ≠ 0
  | .obj C fs, v => ∃ a dx vs, v = .ref a ∧ H a = some (.ins C dx vs) ∧ RFs K G.F H vs fs
  | .scr ns, v => ∃ a, v = .ref a ∧ Scr K H a ns

/-- from a def's entry (G0, H0) to now -/
structure Ext (G0 : Gh) (H0 : Hp) (G : Gh) (H : Hp) : Prop where
  di : DI G.D H
  fd : ∀ a, G.F a → G.D a = 0
  ft : ∀ a, G.F a → ∃ o, H a = some o
  keep : ∀ a o, H0 a = some o → G0.D a = 0 → H a = some o
  fsub : ∀ a, G0.F a → G.F a
  fnew : ∀ a, G.F a → G0.F a ∨ H0 a = none
  dsub : ∀ a, G0.D a ≠ 0 → G.D a = G0.D a
  dnew : ∀ a, G.D a ≠ 0 → G0.D a ≠ 0 ∨ H0 a = none

theorem Ext.none0 {G0 G : Gh} {H0 H : Hp} (e : Ext G0 H0 G H) {a : Addr} (h : H a = none) : H0 a = none := by
  cases q : H0 a with
  | none => rfl
  | some o =>
    by_cases z : G0.D a = 0
    · rw [e.keep a o q z] at h
      cases h
    · obtain ⟨xs, q2⟩ := e.di.some (a := a) (by rw [e.dsub a z]; exact z)
      rw [h] at q2
      cases q2
structure Rep (K : PySem.W.Frag) (G0 : Gh) (H0 : Hp) (G : Gh) (ρ : SE) (σ : St) (H : Hp) : Prop where
  ext : Ext G0 H0 G H
  len : ρ.length = σ.length
  slot : ∀ (i : Nat) (sv : SV), ρ[i]? = some (some sv) → ∃ v, σ[i]? = some (some v) ∧ RS K G H sv v
  inj : ∀ (i j : Nat) (xs ys : List PyData) (a : Addr), ρ[i]? = some (some (SV.own xs)) → ρ[j]? = some (some (SV.own ys)) → σ[i]? = some (some (V.ref a)) → σ[j]? = some (some (V.ref a)) → i = j
  new : ∀ a, Own ρ σ a → H0 a = none

/-- one step of an expression -/
structure Evo (ρ : SE) (σ : St) (G : Gh) (H : Hp) (ρ' : SE) (G' : Gh) (H' : Hp) : Prop where
  keep : ∀ a o, H a = some o → ¬ Own ρ σ a → G.D a = 0 → H' a = some o
  there : ∀ a o, H a = some o → ∃ o', H' a = some o'
  fsub : ∀ a, G.F a → G'.F a
  fnew : ∀ a, G'.F a → G.F a ∨ Own ρ σ a ∨ H a = none
  dsub : ∀ a, G.D a ≠ 0 → G'.D a = G.D a
  dnew : ∀ a, G'.D a ≠ 0 → G.D a ≠ 0 ∨ H a = none
  own : ∀ a, Own ρ' σ a → Own ρ σ a
  len : ρ'.length = ρ.length

section
variable {K : PySem.W.Frag} {G0 G G' G'' : Gh} {H0 H H' H'' : Hp} {ρ ρ' ρ'' : SE} {σ : St}
theorem Rep.own_some (R : Rep K G0 H0 G ρ σ H) {a : Addr} (h : Own ρ σ a) : ∃ vs, H a = some (.lst vs) ∧ ¬ G.F a ∧ G.D a = 0 := by
  obtain ⟨i, xs, e1, e2⟩ := h
  obtain ⟨v, e3, a', vs, rfl, h1, _, h3, h4⟩ := R.slot i _ e1
  rw [e2] at e3
  cases e3
  exact ⟨vs, h1, h3, h4⟩
theorem Evo.none (e : Evo ρ σ G H ρ' G' H') {a : Addr} (h : H' a = none) : H a = none := by
  cases q : H a with
  | none => rfl
  | some o =>
    obtain ⟨o', q'⟩ := e.there a o q
    rw [h] at q'
    cases q'
theorem Evo.refl : Evo ρ σ G H ρ G H := ⟨fun _ _ h _ _ => h, fun _ o h => ⟨o, h⟩, fun _ h => h, fun _ h => .inl h, fun _ _ => rfl, fun _ h => .inl h, fun _ h => h, rfl⟩
theorem Evo.trans (a : Evo ρ σ G H ρ' G' H') (b : Evo ρ' σ G' H' ρ'' G'' H'') : Evo ρ σ G H ρ'' G'' H'' where
  keep := fun x o h1 h2 h3 => by
    refine b.keep x o (a.keep x o h1 h2 h3) (fun z => h2 (a.own x z)) ?_
    by_cases h : G'.D x = 0
    · exact h
    · rcases a.dnew x h with z | z
      · exact absurd h3 z
      · rw [h1] at z; cases z
  there := fun x o h => by
    obtain ⟨o', h'⟩ := a.there x o h
    exact b.there x o' h'
  fsub := fun x h => b.fsub x (a.fsub x h)
  fnew := fun x h => by
    rcases b.fnew x h with z | z | z
    · exact a.fnew x z
    · exact .inr (.inl (a.own x z))
    · exact .inr (.inr (a.none z))
  dsub := fun x h => by
    have e := a.dsub x h
    rw [b.dsub x (by rw [e]; exact h), e]
  dnew := fun x h => by
    rcases b.dnew x h with z | z
    · exact a.dnew x z
    · exact .inr (a.none z)
  own := fun x h => a.own x (b.own x h)
  len := b.len.trans a.len
theorem Evo.keeps (e : Evo ρ σ G H ρ' G' H') (R : Rep K G0 H0 G ρ σ H) : Keep K G.F H G'.F H' where
  f := e.fsub
  l := fun a xs f h => by
    have hd := R.ext.fd a f
    have ho : ¬ Own ρ σ a := fun z => by
      obtain ⟨_, _, nf, _⟩ := R.own_some z
      exact nf f
    exact e.keep _ _ h ho hd
  t := fun a xs h => by
    have ho : ∀ o, H a = some o → (∀ vs, o ≠ .lst vs) → ¬ Own ρ σ a := fun o q n z => by
      obtain ⟨vs, q2, _⟩ := R.own_some z
      rw [q] at q2
      cases q2
      exact n _ rfl
    have hd : ∀ o, H a = some o → (∀ vs, o ≠ .lst vs) → G.D a = 0 := fun o q n => by
      by_cases z : G.D a = 0
      · exact z
      · obtain ⟨xs, q2⟩ := R.ext.di.some z
        rw [q] at q2
        cases q2
        exact absurd rfl (n _)
    rcases h with (h | ⟨o, h⟩) | h
    · exact .inl (.inl (e.keep _ _ h (ho _ h fun _ z => nomatch z) (hd _ h fun _ z => nomatch z)))
    · exact .inl (.inr ⟨o, e.keep _ _ h (ho _ h fun _ z => nomatch z) (hd _ h fun _ z => nomatch z)⟩)
    · exact .inr h
/-- a value that was given earlier is still what it was -/
theorem RT.evo {tv : TV} {v : V} {Hs : Hp} (r : RT K Hs G ρ σ H tv v) (e : Evo ρ σ G H ρ' G' H') (R : Rep K G0 H0 G ρ σ H) : RT K Hs G' ρ' σ H' tv v := by
  have k := e.keeps R
  cases tv with
  | d x => exact Rp.keep k r
  | fresh xs =>
    obtain ⟨a, vs, rfl, h1, h2, h3, h4, h5, h6⟩ := r
    refine ⟨a, vs, rfl, e.keep a _ h1 h5 h4, h2.keep k, fun z => ?_, ?_, fun z => h5 (e.own a z), h6⟩
    · rcases e.fnew a z with q | q | q
      · exact h3 q
      · exact h5 q
      · rw [h1] at q; cases q
    · by_cases z : G'.D a = 0
      · exact z
      · rcases e.dnew a z with q | q
        · exact absurd h4 q
        · rw [h1] at q; cases q
  | bor i => exact r
  | deal k =>
    obtain ⟨a, rfl, h, hk⟩ := r
    exact ⟨a, rfl, by rw [e.dsub a (by omega), h], hk⟩
  | obj C fs =>
    obtain ⟨a, dx, vs, rfl, h1, h2⟩ := r
    have ho : ¬ Own ρ σ a := fun z => by
      obtain ⟨_, q, _⟩ := R.own_some z
      rw [h1] at q
      cases q
    have hd : G.D a = 0 := by
      by_cases z : G.D a = 0
      · exact z
      · obtain ⟨xs, q⟩ := R.ext.di.some z
        rw [h1] at q
        cases q
    exact ⟨a, dx, vs, rfl, e.keep a _ h1 ho hd, h2.keep k⟩
  | scr ns =>
    obtain ⟨a, rfl, h⟩ := r
    refine ⟨a, rfl, h.mono fun o xs h1 => e.keep a _ h1 (fun z => ?_) ?_⟩
    · obtain ⟨_, q, _⟩ := R.own_some z
      rw [h1] at q
      cases q
    · by_cases z : G.D a = 0
      · exact z
      · obtain ⟨ys, q⟩ := R.ext.di.some z
        rw [h1] at q
        cases q

/-- the list that slot i owns -/
def ownAt (ρ : SE) (i : Nat) : Option (List PyData) := match ρ[i]? with
  | some (some (SV.own xs)) => some xs
  | _ => none
theorem ownAt_some {ρ : SE} {i : Nat} {xs : List PyData} (h : ownAt ρ i = some xs) : ρ[i]? = some (some (SV.own xs)) := by
  unfold ownAt at h
  split at h
  · rename_i ys e
    cases h
    exact e
  · cases h
/-- what a value reads as now -/
def res (ρ : SE) : TV → Option PyData
  | .d x => some x
  | .fresh xs => some (.list xs)
  | .bor i => (ownAt ρ i).map PyData.list
  | _ => none
theorem RT.rq {tv : TV} {v : V} {x : PyData} {Hs : Hp} (r : RT K Hs G ρ σ H tv v) (R : Rep K G0 H0 G ρ σ H) (h : res ρ tv = some x) : Rq K G.F H v x := by
  cases tv with
  | d y => cases h; exact Rp.rq r
  | fresh xs =>
    cases h
    obtain ⟨a, vs, rfl, h1, h2, _⟩ := r
    exact ⟨a, vs, rfl, h1, h2⟩
  | bor i =>
    have h' : (ownAt ρ i).map PyData.list = some x := h
    cases q : ownAt ρ i with
    | none => rw [q] at h'; cases h'
    | some xs =>
      rw [q] at h'
      cases h'
      obtain ⟨v', e1, a, vs, rfl, h1, h2, _⟩ := R.slot i _ (ownAt_some q)
      have r' : σ[i]? = some (some v) := r
      rw [r'] at e1
      cases e1
      exact ⟨a, vs, rfl, h1, h2⟩
  | deal k => cases h
  | obj C fs => cases h
  | scr ns => cases h
/-- objects are laid, nothing else -/
structure Grow (H H' : Hp) : Prop where
  s : ∀ a o, H a = some o → H' a = some o
theorem Grow.upd {p : Addr} {o : HO} (n : H p = none) : Grow H (upd H p o) := ⟨fun a u e => by rw [upd_ne (ne_of_none e n)]; exact e⟩
theorem Grow.refl : Grow H H := ⟨fun _ _ h => h⟩
theorem Grow.trans (a : Grow H H') (b : Grow H' H'') : Grow H H'' := ⟨fun x o h => b.s x o (a.s x o h)⟩
theorem Grow.keep {F : Addr → Prop} (g : Grow H H') : Keep K F H F H' where
  f := fun _ h => h
  l := fun a xs _ h => g.s _ _ h
  t := fun a xs h => by
    rcases h with (h | ⟨o, h⟩) | h
    · exact .inl (.inl (g.s _ _ h))
    · exact .inl (.inr ⟨o, g.s _ _ h⟩)
    · exact .inr h
theorem RFs.grow {F : Addr → Prop} (g : Grow H H') {vs : List (Str × V)} {fs : List (Str × PyData)} (h : RFs K F H vs fs) : RFs K F H' vs fs := h.keep g.keep
theorem Ext.grow (g : Grow H H') (e : Ext G0 H0 G H) : Ext G0 H0 G H' where
  di := e.di.keep fun a n => by
    obtain ⟨xs, q⟩ := e.di.some n
    rw [q, g.s a _ q]
  fd := e.fd
  ft := fun a f => by
    obtain ⟨o, h⟩ := e.ft a f
    exact ⟨o, g.s a o h⟩
  keep := fun a o h1 h2 => g.s a o (e.keep a o h1 h2)
  fsub := e.fsub
  fnew := e.fnew
  dsub := e.dsub
  dnew := e.dnew
theorem RS.grow (g : Grow H H') {sv : SV} {v : V} (r : RS K G H sv v) : RS K G H' sv v := by
  cases sv with
  | d x => exact Rp.keep g.keep r
  | own xs =>
    obtain ⟨a, vs, rfl, h1, h2, h3⟩ := r
    exact ⟨a, vs, rfl, g.s _ _ h1, h2.keep g.keep, h3⟩
  | deal k => exact r
  | obj C fs =>
    obtain ⟨a, dx, vs, rfl, h1, h2⟩ := r
    exact ⟨a, dx, vs, rfl, g.s _ _ h1, h2.grow g⟩
  | me b => exact r
  | exc a d fs =>
    obtain ⟨e, vs, h1, h2⟩ := r
    exact ⟨e, vs, g.s _ _ h1, h2.grow g⟩
  | scr ns =>
    obtain ⟨a, e, h⟩ := r
    exact ⟨a, e, h.mono fun o xs h1 => g.s _ _ h1⟩
theorem Rep.grow (R : Rep K G0 H0 G ρ σ H) (g : Grow H H') : Rep K G0 H0 G ρ σ H' where
  ext := R.ext.grow g
  len := R.len
  slot := fun i sv e => by
    obtain ⟨v, e1, r⟩ := R.slot i sv e
    exact ⟨v, e1, r.grow g⟩
  inj := R.inj
  new := R.new
theorem Grow.evo (g : Grow H H') : Evo ρ σ G H ρ G H' :=
  ⟨fun a o h _ _ => g.s a o h, fun a o h => ⟨o, g.s a o h⟩, fun _ h => h, fun _ h => .inl h, fun _ _ => rfl, fun _ h => .inl h, fun _ h => h, rfl⟩
/-- an operation's result: data, or a new list -/
def NR (K : PySem.W.Frag) (F : Addr → Prop) (H H' : Hp) : TV → V → Prop
  | .d x, v => Rp K F H' v x
  | .fresh xs, v => ∃ a vs, v = .ref a ∧ H a = none ∧ H' a = some (.lst vs) ∧ RpAll K F H' vs xs
  | _, _ => False
theorem NR.rt {tv : TV} {v : V} (h : NR K G.F H H' tv v) (R : Rep K G0 H0 G ρ σ H) {Hs : Hp} (hs : ∀ a, H a = none → Hs a = none) : RT K Hs G ρ σ H' tv v := by
  cases tv with
  | d x => exact h
  | fresh xs =>
    obtain ⟨a, vs, rfl, h1, h2, h3⟩ := h
    refine ⟨a, vs, rfl, h2, h3, fun f => ?_, ?_, fun z => ?_, hs a h1⟩
    · obtain ⟨o, q⟩ := R.ext.ft a f
      rw [h1] at q
      cases q
    · by_cases z : G.D a = 0
      · exact z
      · obtain ⟨xs, q⟩ := R.ext.di.some z
        rw [h1] at q
        cases q
    · obtain ⟨vs, q, _⟩ := R.own_some z
      rw [h1] at q
      cases q
  | bor i => exact h.elim
  | deal k => exact h.elim
  | obj C fs => exact h.elim
  | scr ns => exact h.elim
theorem RT.back {tv : TV} {v : V} {Hs Ht : Hp} (r : RT K Hs G ρ σ H tv v) (hs : ∀ a, Hs a = none → Ht a = none) : RT K Ht G ρ σ H tv v := by
  cases tv with
  | fresh xs =>
    obtain ⟨a, vs, rfl, h1, h2, h3, h4, h5, h6⟩ := r
    exact ⟨a, vs, rfl, h1, h2, h3, h4, h5, hs a h6⟩
  | d x => exact r
  | bor i => exact r
  | deal k => exact r
  | obj C fs => exact r
  | scr ns => exact r
end

/-! ### a list that nobody will change any more -/
def Gh.frz (G : Gh) (a : Addr) : Gh := { G with F := fun b => G.F b ∨ b = a }
/-- a value to be kept: its data, the slots behind it -/
def frzS (ρ : SE) (i : Nat) : Option (PyData × SE) := match ρ[i]? with
  | some (some (SV.own xs)) => some (.list xs, ρ.set i (some (SV.d (.list xs))))
  | some (some (SV.d x)) => some (x, ρ)
  | _ => none
def frz (ρ : SE) : TV → Option (PyData × SE)
  | .d x => some (x, ρ)
  | .fresh xs => some (.list xs, ρ)
  | .bor i => frzS ρ i
  | _ => none
section
variable {K : PySem.W.Frag} {G0 G G' G'' Gs : Gh} {H0 H H' H'' Hs : Hp} {ρ ρ' ρ'' ρs : SE} {σ : St}
theorem keep_frz {a : Addr} : Keep K G.F H (G.frz a).F H := ⟨fun _ h => .inl h, fun _ _ _ h => h, fun _ _ h => h⟩
theorem Ext.frz (e : Ext G0 H0 G H) {a : Addr} {vs : List V} (h : H a = some (.lst vs)) (hd : G.D a = 0) (hn : H0 a = none) : Ext G0 H0 (G.frz a) H where
  di := e.di
  fd := fun b f => f.elim (e.fd b) fun z => by rw [z]; exact hd
  ft := fun b f => f.elim (e.ft b) fun z => by rw [z]; exact ⟨_, h⟩
  keep := e.keep
  fsub := fun b f => .inl (e.fsub b f)
  fnew := fun b f => f.elim (e.fnew b) fun z => by rw [z]; exact .inr hn
  dsub := e.dsub
  dnew := e.dnew
theorem RS.frz {sv : SV} {v : V} {a : Addr} (r : RS K G H sv v) (n : ∀ xs, sv = .own xs → v ≠ .ref a) : RS K (G.frz a) H sv v := by
  cases sv with
  | d x => exact Rp.keep keep_frz r
  | own xs =>
    obtain ⟨b, vs, rfl, h1, h2, h3, h4⟩ := r
    exact ⟨b, vs, rfl, h1, h2.keep keep_frz, fun f => f.elim h3 fun z => n xs rfl (by rw [z]), h4⟩
  | deal k => exact r
  | obj C fs =>
    obtain ⟨b, dx, vs, rfl, h1, h2⟩ := r
    exact ⟨b, dx, vs, rfl, h1, h2.keep keep_frz⟩
  | me b => exact r
  | exc b d fs => exact r
  | scr ns => exact r
/-- what freezing does: the ghosts, the slots -/
structure Frz (K : PySem.W.Frag) (G0 : Gh) (H0 Hs : Hp) (G : Gh) (ρ : SE) (σ : St) (H : Hp) (v : V) (x : PyData) (G' : Gh) (ρ' : SE) : Prop where
  rep : Rep K G0 H0 G' ρ' σ H
  is : Rp K G'.F H v x
  f : ∀ b, G'.F b → G.F b ∨ (v = .ref b ∧ (Own ρ σ b ∨ Hs b = none))
  fs : ∀ b, G.F b → G'.F b
  d : G'.D = G.D
  own : ∀ b, Own ρ' σ b → Own ρ σ b
  len : ρ'.length = ρ.length
theorem frz_ok {tv : TV} {v : V} {x : PyData} (R : Rep K G0 H0 G ρ σ H) (rs : ∀ a, Hs a = none → H0 a = none) (r : RT K Hs G ρ σ H tv v) (h : frz ρ tv = some (x, ρ')) : ∃ G', Frz K G0 H0 Hs G ρ σ H v x G' ρ' := by
  cases tv with
  | d y =>
    cases h
    exact ⟨G, R, r, fun b f => .inl f, fun b f => f, rfl, fun b o => o, rfl⟩
  | fresh xs =>
    cases h
    obtain ⟨a, vs, rfl, h1, h2, h3, h4, h5, h6⟩ := r
    refine ⟨G.frz a, ⟨R.ext.frz h1 h4 (rs a h6), R.len, fun i sv e => ?_, R.inj, R.new⟩, .lst (.inr rfl) h1 (h2.keep keep_frz), fun b f => f.elim .inl fun z => .inr ⟨by rw [z], .inr (by rw [z]; exact h6)⟩, fun b f => .inl f, rfl, fun b o => o, rfl⟩
    obtain ⟨v, e1, rr⟩ := R.slot i sv e
    refine ⟨v, e1, rr.frz fun ys es ev => h5 ?_⟩
    subst es
    subst ev
    exact ⟨i, ys, e, e1⟩
  | bor i =>
    have h : frzS ρ i = some (x, ρ') := h
    unfold frzS at h
    · split at h
      · rename_i xs e
        cases h
        obtain ⟨v', e1, a, vs, rfl, h1, h2, h3, h4⟩ := R.slot i _ e
        have r' : σ[i]? = some (some v) := r
        rw [r'] at e1
        cases e1
        have hi : i < ρ.length := (List.getElem?_eq_some_iff.mp e).1
        have ow : Own ρ σ a := ⟨i, xs, e, r'⟩
        have sub : ∀ b, Own (ρ.set i (some (SV.d (.list xs)))) σ b → Own ρ σ b := fun b ⟨j, ys, q1, q2⟩ => by
          by_cases hj : j = i
          · subst hj
            rw [List.getElem?_set_self hi] at q1
            cases q1
          · rw [List.getElem?_set_ne (Ne.symm hj)] at q1
            exact ⟨j, ys, q1, q2⟩
        refine ⟨G.frz a, ⟨R.ext.frz h1 h4 (R.new a ow), by rw [List.length_set]; exact R.len, fun j sv q => ?_, fun j k ys zs b q1 q2 q3 q4 => ?_, fun b o => R.new b (sub b o)⟩, .lst (.inr rfl) h1 (h2.keep keep_frz), fun b f => f.elim .inl fun z => .inr ⟨by rw [z], .inl (by rw [z]; exact ow)⟩, fun b f => .inl f, rfl, sub, by rw [List.length_set]⟩
        · by_cases hj : j = i
          · subst hj
            rw [List.getElem?_set_self hi] at q
            cases q
            exact ⟨_, r', .lst (.inr rfl) h1 (h2.keep keep_frz)⟩
          · rw [List.getElem?_set_ne (Ne.symm hj)] at q
            obtain ⟨v, e1, rr⟩ := R.slot j sv q
            refine ⟨v, e1, rr.frz fun ys es ev => hj ?_⟩
            subst es
            subst ev
            exact R.inj j i _ _ a q e e1 r'
        · have n1 : j ≠ i := fun z => by
            subst z
            rw [List.getElem?_set_self hi] at q1
            cases q1
          have n2 : k ≠ i := fun z => by
            subst z
            rw [List.getElem?_set_self hi] at q2
            cases q2
          rw [List.getElem?_set_ne (Ne.symm n1)] at q1
          rw [List.getElem?_set_ne (Ne.symm n2)] at q2
          exact R.inj j k _ _ b q1 q2 q3 q4
      · rename_i y e
        cases h
        obtain ⟨v', e1, rr⟩ := R.slot i _ e
        have r' : σ[i]? = some (some v) := r
        rw [r'] at e1
        cases e1
        exact ⟨G, R, rr, fun b f => .inl f, fun b f => f, rfl, fun b o => o, rfl⟩
      · cases h
  | deal k => cases h
  | obj C fs => cases h
  | scr ns => cases h
theorem Frz.evo {v : V} {x : PyData} (f : Frz K G0 H0 Hs G ρ σ H v x G' ρ') (E : Evo ρs σ Gs Hs ρ G H) : Evo ρs σ Gs Hs ρ' G' H where
  keep := E.keep
  there := E.there
  fsub := fun a h => f.fs a (E.fsub a h)
  fnew := fun a h' => by
    rcases f.f a h' with z | ⟨_, z | z⟩
    · exact E.fnew a z
    · exact .inr (.inl (E.own a z))
    · exact .inr (.inr z)
  dsub := fun a h => by rw [f.d]; exact E.dsub a h
  dnew := fun a h => by rw [f.d] at h; exact E.dnew a h
  own := fun a h => E.own a (f.own a h)
  len := f.len.trans E.len
theorem Frz.keep {v : V} {x : PyData} (f : Frz K G0 H0 Hs G ρ σ H v x G' ρ') : Keep K G.F H G'.F H := ⟨f.fs, fun _ _ _ h => h, fun _ _ h => h⟩
/-- another value stays, unless it is the very list -/
theorem RT.frz {tv : TV} {v u : V} {x : PyData} {Ht : Hp} (f : Frz K G0 H0 Hs G ρ σ H v x G' ρ') (r : RT K Ht G ρ σ H tv u) (n : ∀ xs, tv = .fresh xs → u ≠ v) : RT K Ht G' ρ' σ H tv u := by
  cases tv with
  | d y => exact Rp.keep f.keep r
  | fresh xs =>
    obtain ⟨a, vs, rfl, h1, h2, h3, h4, h5, h6⟩ := r
    refine ⟨a, vs, rfl, h1, h2.keep f.keep, fun z => ?_, by rw [f.d]; exact h4, fun z => h5 (f.own a z), h6⟩
    rcases f.f a z with q | ⟨q, _⟩
    · exact h3 q
    · exact n xs rfl q.symm
  | bor i => exact r
  | deal k =>
    obtain ⟨a, rfl, h, hk⟩ := r
    exact ⟨a, rfl, by rw [f.d]; exact h, hk⟩
  | obj C fs =>
    obtain ⟨a, dx, vs, rfl, h1, h2⟩ := r
    exact ⟨a, dx, vs, rfl, h1, h2.keep f.keep⟩
  | scr ns => exact r
end
end VL
set_option Elab.async false
set_option linter.all false
set_option maxRecDepth 100000
/-! VL2: expressions by weakest preconditions over plain values. -/
namespace VL
open PySem PySem.Spec PyProof.Rows L2

abbrev QE := TV → SE → Prop
abbrev QX := Xn → Prop
abbrev EW := SE → QE → QX → Prop
abbrev BW := SE → (Bool → SE → Prop) → QX → Prop
abbrev AW := SE → (List TV → SE → Prop) → QX → Prop

/-- an exception as it lies: its fields hold no lists -/
def XR (K : PySem.W.Frag) (H : Hp) (xn : Xn) (c : Value) (d : Option Addr) : Prop :=
  c = xn.c ∧ ∃ (dd : Addr) (vs : List (Str × V)), d = some dd ∧ H dd = some (.xd vs) ∧ RFs K (fun _ => False) H vs xn.fs
def XL (K : PySem.W.Frag) (G0 : Gh) (H0 : Hp) (Ev : QX) (xk : XK) : Prop := ∀ xn D' H' c d, Ext G0 H0 { F := G0.F, D := D' } H' → XR K H' xn c d → Ev xn → xk c d H'

def rdE (K : PySem.W.Frag) (xk : XK) (w : EW) : TE := fun σ H Q => ∃ G0 H0 G ρ Qv Ev, Rep K G0 H0 G ρ σ H ∧ XL K G0 H0 Ev xk ∧ w ρ Qv Ev ∧
  ∀ tv ρ' G' H' v, Rep K G0 H0 G' ρ' σ H' → Evo ρ σ G H ρ' G' H' → RT K H G' ρ' σ H' tv v → Qv tv ρ' → Q v H'
def rdB (K : PySem.W.Frag) (xk : XK) (w : BW) : TT := fun σ H Q => ∃ G0 H0 G ρ Qv Ev, Rep K G0 H0 G ρ σ H ∧ XL K G0 H0 Ev xk ∧ w ρ Qv Ev ∧
  ∀ b ρ' G' H', Rep K G0 H0 G' ρ' σ H' → Evo ρ σ G H ρ' G' H' → Qv b ρ' → Q b H'
/-- values, of which no two are one new list -/
inductive RTs (K : PySem.W.Frag) (Hs : Hp) (G : Gh) (ρ : SE) (σ : St) (H : Hp) : List TV → List V → Prop
  | nil : RTs K Hs G ρ σ H [] []
  | cons {tv : TV} {v : V} {tvs : List TV} {vs : List V} : RT K Hs G ρ σ H tv v → RTs K Hs G ρ σ H tvs vs → (∀ xs, tv = .fresh xs → ∀ (j : Nat) ys, tvs[j]? = some (.fresh ys) → vs[j]? ≠ some v) → RTs K Hs G ρ σ H (tv :: tvs) (v :: vs)
theorem RTs.get {K : PySem.W.Frag} {Hs : Hp} {G : Gh} {ρ : SE} {σ : St} {H : Hp} : ∀ {tvs : List TV} {vs : List V} {j : Nat} {tv : TV}, RTs K Hs G ρ σ H tvs vs → tvs[j]? = some tv → ∃ v, vs[j]? = some v ∧ RT K Hs G ρ σ H tv v
  | _, _, _, _, .nil, e => by simp at e
  | _, _, 0, _, .cons r _ _, e => by simp at e; subst e; exact ⟨_, rfl, r⟩
  | _, _, j + 1, _, .cons _ r _, e => by
    obtain ⟨v, h1, h2⟩ := RTs.get (j := j) r (by simpa using e)
    exact ⟨v, by simpa using h1, h2⟩
theorem RTs.back {K : PySem.W.Frag} {Hs Ht : Hp} {G : Gh} {ρ : SE} {σ : St} {H : Hp} (hs : ∀ a, Hs a = none → Ht a = none) : ∀ {tvs : List TV} {vs : List V}, RTs K Hs G ρ σ H tvs vs → RTs K Ht G ρ σ H tvs vs
  | _, _, .nil => .nil
  | _, _, .cons r t d => .cons (r.back hs) (RTs.back hs t) d
theorem RTs.length {K : PySem.W.Frag} {Hs : Hp} {G : Gh} {ρ : SE} {σ : St} {H : Hp} : ∀ {tvs : List TV} {vs : List V}, RTs K Hs G ρ σ H tvs vs → tvs.length = vs.length
  | _, _, .nil => rfl
  | _, _, .cons _ r _ => by simp [RTs.length r]
def rdA (K : PySem.W.Frag) (xk : XK) (w : AW) : TA := fun σ H Q => ∃ G0 H0 G ρ Qv Ev, Rep K G0 H0 G ρ σ H ∧ XL K G0 H0 Ev xk ∧ w ρ Qv Ev ∧
  ∀ tvs ρ' G' H' vs, Rep K G0 H0 G' ρ' σ H' → Evo ρ σ G H ρ' G' H' → RTs K H G' ρ' σ H' tvs vs → Qv tvs ρ' → Q vs H'

def VE (X : Cx) (xk : XK) (e : Expr) (w : EW) : Prop := PE X e (rdE X.K xk w)
def VT (X : Cx) (xk : XK) (e : Expr) (w : BW) : Prop := PT X e (rdB X.K xk w)
def VW (X : Cx) (xk : XK) (e : Expr) (w : BW) : Prop := PW X e (rdB X.K xk w)
def VA (X : Cx) (xk : XK) (es : List Expr) (w : AW) : Prop := PA X es (rdA X.K xk w)

theorem _root_.L2.PE.imp {X : Cx} {e : Expr} {t t' : TE} (h : PE X e t) (k : ∀ σ H Q, t' σ H Q → t σ H Q) : PE X e t' := ⟨fun pins s σ H Q I q => h.run pins s σ H Q I (k _ _ _ q)⟩
theorem _root_.L2.PT.imp {X : Cx} {e : Expr} {t t' : TT} (h : PT X e t) (k : ∀ σ H Q, t' σ H Q → t σ H Q) : PT X e t' := ⟨fun pins s σ H Q I q => h.run pins s σ H Q I (k _ _ _ q)⟩
theorem _root_.L2.PW.imp {X : Cx} {e : Expr} {t t' : TT} (h : PW X e t) (k : ∀ σ H Q, t' σ H Q → t σ H Q) : PW X e t' := ⟨fun wh pins s σ H Q I q => h.run wh pins s σ H Q I (k _ _ _ q)⟩
theorem _root_.L2.PA.imp {X : Cx} {e : List Expr} {t t' : TA} (h : PA X e t) (k : ∀ σ H Q, t' σ H Q → t σ H Q) : PA X e t' := ⟨fun pos pins s σ H Q I q => h.run pos pins s σ H Q I (k _ _ _ q)⟩
theorem opr_imp {X : Cx} {f : Value → Value → Sem Value} {r r' : R2} (h : OpR X f r) (k : ∀ x y H Q, r' x y H Q → r x y H Q) : OpR X f r' := fun pins s σ H x y v u Q I rx ry q => h pins s σ H x y v u Q I rx ry (k _ _ _ _ q)
theorem callr_imp {X : Cx} {f : Value} {r r' : List V → Hp → VK → Prop} (h : CallR X f r) (k : ∀ xs H Q, r' xs H Q → r xs H Q) : CallR X f r' := fun pins s σ H xs us Q I rx q => h pins s σ H xs us Q I rx (k _ _ _ q)

section
variable {K : PySem.W.Frag} {xk : XK} {σ : St} {H : Hp}
/-- behind an expression: the rest -/
theorem rdE.next {w : EW} {Q : VK} {G0 : Gh} {H0 : Hp} {G : Gh} {ρ : SE} {Ev : QX} {Qv : QE} (R : Rep K G0 H0 G ρ σ H) (x : XL K G0 H0 Ev xk) (h : w ρ Qv Ev)
    (q : ∀ tv ρ' G' H' v, Rep K G0 H0 G' ρ' σ H' → Evo ρ σ G H ρ' G' H' → RT K H G' ρ' σ H' tv v → Qv tv ρ' → Q v H') : rdE K xk w σ H Q := ⟨G0, H0, G, ρ, Qv, Ev, R, x, h, q⟩
end

section
variable {X : Cx} {xk : XK} {pos p : Pos} {e a b c : Expr} {es : List Expr} {we wa wb wc : EW} {wA : AW} {bA bB bC : BW}

/-! ### names, constants -/
def wVar (i : Nat) : EW := fun ρ Q _ => match ρ[i]? with
  | some (some (SV.d x)) => Q (.d x) ρ
  | some (some (SV.own _)) => Q (.bor i) ρ
  | some (some (SV.deal k)) => Q (.deal k) ρ
  | some (some (SV.obj C fs)) => Q (.obj C fs) ρ
  | some (some (SV.scr ns)) => Q (.scr ns) ρ
  | _ => False
theorem ve_var (i : Nat) {x : Str} (h : PE X (.Name x p) (tVar i)) : VE X xk (.Name x p) (wVar i) := h.imp fun σ H Q ⟨G0, H0, G, ρ, Qv, Ev, R, xl, hw, q⟩ => by
  unfold wVar at hw
  split at hw
  · rename_i x e
    obtain ⟨v, e1, r⟩ := R.slot i _ e
    exact ⟨v, e1, q (.d x) _ _ _ _ R .refl r hw⟩
  · rename_i x e
    obtain ⟨v, e1, r⟩ := R.slot i _ e
    exact ⟨v, e1, q (.bor i) _ _ _ _ R .refl e1 hw⟩
  · rename_i k e
    obtain ⟨v, e1, r⟩ := R.slot i _ e
    exact ⟨v, e1, q (.deal k) _ _ _ _ R .refl r hw⟩
  · rename_i C fs e
    obtain ⟨v, e1, r⟩ := R.slot i _ e
    exact ⟨v, e1, q (.obj C fs) _ _ _ _ R .refl r hw⟩
  · rename_i ns e
    obtain ⟨v, e1, r⟩ := R.slot i _ e
    exact ⟨v, e1, q (.scr ns) _ _ _ _ R .refl r hw⟩
  · exact hw.elim
def wC (x : PyData) : EW := fun ρ Q _ => Q (.d x) ρ
theorem ve_c {x : PyData} {v : V} (h : PE X e (tC v)) (r : ∀ F H, Rp X.K F H v x) : VE X xk e (wC x) := h.imp fun σ H Q ⟨G0, H0, G, ρ, Qv, Ev, R, xl, hw, q⟩ => q (.d x) _ _ _ _ R .refl (r _ _) hw
theorem ve_int {i j} : VE X xk (.Constant (.int i) j pos) (wC (.int i)) := ve_c pe_int fun _ _ => .int i
theorem ve_str {i j} : VE X xk (.Constant (.str i) j pos) (wC (.str i)) := ve_c pe_str fun _ _ => .str i
theorem ve_bl {i j} : VE X xk (.Constant (.bool i) j pos) (wC (.bool i)) := ve_c pe_bl fun _ _ => .bl i
theorem ve_non {j} : VE X xk (.Constant .none j pos) (wC .none) := ve_c pe_non fun _ _ => .non

/-! ### arguments -/
def wNil : AW := fun ρ Q _ => Q [] ρ
def wCons (we : EW) (wA : AW) : AW := fun ρ Q E => we ρ (fun tv ρ1 => wA ρ1 (fun tvs ρ2 => Q (tv :: tvs) ρ2) E) E
theorem va_nil : VA X xk [] wNil := pa_nil.imp fun σ H Q ⟨G0, H0, G, ρ, Qv, Ev, R, xl, hw, q⟩ => q [] _ _ _ _ R .refl .nil hw
theorem va_cons (h1 : VE X xk e we) (h2 : VA X xk es wA) (hs : starEach (e :: es) X.env = (false, eval e X.env) :: starEach es X.env := by rfl) : VA X xk (e :: es) (wCons we wA) :=
  (pa_cons h1 h2 hs).imp fun σ H Q ⟨G0, H0, G, ρ, Qv, Ev, R, xl, hw, q⟩ => ⟨G0, H0, G, ρ, _, Ev, R, xl, hw, fun tv ρ1 G1 H1 v R1 E1 rt q1 =>
    ⟨G0, H0, G1, ρ1, _, Ev, R1, xl, q1, fun tvs ρ2 G2 H2 vs R2 E2 rts q2 => q (tv :: tvs) ρ2 G2 H2 (v :: vs) R2 (E1.trans E2) (.cons (rt.evo E2 R1) (rts.back fun a h => E1.none h) (fun xs ex j ys ey eq => by
      subst ex
      obtain ⟨a, ws, rfl, h1, _⟩ := rt
      obtain ⟨u, eu, b, zs, rfl, _, _, _, _, _, h6⟩ := rts.get ey
      rw [eq] at eu
      cases eu
      rw [h1] at h6
      cases h6)) q2⟩⟩

/-! ### operations on two values -/
abbrev DOp := PyData → PyData → (TV → Prop) → Prop
def rOpV (K : PySem.W.Frag) (g : DOp) : R2 := fun x y H Q => ∃ F dx dy R, Rq K F H x dx ∧ Rq K F H y dy ∧ g dx dy R ∧ ∀ tv z H', R tv → Grow H H' → NR K F H H' tv z → Q z H'
def OpV (X : Cx) (f : Value → Value → Sem Value) (g : DOp) : Prop := OpR X f (rOpV X.K g)
def wOp (g : DOp) (wa wb : EW) : EW := fun ρ Q E => wa ρ (fun ta ρ1 => wb ρ1 (fun tb ρ2 => ∃ x y, res ρ2 ta = some x ∧ res ρ2 tb = some y ∧ g x y fun tv => Q tv ρ2) E) E
theorem op_core {K : PySem.W.Frag} {g : DOp} {r : R2} (hr : ∀ x y H Q, rOpV K g x y H Q → r x y H Q) {σ : St} {H : Hp} {Q : VK} (h : rdE K xk (wOp g wa wb) σ H Q) : tOp r (rdE K xk wa) (rdE K xk wb) σ H Q := by
  obtain ⟨G0, H0, G, ρ, Qv, Ev, R, xl, hw, q⟩ := h
  refine ⟨G0, H0, G, ρ, _, Ev, R, xl, hw, fun ta ρ1 G1 H1 v R1 E1 rt q1 => ⟨G0, H0, G1, ρ1, _, Ev, R1, xl, q1, fun tb ρ2 G2 H2 u R2 E2 ru q2 => ?_⟩⟩
  obtain ⟨x, y, ex, ey, hg⟩ := q2
  refine hr _ _ _ _ ⟨G2.F, x, y, _, (rt.evo E2 R1).rq R2 ex, ru.rq R2 ey, hg, fun tv z H' hR gr nr => ?_⟩
  exact q tv ρ2 G2 H' z (R2.grow gr) ((E1.trans E2).trans gr.evo) (nr.rt R2 fun a h => (E1.trans E2).none h) hR
theorem ve_op {op : Operator} {g : DOp} (ho : OpV X (binaryOp op) g) (ha : VE X xk a wa) (hb : VE X xk b wb) : VE X xk (.BinOp a op b pos) (wOp g wa wb) := (pe_op ho ha hb).imp fun _ _ _ h => op_core (fun _ _ _ _ q => q) h
theorem ve_cmp {op : CmpOp} {g : DOp} (ho : OpV X (compareOp op) g) (ha : VE X xk a wa) (hb : VE X xk b wb) (hm : behindInMarks op b = false) : VE X xk (.Compare a [op] [b] pos) (wOp g wa wb) := (pe_cmpR ho ha hb hm).imp fun _ _ _ h => op_core (fun _ _ _ _ q => q) h
/-- a value that must be a bool, as a test -/
def wTst (w : EW) : BW := fun ρ Q E => w ρ (fun tv ρ1 => ∃ k, tv = .d (.bool k) ∧ Q k ρ1) E
theorem tst_core {K : PySem.W.Frag} {t : TE} {w : EW} (ht : ∀ σ H Q, rdE K xk w σ H Q → t σ H Q) {σ : St} {H : Hp} {Q : Bool → Hp → Prop} (h : rdB K xk (wTst w) σ H Q) : tTest t σ H Q := by
  obtain ⟨G0, H0, G, ρ, Qv, Ev, R, xl, hw, q⟩ := h
  refine ht _ _ _ ⟨G0, H0, G, ρ, _, Ev, R, xl, hw, fun tv ρ1 G1 H1 v R1 E1 rt q1 => ?_⟩
  obtain ⟨k, rfl, q1⟩ := q1
  have rt' : Rp K G1.F H1 v (.bool k) := rt
  cases rt'
  exact ⟨k, rfl, q k _ _ _ R1 E1 q1⟩
theorem vt_cmp {op : CmpOp} {g : DOp} (ho : OpV X (compareOp op) g) (ha : VE X xk a wa) (hb : VE X xk b wb) (hm : behindInMarks op b = false) : VT X xk (.Compare a [op] [b] pos) (wTst (wOp g wa wb)) :=
  (pt_cmpR ho ha hb hm).imp fun _ _ _ h => tst_core (fun _ _ _ q => op_core (fun _ _ _ _ q => q) q) h
/-- a chain a < b < c -/
def wChain (g g' : DOp) (wa wb wc : EW) : EW := fun ρ Q E => wa ρ (fun ta ρ1 => wb ρ1 (fun tb ρ2 => ∃ x y, res ρ2 ta = some x ∧ res ρ2 tb = some y ∧ g x y fun tv => ∃ k, tv = .d (.bool k) ∧
  if k = true then wc ρ2 (fun tc ρ3 => ∃ y' z, res ρ3 tb = some y' ∧ res ρ3 tc = some z ∧ g' y' z fun tv => Q tv ρ3) E else Q (.d (.bool false)) ρ2) E) E
theorem chain_core {K : PySem.W.Frag} {g g' : DOp} {σ : St} {H : Hp} {Q : VK} (h : rdE K xk (wChain g g' wa wb wc) σ H Q) : tChain (rOpV K g) (rOpV K g') (rdE K xk wa) (rdE K xk wb) (rdE K xk wc) σ H Q := by
  obtain ⟨G0, H0, G, ρ, Qv, Ev, R, xl, hw, q⟩ := h
  refine ⟨G0, H0, G, ρ, _, Ev, R, xl, hw, fun ta ρ1 G1 H1 v R1 E1 rt q1 => ⟨G0, H0, G1, ρ1, _, Ev, R1, xl, q1, fun tb ρ2 G2 H2 u R2 E2 ru q2 => ?_⟩⟩
  obtain ⟨x, y, ex, ey, hg⟩ := q2
  refine ⟨G2.F, x, y, _, (rt.evo E2 R1).rq R2 ex, ru.rq R2 ey, hg, fun tv z H' hR gr nr => ?_⟩
  obtain ⟨k, rfl, hk⟩ := hR
  have nr' : Rp K G2.F H' z (.bool k) := nr
  cases nr'
  refine ⟨k, rfl, ?_⟩
  have R3 := R2.grow gr
  cases k with
  | false => exact q (.d (.bool false)) ρ2 G2 H' _ R3 ((E1.trans E2).trans gr.evo) (show Rp K G2.F H' _ _ from .bl false) hk
  | true =>
    refine ⟨G0, H0, G2, ρ2, _, Ev, R3, xl, hk, fun tc ρ4 G4 H4 w R4 E4 rw' q4 => ?_⟩
    obtain ⟨y', z', ey', ez', hg'⟩ := q4
    refine ⟨G4.F, y', z', _, ((ru.evo gr.evo R2).evo E4 R3).rq R4 ey', rw'.rq R4 ez', hg', fun tv z2 H5 hR5 gr5 nr5 => ?_⟩
    exact q tv ρ4 G4 H5 z2 (R4.grow gr5) ((((E1.trans E2).trans gr.evo).trans E4).trans gr5.evo) (nr5.rt R4 fun a h => (((E1.trans E2).trans gr.evo).trans E4).none h) hR5
end
end VL
set_option Elab.async false
set_option linter.all false
set_option maxRecDepth 100000
/-! VL3: displays, tests, calls of built-ins and of defs, methods, subscripts, slices. -/
namespace VL
open PySem PySem.Spec PyProof.Rows L2

/-! ### several values to be kept -/
def frzAll : SE → List TV → Option (List PyData × SE)
  | ρ, [] => some ([], ρ)
  | ρ, tv :: r => match frz ρ tv with
    | some (x, ρ1) => match frzAll ρ1 r with
      | some (xs, ρ2) => some (x :: xs, ρ2)
      | none => none
    | none => none
section
variable {K : PySem.W.Frag} {G0 G G' G'' Gs : Gh} {H0 H H' H'' Hs : Hp} {ρ ρ' ρ'' ρs : SE} {σ : St}
theorem Frz.triv {v : V} {x : PyData} (R : Rep K G0 H0 G ρ σ H) (r : Rp K G.F H v x) : Frz K G0 H0 Hs G ρ σ H v x G ρ := ⟨R, r, fun _ f => .inl f, fun _ f => f, rfl, fun _ o => o, rfl⟩
theorem RTs.frz {v : V} {x : PyData} {Ht : Hp} (f : Frz K G0 H0 Hs G ρ σ H v x G' ρ') : ∀ {tvs : List TV} {vs : List V}, RTs K Ht G ρ σ H tvs vs → (∀ (j : Nat) ys, tvs[j]? = some (.fresh ys) → vs[j]? ≠ some v) → RTs K Ht G' ρ' σ H tvs vs
  | _, _, .nil, _ => .nil
  | _, _, .cons r t d, n => .cons (r.frz f fun xs e q => n 0 xs (by simpa using e) (by simp [q])) (RTs.frz f t fun j ys e => by
      have := n (j + 1) ys (by simpa using e)
      simpa using this) d
theorem frzAll_ok : ∀ {tvs : List TV} {vs : List V} {G : Gh} {ρ ρ' : SE} {xs : List PyData}, Rep K G0 H0 G ρ σ H → (∀ a, Hs a = none → H0 a = none) → Evo ρs σ Gs Hs ρ G H → RTs K Hs G ρ σ H tvs vs → frzAll ρ tvs = some (xs, ρ') →
    ∃ G', Rep K G0 H0 G' ρ' σ H ∧ Evo ρs σ Gs Hs ρ' G' H ∧ RpAll K G'.F H vs xs ∧ Keep K G.F H G'.F H
  | _, _, G, ρ, _, _, R, rs, E, .nil, h => by
    cases h
    exact ⟨G, R, E, .nil, .refl⟩
  | _, _, G, ρ, ρ', xs, R, rs, E, .cons (tv := tv) (tvs := tvs) (v := v) (vs := vs) r t d, h => by
    unfold frzAll at h
    split at h
    · rename_i x ρ1 e1
      split at h
      · rename_i ys ρ2 e2
        cases h
        have hh : ∃ G1, Frz K G0 H0 Hs G ρ σ H v x G1 ρ1 ∧ RTs K Hs G1 ρ1 σ H tvs vs := by
          cases tv with
          | d y =>
            cases e1
            exact ⟨G, Frz.triv R r, t⟩
          | fresh zs =>
            obtain ⟨G1, f⟩ := frz_ok R rs r e1
            exact ⟨G1, f, t.frz f (d zs rfl)⟩
          | bor i =>
            have e1' : frzS ρ i = some (x, ρ1) := e1
            have r' : σ[i]? = some (some v) := r
            unfold frzS at e1'
            split at e1'
            · rename_i xs' ee
              obtain ⟨G1, f⟩ := frz_ok R rs r e1
              refine ⟨G1, f, t.frz f fun j ws ew q => ?_⟩
              obtain ⟨u, eu, b, zs, rfl, h1, _, h3, h4, h5, h6⟩ := t.get ew
              rw [q] at eu
              cases eu
              exact h5 ⟨i, xs', ee, r'⟩
            · rename_i y ee
              cases e1'
              obtain ⟨v', e3, rr⟩ := R.slot i _ ee
              rw [r'] at e3
              cases e3
              exact ⟨G, Frz.triv R rr, t⟩
            · cases e1'
          | deal k => cases e1
          | obj C fs => cases e1
          | scr ns => cases e1
        obtain ⟨G1, f, t1⟩ := hh
        obtain ⟨G2, R2, E2, p2, k2⟩ := frzAll_ok f.rep rs (f.evo E) t1 e2
        exact ⟨G2, R2, E2, .cons (f.is.keep k2) p2, f.keep.trans k2⟩
      · cases h
    · cases h
end

section
variable {X : Cx} {xk : XK} {pos p : Pos} {e o a b c : Expr} {es : List Expr} {we wa wb wc : EW} {wA : AW} {bA bB bC : BW}
/-! ### displays -/
def wTup (wA : AW) : EW := fun ρ Q E => wA ρ (fun tvs ρ1 => ∃ xs ρ2, frzAll ρ1 tvs = some (xs, ρ2) ∧ xs.length ≤ sizeLine ∧ Q (.d (.tuple xs)) ρ2) E
def wLst (wA : AW) : EW := fun ρ Q E => wA ρ (fun tvs ρ1 => ∃ xs ρ2, frzAll ρ1 tvs = some (xs, ρ2) ∧ xs.length ≤ sizeLine ∧ Q (.fresh xs) ρ2) E
theorem ve_tup {x1} (h : VA X xk es wA) : VE X xk (.Tuple es x1 pos) (wTup wA) := (pe_tup h).imp fun σ H Q ⟨G0, H0, G, ρ, Qv, Ev, R, xl, hw, q⟩ => ⟨G0, H0, G, ρ, _, Ev, R, xl, hw, fun tvs ρ1 G1 H1 vs R1 E1 rts q1 => by
  obtain ⟨xs, ρ2, e2, hz, q2⟩ := q1
  obtain ⟨G2, R2, E2, p2, k2⟩ := frzAll_ok R1 (fun a h => R.ext.none0 h) E1 rts e2
  refine ⟨by rw [p2.length]; exact hz, fun p hp => ?_⟩
  have gr : Grow H1 (upd H1 p (.tup vs)) := .upd hp
  exact q (.d (.tuple xs)) ρ2 G2 _ _ (R2.grow gr) (E2.trans gr.evo) (show Rp _ _ _ _ _ from .tup (.inl (.inl upd_same)) (p2.keep gr.keep)) q2⟩
theorem ve_lst (h : VA X xk es wA) : VE X xk (.List es pos) (wLst wA) := (pe_lst h).imp fun σ H Q ⟨G0, H0, G, ρ, Qv, Ev, R, xl, hw, q⟩ => ⟨G0, H0, G, ρ, _, Ev, R, xl, hw, fun tvs ρ1 G1 H1 vs R1 E1 rts q1 => by
  obtain ⟨xs, ρ2, e2, hz, q2⟩ := q1
  obtain ⟨G2, R2, E2, p2, k2⟩ := frzAll_ok R1 (fun a h => R.ext.none0 h) E1 rts e2
  refine ⟨by rw [p2.length]; exact hz, fun p hp => ?_⟩
  have gr : Grow H1 (upd H1 p (.lst vs)) := .upd hp
  have nr : NR X.K G2.F H1 (upd H1 p (.lst vs)) (.fresh xs) (.ref p) := ⟨p, vs, rfl, hp, upd_same, p2.keep gr.keep⟩
  exact q (.fresh xs) ρ2 G2 _ _ (R2.grow gr) (E2.trans gr.evo) (nr.rt R2 fun a h => E2.none h) q2⟩

/-! ### tests -/
def truD : PyData → Option Bool
  | .none => some false
  | .bool b => some b
  | .int i => some (i != 0)
  | .str y => if y.length ≤ sizeLine then some ((y.length : Int) != 0) else none
  | .list xs => some (!xs.isEmpty)
  | .tuple xs => some (!xs.isEmpty)
  | .dict _ => none
theorem isE {F : Addr → Prop} {K : PySem.W.Frag} {H : Hp} {vs : List V} {xs : List PyData} (h : RpAll K F H vs xs) : vs.isEmpty = xs.isEmpty := by
  cases h <;> rfl
theorem truD_ok {K : PySem.W.Frag} {F : Addr → Prop} {H : Hp} {v : V} {x : PyData} {k : Bool} (r : Rq K F H v x) (h : truD x = some k) : TruV K v H k := by
  cases x with
  | none => cases r.none; cases h; rfl
  | bool b => cases r.bool; cases h; rfl
  | int i => cases r.int; cases h; rfl
  | str y =>
    cases r.str
    have h : (if y.length ≤ sizeLine then some ((y.length : Int) != 0) else none) = some k := h
    by_cases hy : y.length ≤ sizeLine
    · rw [if_pos hy] at h
      cases h
      exact ⟨hy, rfl⟩
    · rw [if_neg hy] at h
      cases h
  | list xs =>
    obtain ⟨a, vs, rfl, h1, h2⟩ := r
    cases h
    exact .inl ⟨vs, .inl (.inl h1), by rw [isE h2]⟩
  | tuple xs =>
    obtain ⟨a, vs, rfl, h1, h2⟩ := r.tup
    cases h
    exact .inr (.inl ⟨vs, h1, by rw [isE h2]⟩)
  | dict kvs => cases h
def wTru (w : EW) : BW := fun ρ Q E => w ρ (fun tv ρ1 => ∃ x k, res ρ1 tv = some x ∧ truD x = some k ∧ Q k ρ1) E
theorem vt_tru (ha : VE X xk a wa) (he : ∀ whole, isTrue a X.env whole = (do let v ← whole; standAt a.pos; holding [v] (truthy v)) := by intro _; rfl) : VT X xk a (wTru wa) :=
  (pt_truth ha he).imp fun σ H Q ⟨G0, H0, G, ρ, Qv, Ev, R, xl, hw, q⟩ => ⟨G0, H0, G, ρ, _, Ev, R, xl, hw, fun tv ρ1 G1 H1 v R1 E1 rt ⟨x, k, ex, ek, q1⟩ =>
    ⟨k, truD_ok (rt.rq R1 ex) ek, q k _ _ _ R1 E1 q1⟩⟩
def wAnd (bA bB : BW) : BW := fun ρ Q E => bA ρ (fun c ρ1 => if c = true then bB ρ1 Q E else Q false ρ1) E
def wOr (bA bB : BW) : BW := fun ρ Q E => bA ρ (fun c ρ1 => if c = true then Q true ρ1 else bB ρ1 Q E) E
def wNot (bA : BW) : BW := fun ρ Q E => bA ρ (fun c ρ1 => Q (!c) ρ1) E
variable {rest : List Expr}
theorem vw_and1 (ha : VT X xk a bA) : VW X xk (.BoolOp .And [a] pos) bA := pw_and1 ha
theorem vw_or1 (ha : VT X xk a bA) : VW X xk (.BoolOp .Or [a] pos) bA := pw_or1 ha
theorem vw_and (ha : VT X xk a bA) (hb : VW X xk (.BoolOp .And (b :: rest) pos) bB) : VW X xk (.BoolOp .And (a :: b :: rest) pos) (wAnd bA bB) :=
  (pw_and ha hb).imp fun σ H Q ⟨G0, H0, G, ρ, Qv, Ev, R, xl, hw, q⟩ => ⟨G0, H0, G, ρ, _, Ev, R, xl, hw, fun c ρ1 G1 H1 R1 E1 q1 => by
    cases c with
    | true => exact ⟨G0, H0, G1, ρ1, _, Ev, R1, xl, q1, fun d ρ2 G2 H2 R2 E2 q2 => q d ρ2 G2 H2 R2 (E1.trans E2) q2⟩
    | false => exact q false ρ1 G1 H1 R1 E1 q1⟩
theorem vw_or (ha : VT X xk a bA) (hb : VW X xk (.BoolOp .Or (b :: rest) pos) bB) : VW X xk (.BoolOp .Or (a :: b :: rest) pos) (wOr bA bB) :=
  (pw_or ha hb).imp fun σ H Q ⟨G0, H0, G, ρ, Qv, Ev, R, xl, hw, q⟩ => ⟨G0, H0, G, ρ, _, Ev, R, xl, hw, fun c ρ1 G1 H1 R1 E1 q1 => by
    cases c with
    | false => exact ⟨G0, H0, G1, ρ1, _, Ev, R1, xl, q1, fun d ρ2 G2 H2 R2 E2 q2 => q d ρ2 G2 H2 R2 (E1.trans E2) q2⟩
    | true => exact q true ρ1 G1 H1 R1 E1 q1⟩
theorem vt_w (h : VW X xk e bA) : VT X xk e bA := PW.pt h
theorem vt_not (ha : VT X xk a bA) : VT X xk (.UnaryOp .Not a pos) (wNot bA) :=
  (pt_not ha).imp fun σ H Q ⟨G0, H0, G, ρ, Qv, Ev, R, xl, hw, q⟩ => ⟨G0, H0, G, ρ, _, Ev, R, xl, hw, fun c ρ1 G1 H1 R1 E1 q1 => q (!c) ρ1 G1 H1 R1 E1 q1⟩
/-! .. as values: bools -/
def wBl (w : EW) (f : Bool → SE → QE → QX → Prop) : EW := fun ρ Q E => w ρ (fun tv ρ1 => ∃ k, tv = .d (.bool k) ∧ f k ρ1 Q E) E
def wAndV (wa wb : EW) : EW := wBl wa fun c ρ1 Q E => if c = true then wb ρ1 Q E else Q (.d (.bool false)) ρ1
def wOrV (wa wb : EW) : EW := wBl wa fun c ρ1 Q E => if c = true then Q (.d (.bool true)) ρ1 else wb ρ1 Q E
def wNotV (wa : EW) : EW := wBl wa fun c ρ1 Q E => Q (.d (.bool (!c))) ρ1
theorem ve_one {op} (h : VE X xk a wa) : VE X xk (.BoolOp op [a] pos) wa := pe_one h
theorem ve_and (ha : VE X xk a wa) (hb : VE X xk (.BoolOp .And (b :: rest) pos) wb) : VE X xk (.BoolOp .And (a :: b :: rest) pos) (wAndV wa wb) :=
  (pe_and ha hb).imp fun σ H Q ⟨G0, H0, G, ρ, Qv, Ev, R, xl, hw, q⟩ => ⟨G0, H0, G, ρ, _, Ev, R, xl, hw, fun tv ρ1 G1 H1 v R1 E1 rt q1 => by
    obtain ⟨c, rfl, q1⟩ := q1
    have rt' : Rp X.K G1.F H1 v (.bool c) := rt
    cases rt'
    refine ⟨c, rfl, ?_⟩
    cases c with
    | true => exact ⟨G0, H0, G1, ρ1, _, Ev, R1, xl, q1, fun tv ρ2 G2 H2 u R2 E2 ru q2 => q tv ρ2 G2 H2 u R2 (E1.trans E2) (ru.back fun a h => E1.none h) q2⟩
    | false => exact q (.d (.bool false)) ρ1 G1 H1 _ R1 E1 (show Rp _ _ _ _ _ from .bl false) q1⟩
theorem ve_or (ha : VE X xk a wa) (hb : VE X xk (.BoolOp .Or (b :: rest) pos) wb) : VE X xk (.BoolOp .Or (a :: b :: rest) pos) (wOrV wa wb) :=
  (pe_or ha hb).imp fun σ H Q ⟨G0, H0, G, ρ, Qv, Ev, R, xl, hw, q⟩ => ⟨G0, H0, G, ρ, _, Ev, R, xl, hw, fun tv ρ1 G1 H1 v R1 E1 rt q1 => by
    obtain ⟨c, rfl, q1⟩ := q1
    have rt' : Rp X.K G1.F H1 v (.bool c) := rt
    cases rt'
    refine ⟨c, rfl, ?_⟩
    cases c with
    | false => exact ⟨G0, H0, G1, ρ1, _, Ev, R1, xl, q1, fun tv ρ2 G2 H2 u R2 E2 ru q2 => q tv ρ2 G2 H2 u R2 (E1.trans E2) (ru.back fun a h => E1.none h) q2⟩
    | true => exact q (.d (.bool true)) ρ1 G1 H1 _ R1 E1 (show Rp _ _ _ _ _ from .bl true) q1⟩
theorem ve_not (ha : VE X xk a wa) : VE X xk (.UnaryOp .Not a pos) (wNotV wa) :=
  (pe_not ha).imp fun σ H Q ⟨G0, H0, G, ρ, Qv, Ev, R, xl, hw, q⟩ => ⟨G0, H0, G, ρ, _, Ev, R, xl, hw, fun tv ρ1 G1 H1 v R1 E1 rt q1 => by
    obtain ⟨c, rfl, q1⟩ := q1
    have rt' : Rp X.K G1.F H1 v (.bool c) := rt
    cases rt'
    exact ⟨c, rfl, q (.d (.bool (!c))) ρ1 G1 H1 _ R1 E1 (show Rp _ _ _ _ _ from .bl _) q1⟩⟩
def wIf (bA : BW) (wa wb : EW) : EW := fun ρ Q E => bA ρ (fun c ρ1 => if c = true then wa ρ1 Q E else wb ρ1 Q E) E
theorem ve_if (hc : VT X xk c bA) (ha : VE X xk a wa) (hb : VE X xk b wb) : VE X xk (.IfExp c a b pos) (wIf bA wa wb) :=
  (pe_ifExp hc ha hb).imp fun σ H Q ⟨G0, H0, G, ρ, Qv, Ev, R, xl, hw, q⟩ => ⟨G0, H0, G, ρ, _, Ev, R, xl, hw, fun c ρ1 G1 H1 R1 E1 q1 => by
    cases c with
    | true => exact ⟨G0, H0, G1, ρ1, _, Ev, R1, xl, q1, fun tv ρ2 G2 H2 u R2 E2 ru q2 => q tv ρ2 G2 H2 u R2 (E1.trans E2) (ru.back fun a h => E1.none h) q2⟩
    | false => exact ⟨G0, H0, G1, ρ1, _, Ev, R1, xl, q1, fun tv ρ2 G2 H2 u R2 E2 ru q2 => q tv ρ2 G2 H2 u R2 (E1.trans E2) (ru.back fun a h => E1.none h) q2⟩⟩

/-! ### built-ins by values: the arguments are read as data -/
def resAll (ρ : SE) : List TV → Option (List PyData)
  | [] => some []
  | tv :: r => match res ρ tv, resAll ρ r with
    | some x, some xs => some (x :: xs)
    | _, _ => none
abbrev DCall := List PyData → (TV → Prop) → Prop
inductive RqAll (K : PySem.W.Frag) (F : Addr → Prop) (H : Hp) : List V → List PyData → Prop
  | nil : RqAll K F H [] []
  | cons {v : V} {x : PyData} {vs : List V} {xs : List PyData} : Rq K F H v x → RqAll K F H vs xs → RqAll K F H (v :: vs) (x :: xs)
theorem resAll_ok {K : PySem.W.Frag} {G0 G : Gh} {H0 H Hs : Hp} {ρ : SE} {σ : St} (R : Rep K G0 H0 G ρ σ H) : ∀ {tvs : List TV} {vs : List V} {xs : List PyData}, RTs K Hs G ρ σ H tvs vs → resAll ρ tvs = some xs → RqAll K G.F H vs xs
  | _, _, _, .nil, h => by cases h; exact .nil
  | _, _, _, .cons r t _, h => by
    unfold resAll at h
    split at h
    · rename_i x xs e1 e2
      cases h
      exact .cons (r.rq R e1) (resAll_ok R t e2)
    · cases h
def rCallV (K : PySem.W.Frag) (g : DCall) : List V → Hp → VK → Prop := fun vs H Q => ∃ F xs R, RqAll K F H vs xs ∧ g xs R ∧ ∀ tv z H', R tv → Grow H H' → NR K F H H' tv z → Q z H'
def CallV (X : Cx) (f : Value) (g : DCall) : Prop := CallR X f (rCallV X.K g)
def wCB (g : DCall) (wA : AW) : EW := fun ρ Q E => wA ρ (fun tvs ρ1 => ∃ xs, resAll ρ1 tvs = some xs ∧ g xs fun tv => Q tv ρ1) E
theorem cb_core {K : PySem.W.Frag} {g : DCall} {σ : St} {H : Hp} {Q : VK} (h : rdE K xk (wCB g wA) σ H Q) : tCB (rCallV K g) (rdA K xk wA) σ H Q := by
  obtain ⟨G0, H0, G, ρ, Qv, Ev, R, xl, hw, q⟩ := h
  refine ⟨G0, H0, G, ρ, _, Ev, R, xl, hw, fun tvs ρ1 G1 H1 vs R1 E1 rts q1 => ?_⟩
  obtain ⟨xs, ex, hg⟩ := q1
  exact ⟨G1.F, xs, _, resAll_ok R1 rts ex, hg, fun tv z H' hR gr nr => q tv ρ1 G1 H' z (R1.grow gr) (E1.trans gr.evo) (nr.rt R1 fun a h => E1.none h) hR⟩
theorem ve_callB {x : Str} {id : String} {g : DCall} (hc : CallV X (.builtin id) g) (hg : Gl X x) (hm : X.mg x = none) (hv : bootBuiltins x = some (.builtin id)) (ha : VA X xk (e :: es) wA) (hn : x ≠ "__name__" := by decide) (hdb : (x == ("__debug__" : Str)) = false := by decide)
    (he : starEach (e :: es) X.env = (false, eval e X.env) :: starEach es X.env := by rfl) (hpl : (backTo pos (starEach es X.env)).any (·.1) = false := by rfl) : VE X xk (.Call (.Name x p) (e :: es) [] pos) (wCB g wA) :=
  (pe_callB hc hg hm hv ha hn hdb he hpl).imp fun _ _ _ h => cb_core h
theorem ve_callTy {x : Str} {T : String} {g : DCall} (hc : CallV X (.type T) g) (hg : Gl X x) (hm : X.mg x = none) (hv : bootBuiltins x = some (.type T)) (ha : VA X xk (e :: es) wA) (hn : x ≠ "__name__" := by decide) (hdb : (x == ("__debug__" : Str)) = false := by decide)
    (he : starEach (e :: es) X.env = (false, eval e X.env) :: starEach es X.env := by rfl) (hpl : (backTo pos (starEach es X.env)).any (·.1) = false := by rfl) : VE X xk (.Call (.Name x p) (e :: es) [] pos) (wCB g wA) :=
  (pe_callTy hc hg hm hv ha hn hdb he hpl).imp fun _ _ _ h => cb_core h
end
end VL
set_option Elab.async false
set_option linter.all false
set_option maxRecDepth 100000
/-! VL4: defs and their promises, calls, statements, lists changed in place. -/
namespace VL
open PySem PySem.Spec PyProof.Rows L2

section
variable {K : PySem.W.Frag} {G0 G G' G'' G1 Gs : Gh} {H0 H H' H'' Hs : Hp} {ρ ρ' ρ'' ρs : SE} {σ : St}
theorem Ext.refl (di : DI G.D H) (fd : ∀ a, G.F a → G.D a = 0) (ft : ∀ a, G.F a → ∃ o, H a = some o) : Ext G H G H :=
  ⟨di, fd, ft, fun _ _ h _ => h, fun _ h => h, fun _ h => .inl h, fun _ _ => rfl, fun _ h => .inl h⟩
theorem Ext.self (e : Ext G0 H0 G H) : Ext G H G H := .refl e.di e.fd e.ft
theorem Ext.trans (a : Ext G0 H0 G H) (b : Ext G H G' H') : Ext G0 H0 G' H' where
  di := b.di
  fd := b.fd
  ft := b.ft
  keep := fun x o h1 h2 => b.keep x o (a.keep x o h1 h2) (by
    by_cases z : G.D x = 0
    · exact z
    · rcases a.dnew x z with q | q
      · exact absurd h2 q
      · rw [h1] at q; cases q)
  fsub := fun x h => b.fsub x (a.fsub x h)
  fnew := fun x h => by
    rcases b.fnew x h with z | z
    · exact a.fnew x z
    · exact .inr (a.none0 z)
  dsub := fun x h => by
    have e := a.dsub x h
    rw [b.dsub x (by rw [e]; exact h), e]
  dnew := fun x h => by
    rcases b.dnew x h with z | z
    · exact a.dnew x z
    · exact .inr (a.none0 z)
theorem Ext.there (e : Ext G H G' H') (di : DI G.D H) {a : Addr} {o : HO} (h : H a = some o) : ∃ o', H' a = some o' := by
  clear di
  by_cases z : G.D a = 0
  · exact ⟨o, e.keep a o h z⟩
  · obtain ⟨xs, q⟩ := e.di.some (a := a) (by rw [e.dsub a z]; exact z)
    exact ⟨_, q⟩
theorem DI.notup {D : Addr → Nat} (di : DI D H) {a : Addr} {o : HO} (h : H a = Option.some o) (n : ∀ vs, o ≠ .lst vs) : D a = 0 := by
  by_cases z : D a = 0
  · exact z
  · obtain ⟨xs, q⟩ := di.some z
    rw [h] at q
    cases q
    exact absurd rfl (n _)
theorem Ext.keeps (e : Ext G H G' H') (s : Ext G H G H) : Keep K G.F H G'.F H' where
  f := e.fsub
  l := fun a xs f h => by
    exact e.keep _ _ h (s.fd a f)
  t := fun a xs h => by
    rcases h with (h | ⟨o, h⟩) | h
    · exact .inl (.inl (e.keep _ _ h (s.di.notup h fun _ z => nomatch z)))
    · exact .inl (.inr ⟨o, e.keep _ _ h (s.di.notup h fun _ z => nomatch z)⟩)
    · exact .inr h
/-- behind a call -/
theorem Rep.call (R : Rep K G0 H0 G ρ σ H) (e : Ext G H G' H') : Rep K G0 H0 G' ρ σ H' ∧ Evo ρ σ G H ρ G' H' := by
  have k := e.keeps (K := K) R.ext.self
  have d0 : ∀ a, H a ≠ none → G.D a = 0 → G'.D a = 0 := fun a h1 h2 => by
    by_cases z : G'.D a = 0
    · exact z
    · rcases e.dnew a z with q | q
      · exact absurd h2 q
      · exact absurd q h1
  refine ⟨⟨R.ext.trans e, R.len, fun i sv h => ?_, R.inj, R.new⟩, ⟨fun a o h _ hd => e.keep a o h hd, fun a o h => Ext.there e R.ext.di h, e.fsub, fun a f => ?_, e.dsub, fun a h => ?_, fun _ h => h, rfl⟩⟩
  · obtain ⟨v, e1, r⟩ := R.slot i sv h
    refine ⟨v, e1, ?_⟩
    cases sv with
    | d x => exact Rp.keep k r
    | own xs =>
      obtain ⟨a, vs, rfl, h1, h2, h3, h4⟩ := r
      refine ⟨a, vs, rfl, e.keep a _ h1 h4, h2.keep k, fun z => ?_, d0 a (by rw [h1]; exact fun z => nomatch z) h4⟩
      rcases e.fnew a z with q | q
      · exact h3 q
      · rw [h1] at q; cases q
    | deal k =>
      obtain ⟨a, rfl, h1, hk⟩ := r
      exact ⟨a, rfl, by rw [e.dsub a (by omega), h1], hk⟩
    | obj C fs =>
      obtain ⟨a, dx, vs, rfl, h1, h2⟩ := r
      exact ⟨a, dx, vs, rfl, e.keep a _ h1 (R.ext.di.notup h1 fun _ z => nomatch z), h2.keep k⟩
    | me b => exact r
    | exc a d fs =>
      obtain ⟨ev, vs, h1, h2⟩ := r
      exact ⟨ev, vs, e.keep d _ h1 (R.ext.di.notup h1 fun _ z => nomatch z), h2.keep k.low⟩
    | scr ns =>
      obtain ⟨a, ea, h⟩ := r
      exact ⟨a, ea, h.mono fun o xs h1 => e.keep a _ h1 (R.ext.di.notup h1 fun _ z => nomatch z)⟩
  · rcases e.fnew a f with q | q
    · exact .inl q
    · exact .inr (.inr q)
  · exact e.dnew a h
theorem Ext.low {D' : Addr → Nat} {F' : Addr → Prop} (e : Ext G0 H0 { F := F', D := D' } H) : Ext G0 H0 { F := G0.F, D := D' } H :=
  ⟨e.di, fun a f => e.fd a (e.fsub a f), fun a f => e.ft a (e.fsub a f), e.keep, fun _ f => f, fun _ f => .inl f, e.dsub, e.dnew⟩
/-- a callee that saw more frozen lists than we keep -/
theorem Ext.borrow (e : Ext G1 H G' H') (s : Ext G H G H) (hd : G1.D = G.D) (hf : ∀ a, G.F a → G1.F a) : Ext G H { F := G.F, D := G'.D } H' where
  di := e.di
  fd := fun a f => e.fd a (e.fsub a (hf a f))
  ft := fun a f => by
    obtain ⟨o, h⟩ := s.ft a f
    exact ⟨o, e.keep a o h (by rw [hd]; exact s.fd a f)⟩
  keep := fun a o h1 h2 => e.keep a o h1 (by rw [hd]; exact h2)
  fsub := fun _ h => h
  fnew := fun _ h => .inl h
  dsub := fun a h => by
    have := e.dsub a (by rw [hd]; exact h)
    rw [hd] at this
    exact this
  dnew := fun a h => by
    have := e.dnew a h
    rw [hd] at this
    exact this
end

/-! ### data without lists -/
mutual
def nolist : PyData → Bool
  | .list _ => false
  | .tuple xs => nolists xs
  | _ => true
def nolists : List PyData → Bool
  | [] => true
  | x :: xs => nolist x && nolists xs
end
def flatT : TV → Bool
  | .d x => nolist x
  | .fresh xs => nolists xs
  | .obj _ fs => fs.all fun p => nolist p.2
  | .deal _ => true
  | .scr _ => true
  | .bor _ => false
section
variable {K : PySem.W.Frag} {F F' : Addr → Prop} {H : Hp}
mutual
theorem Rp.flat0 : ∀ {v : V} {x : PyData}, Rp K F H v x → nolist x = true → Rp K F' H v x
  | _, _, .non, _ => .non
  | _, _, .bl b, _ => .bl b
  | _, _, .int i, _ => .int i
  | _, _, .str x, _ => .str x
  | _, _, .lst _ _ _, h => by
    have h' : false = true := by simpa [nolist] using h
    cases h'
  | _, _, .tup q r, h => .tup q (RpAll.flat0 r (by simpa [nolist] using h))
theorem RpAll.flat0 : ∀ {vs : List V} {xs : List PyData}, RpAll K F H vs xs → nolists xs = true → RpAll K F' H vs xs
  | _, _, .nil, _ => .nil
  | _, _, .cons (d := d) (ds := ds) q r, h => by
    have h' : nolist d = true ∧ nolists ds = true := by simpa [nolists] using h
    exact .cons (Rp.flat0 q h'.1) (RpAll.flat0 r h'.2)
end
theorem Rp.flat {v : V} {x : PyData} (h : nolist x = true) (r : Rp K F H v x) : Rp K F' H v x := Rp.flat0 r h
theorem RpAll.flat {vs : List V} {xs : List PyData} (h : nolists xs = true) (r : RpAll K F H vs xs) : RpAll K F' H vs xs := RpAll.flat0 r h
theorem RFs.flat : ∀ {vs : List (Str × V)} {fs : List (Str × PyData)}, (fs.all fun p => nolist p.2) = true → RFs K F H vs fs → RFs K F' H vs fs
  | _, [], _, .nil => .nil
  | _, _ :: _, h, .cons q r => by
    simp only [List.all_cons, Bool.and_eq_true] at h
    exact .cons ⟨q.1, q.2.flat h.1⟩ (RFs.flat h.2 r)
end

/-! ### a def's promise over plain values -/
abbrev VSp := List SV → (TV → Prop) → QX → Prop
def SV.free : SV → Prop
  | .own _ => False
  | _ => True
def spV (K : PySem.W.Frag) (f : VSp) : Sp := fun vs H Q E => ∃ G0 svs Qv Ev, Ext G0 H G0 H ∧ Paired (fun sv v => RS K G0 H sv v ∧ sv.free) svs vs ∧ f svs Qv Ev ∧ XL K G0 H Ev E ∧
  ∀ tv G' H' v, Ext G0 H G' H' → RT K H G' [] [] H' tv v → Qv tv → Q v H'

def argS (ρ : SE) : TV → Option SV
  | .d x => some (.d x)
  | .fresh xs => some (.d (.list xs))
  | .bor i => match ρ[i]? with
    | some (some (SV.own xs)) => some (.d (.list xs))
    | some (some (SV.d x)) => some (.d x)
    | _ => none
  | .deal k => some (.deal k)
  | .scr ns => some (.scr ns)
  | .obj C fs => some (.obj C fs)
def argsS (ρ : SE) : List TV → Option (List SV)
  | [] => some []
  | tv :: r => match argS ρ tv, argsS ρ r with
    | some x, some xs => some (x :: xs)
    | _, _ => none
/-- arguments for good -/
def frzA (ρ : SE) : List TV → Option (List SV × SE)
  | [] => some ([], ρ)
  | tv :: r => match tv with
    | .scr ns => match frzA ρ r with
      | some (xs, ρ2) => some (SV.scr ns :: xs, ρ2)
      | none => none
    | .deal k => match frzA ρ r with
      | some (xs, ρ2) => some (SV.deal k :: xs, ρ2)
      | none => none
    | .obj C fs => match frzA ρ r with
      | some (xs, ρ2) => some (SV.obj C fs :: xs, ρ2)
      | none => none
    | tv => match frzA ρ r with
      | some (xs, ρ1) => match frz ρ1 tv with
        | some (x, ρ2) => some (SV.d x :: xs, ρ2)
        | none => none
      | none => none

section
variable {K : PySem.W.Frag} {G0 G G' G'' Gs : Gh} {H0 H H' H'' Hs : Hp} {ρ ρ' ρ'' ρs : SE} {σ : St}
/-- what a callee may see as frozen: the lists among its arguments too -/
def Gh.see (G : Gh) (H : Hp) (vs : List V) : Gh := { G with F := fun b => G.F b ∨ (V.ref b ∈ vs ∧ (∃ ls, H b = some (.lst ls)) ∧ G.D b = 0) }
theorem see_ext (e : Ext G0 H0 G H) (vs : List V) : Ext (G.see H vs) H (G.see H vs) H :=
  .refl e.di (fun a f => f.elim (e.fd a) fun z => z.2.2) (fun a f => f.elim (e.ft a) fun z => by
    obtain ⟨_, ⟨ls, h⟩, _⟩ := z
    exact ⟨_, h⟩)
theorem see_keep (vs : List V) : Keep K G.F H (G.see H vs).F H := ⟨fun _ h => .inl h, fun _ _ _ h => h, fun _ _ h => h⟩
theorem argS_ok {vs : List V} (R : Rep K G0 H0 G ρ σ H) {tv : TV} {v : V} {sv : SV} (r : RT K Hs G ρ σ H tv v) (hv : v ∈ vs) (h : argS ρ tv = some sv) : RS K (G.see H vs) H sv v ∧ sv.free := by
  have own : ∀ xs, RS K G H (.own xs) v → RS K (G.see H vs) H (.d (.list xs)) v := fun xs ⟨a, ws, e, h1, h2, h3, h4⟩ => by
    subst e
    exact .lst (.inr ⟨hv, ⟨_, h1⟩, h4⟩) h1 (h2.keep (see_keep vs))
  cases tv with
  | d x => cases h; exact ⟨Rp.keep (see_keep vs) r, trivial⟩
  | fresh xs =>
    cases h
    obtain ⟨a, ws, rfl, h1, h2, h3, h4, _⟩ := r
    exact ⟨own xs ⟨a, ws, rfl, h1, h2, h3, h4⟩, trivial⟩
  | bor i =>
    have h : (match ρ[i]? with
      | some (some (SV.own xs)) => some (SV.d (.list xs))
      | some (some (SV.d x)) => some (SV.d x)
      | _ => none) = some sv := h
    have r' : σ[i]? = some (some v) := r
    split at h
    · rename_i xs e
      cases h
      obtain ⟨v', e1, rr⟩ := R.slot i _ e
      rw [r'] at e1
      cases e1
      exact ⟨own xs rr, trivial⟩
    · rename_i x e
      cases h
      obtain ⟨v', e1, rr⟩ := R.slot i _ e
      rw [r'] at e1
      cases e1
      exact ⟨Rp.keep (see_keep vs) rr, trivial⟩
    · cases h
  | deal k => cases h; exact ⟨r, trivial⟩
  | scr ns => cases h; exact ⟨r, trivial⟩
  | obj C fs =>
    cases h
    obtain ⟨a, dx, ws, rfl, h1, h2⟩ := r
    exact ⟨⟨a, dx, ws, rfl, h1, h2.keep (see_keep vs)⟩, trivial⟩
theorem argsS_ok {us : List V} (R : Rep K G0 H0 G ρ σ H) : ∀ {tvs : List TV} {vs : List V} {svs : List SV}, RTs K Hs G ρ σ H tvs vs → (∀ v ∈ vs, v ∈ us) → argsS ρ tvs = some svs → Paired (fun sv v => RS K (G.see H us) H sv v ∧ sv.free) svs vs
  | _, _, _, .nil, _, h => by cases h; exact .nil
  | _, _, _, .cons r t _, hu, h => by
    unfold argsS at h
    split at h
    · rename_i x xs e1 e2
      cases h
      exact .cons (argS_ok R r (hu _ List.mem_cons_self) e1) (argsS_ok R t (fun v hv => hu v (List.mem_cons_of_mem _ hv)) e2)
    · cases h
end

section
variable {X : Cx} {xk : XK} {CX : CXT} {k : Nat} {f C : Addr} {fd : FuncData} {ps : List Str} {sp : VSp} {x m : Str} {p pos apos : Pos} {e o a : Expr} {es : List Expr} {wA : AW} {we wa : EW}
/-- a call: the lists among the arguments are lent, and what comes back has no lists within; or they are given away -/
def wCall (f : VSp) (wA : AW) : EW := fun ρ Q E => wA ρ (fun tvs ρ1 => ∃ svs, argsS ρ1 tvs = some svs ∧ f svs (fun tv => flatT tv = true ∧ Q tv ρ1) E) E
theorem RT.out {K : PySem.W.Frag} {G0 G G' : Gh} {H0 H H' Hs : Hp} {ρ : SE} {σ : St} {tv : TV} {v : V} (r : RT K H G' [] [] H' tv v) (R : Rep K G0 H0 G ρ σ H) (hs : ∀ a, H a = none → Hs a = none) : RT K Hs G' ρ σ H' tv v := by
  cases tv with
  | d x => exact r
  | fresh xs =>
    obtain ⟨a, vs, rfl, h1, h2, h3, h4, _, h6⟩ := r
    refine ⟨a, vs, rfl, h1, h2, h3, h4, fun z => ?_, hs a h6⟩
    obtain ⟨ws, q, _⟩ := R.own_some z
    rw [h6] at q
    cases q
  | bor i =>
    have r' : ([] : St)[i]? = some (some v) := r
    simp at r'
  | deal k => exact r
  | obj C fs => exact r
  | scr ns => exact r
theorem RT.lessF {K : PySem.W.Frag} {G G' : Gh} {H' Hs : Hp} {tv : TV} {v : V} (r : RT K Hs G' [] [] H' tv v) (fl : flatT tv = true) (hf : ∀ a, Hs a = none → ¬ G.F a) : RT K Hs { F := G.F, D := G'.D } [] [] H' tv v := by
  cases tv with
  | d x => exact Rp.flat fl r
  | fresh xs =>
    obtain ⟨a, vs, rfl, h1, h2, h3, h4, h5, h6⟩ := r
    exact ⟨a, vs, rfl, h1, h2.flat fl, hf a h6, h4, fun ⟨i, ys, e, _⟩ => by simp at e, h6⟩
  | bor i => exact r
  | deal k => exact r
  | scr ns => exact r
  | obj C fs =>
    obtain ⟨a, dx, vs, rfl, h1, h2⟩ := r
    exact ⟨a, dx, vs, rfl, h1, h2.flat fl⟩
theorem call_core {K : PySem.W.Frag} {σ : St} {H : Hp} {Q : VK} (h : rdE K xk (wCall sp wA) σ H Q) : tCallS (spV K sp) (fun _ => xk) (rdA K xk wA) σ H Q := by
  obtain ⟨G0, H0, G, ρ, Qv, Ev, R, xl, hw, q⟩ := h
  refine ⟨G0, H0, G, ρ, _, Ev, R, xl, hw, fun tvs ρ1 G1 H1 vs R1 E1 rts q1 => ?_⟩
  obtain ⟨svs, ea, hs⟩ := q1
  have sx := see_ext R1.ext vs
  refine ⟨G1.see H1 vs, svs, _, Ev, sx, argsS_ok R1 rts (fun v hv => hv) ea, hs, fun xn D' H' c d ex xr ev => xl xn D' H' c d ?_ xr ev, fun tv G' H' v ex rt qv => ?_⟩
  · exact (R1.ext.trans (ex.borrow R1.ext.self rfl fun a f => .inl f)).low
  · obtain ⟨fl, qv⟩ := qv
    have b : Ext G1 H1 { F := G1.F, D := G'.D } H' := ex.borrow R1.ext.self rfl fun a f => .inl f
    obtain ⟨R2, E2⟩ := R1.call b
    have rt2 : RT K H1 { F := G1.F, D := G'.D } [] [] H' tv v := rt.lessF fl fun a h f => by
      obtain ⟨o, z⟩ := R1.ext.ft a f
      rw [h] at z
      cases z
    exact q tv ρ1 _ H' v R2 (E1.trans E2) (rt2.out R1 fun a h => E1.none h) qv
theorem ve_call (F : FnG X.prog X.w X.K X.mg X.base CX k f fd ps (spV X.K sp)) (hr : RoomG k X.A) (hg : Gl X x) (hm : X.mg x = some (.ref f)) (hk : PySem.W.keepIn X.K (.ref f) = true) (hb : Binds X.K fd ps []) (hx : ∀ σ, PassesAt CX X σ xk)
    (ha : VA X xk (e :: es) wA) (hdb : (x == ("__debug__" : Str)) = false := by decide) (he : starEach (e :: es) X.env = (false, eval e X.env) :: starEach es X.env := by rfl) (hpl : (backTo pos (starEach es X.env)).any (·.1) = false := by rfl) :
    VE X xk (.Call (.Name x p) (e :: es) [] pos) (wCall sp wA) := (pe_callG (E := fun _ => xk) F hr hg hm hk hb hx ha hdb he hpl).imp fun _ _ _ h => call_core h
theorem ve_call0 (F : FnG X.prog X.w X.K X.mg X.base CX k f fd ps (spV X.K sp)) (hr : RoomG k X.A) (hg : Gl X x) (hm : X.mg x = some (.ref f)) (hk : PySem.W.keepIn X.K (.ref f) = true) (hb : Binds X.K fd ps []) (hx : ∀ σ, PassesAt CX X σ xk)
    (hdb : (x == ("__debug__" : Str)) = false := by decide) : VE X xk (.Call (.Name x p) [] [] pos) (wCall sp wNil) := (pe_callG0 (E := fun _ => xk) F hr hg hm hk hb hx hdb).imp fun σ H Q h => by
  have h2 : tCallS (spV X.K sp) (fun _ => xk) (rdA X.K xk wNil) σ H Q := call_core h
  obtain ⟨G0, H0, G, ρ, Qv, Ev, R, xl, hw, q⟩ := h2
  exact q [] ρ G H [] R .refl .nil hw
end

/-! ### lists changed in place -/
section
variable {K : PySem.W.Frag} {G0 G G' G'' Gs : Gh} {H0 H H' H'' Hs : Hp} {ρ ρ' ρ'' ρs : SE} {σ : St}
theorem set_own_sub {i : Nat} {xs ys : List PyData} {b : Addr} (e : ρ[i]? = some (some (SV.own xs))) : Own (ρ.set i (some (SV.own ys))) σ b ↔ Own ρ σ b := by
  have hi : i < ρ.length := (List.getElem?_eq_some_iff.mp e).1
  constructor
  · rintro ⟨j, zs, q1, q2⟩
    by_cases hj : j = i
    · subst hj
      exact ⟨j, xs, e, q2⟩
    · rw [List.getElem?_set_ne (Ne.symm hj)] at q1
      exact ⟨j, zs, q1, q2⟩
  · rintro ⟨j, zs, q1, q2⟩
    by_cases hj : j = i
    · subst hj
      exact ⟨j, ys, by rw [List.getElem?_set_self hi], q2⟩
    · exact ⟨j, zs, by rw [List.getElem?_set_ne (Ne.symm hj)]; exact q1, q2⟩
/-- the list that slot i owns has changed -/
theorem Rep.mut {i : Nat} {xs ys : List PyData} {a : Addr} {vs ws : List V} (R : Rep K G0 H0 G ρ σ H) (e : ρ[i]? = some (some (SV.own xs))) (es : σ[i]? = some (some (.ref a))) (hv : RpAll K G.F H ws ys) :
    Rep K G0 H0 G (ρ.set i (some (SV.own ys))) σ (upd H a (.lst ws)) ∧ Evo ρ σ G H (ρ.set i (some (SV.own ys))) G (upd H a (.lst ws)) := by
  have hi : i < ρ.length := (List.getElem?_eq_some_iff.mp e).1
  have ow : Own ρ σ a := ⟨i, xs, e, es⟩
  obtain ⟨ls, h1, h2, h3⟩ := R.own_some ow
  have k : Keep K G.F H G.F (upd H a (.lst ws)) := ⟨fun _ h => h, fun b zs f h => by
      have nb : b ≠ a := fun z => h2 (by rw [← z]; exact f)
      rw [upd_ne nb]; exact h, fun b zs h => by
      rcases h with (h | ⟨o, h⟩) | h
      · exact .inl (.inl (by rw [upd_ne (ne_of h h1 (fun z => nomatch z))]; exact h))
      · exact .inl (.inr ⟨o, by rw [upd_ne (ne_of h h1 (fun z => nomatch z))]; exact h⟩)
      · exact .inr h⟩
  have h0 : H0 a = none := R.new a ow
  refine ⟨⟨⟨R.ext.di.keep fun b n => ?_, R.ext.fd, fun b f => ?_, fun b o q1 q2 => ?_, R.ext.fsub, R.ext.fnew, R.ext.dsub, R.ext.dnew⟩, by rw [List.length_set]; exact R.len, fun j sv q => ?_, fun j l zs us b q1 q2 q3 q4 => ?_, fun b o => R.new b ((set_own_sub e).mp o)⟩,
    ⟨fun b o q n _ => ?_, fun b o q => ?_, fun _ f => f, fun _ f => .inl f, fun _ _ => rfl, fun _ h => .inl h, fun b o => (set_own_sub e).mp o, by rw [List.length_set]⟩⟩
  · exact upd_ne fun z => n (by rw [z]; exact h3)
  · obtain ⟨o, q⟩ := R.ext.ft b f
    exact ⟨o, by rw [upd_ne fun z => h2 (by rw [← z]; exact f)]; exact q⟩
  · rw [upd_ne fun z => by rw [z, h0] at q1; cases q1]
    exact R.ext.keep b o q1 q2
  · by_cases hj : j = i
    · subst hj
      rw [List.getElem?_set_self hi] at q
      cases q
      exact ⟨_, es, a, ws, rfl, upd_same, hv.keep k, h2, h3⟩
    · rw [List.getElem?_set_ne (Ne.symm hj)] at q
      obtain ⟨v, e1, r⟩ := R.slot j sv q
      refine ⟨v, e1, ?_⟩
      cases sv with
      | d x => exact Rp.keep k r
      | own zs =>
        obtain ⟨b, us, rfl, g1, g2, g3, g4⟩ := r
        have nb : b ≠ a := fun z => hj (R.inj j i _ _ a q e (by rw [← z]; exact e1) es)
        exact ⟨b, us, rfl, by rw [upd_ne nb]; exact g1, g2.keep k, g3, g4⟩
      | deal k => exact r
      | obj C fs =>
        obtain ⟨b, dx, us, rfl, g1, g2⟩ := r
        exact ⟨b, dx, us, rfl, by rw [upd_ne (ne_of g1 h1 (fun z => nomatch z))]; exact g1, g2.keep k⟩
      | scr ns =>
        obtain ⟨b, eb, hb⟩ := r
        exact ⟨b, eb, hb.mono fun o xs h5 => by rw [upd_ne (ne_of h5 h1 (fun z => nomatch z))]; exact h5⟩
      | me b => exact r
      | exc b d fs =>
        obtain ⟨ev, us, g1, g2⟩ := r
        exact ⟨ev, us, by rw [upd_ne (ne_of g1 h1 (fun z => nomatch z))]; exact g1, g2.keep k.low⟩
  · have f : ∀ (j : Nat) (zs : List PyData), (ρ.set i (some (SV.own ys)))[j]? = some (some (SV.own zs)) → ∃ zs', ρ[j]? = some (some (SV.own zs')) := fun j zs q => by
      by_cases hj : j = i
      · subst hj
        exact ⟨xs, e⟩
      · rw [List.getElem?_set_ne (Ne.symm hj)] at q
        exact ⟨zs, q⟩
    obtain ⟨z1, p1⟩ := f j zs q1
    obtain ⟨z2, p2⟩ := f l us q2
    exact R.inj j l z1 z2 b p1 p2 q3 q4
  · rw [upd_ne fun z => n (by rw [z]; exact ow)]
    exact q
  · by_cases hb : b = a
    · exact ⟨_, by rw [hb]; exact upd_same⟩
    · exact ⟨o, by rw [upd_ne hb]; exact q⟩
end

section
variable {X : Cx} {xk : XK} {p pos apos : Pos} {e o a : Expr} {es : List Expr} {wA : AW} {we wa wx : EW}
/-- o.append(x) -/
def wApp (wo wx : EW) : EW := fun ρ Q E => wo ρ (fun tv ρ1 => ∃ i ys, tv = .bor i ∧ ownAt ρ1 i = some ys ∧ wx ρ1 (fun tx ρ2 => ∃ x ρ3 xs, frz ρ2 tx = some (x, ρ3) ∧ ownAt ρ3 i = some xs ∧ xs.length < sizeLine ∧ Q (.d .none) (ρ3.set i (some (SV.own (xs ++ [x]))))) E) E
theorem ve_append (h : PE X e (tBM X.K "list" rAppend (rdE X.K xk wa) (rdA X.K xk (wCons wx wNil)))) : VE X xk e (wApp wa wx) :=
  h.imp fun σ H Q ⟨G0, H0, G, ρ, Qv, Ev, R, xl, hw, q⟩ =>
    ⟨G0, H0, G, ρ, _, Ev, R, xl, hw, fun tv ρ1 G1 H1 v R1 E1 rt q1 => by
      obtain ⟨i, ys, rfl, eo, q1⟩ := q1
      have r' : σ[i]? = some (some v) := rt
      obtain ⟨v', e1, a, vs, rfl, h1, h2, h3, h4⟩ := R1.slot i _ (ownAt_some eo)
      rw [r'] at e1
      cases e1
      refine ⟨.inl ⟨rfl, _, .inl (.inl h1)⟩, ⟨G0, H0, G1, ρ1, _, Ev, R1, xl, (show wCons wx wNil ρ1 (fun tvs ρ2 => ∃ tx, tvs = [tx] ∧ ∃ x ρ3 xs, frz ρ2 tx = some (x, ρ3) ∧ ownAt ρ3 i = some xs ∧ xs.length < sizeLine ∧ Qv (.d .none) (ρ3.set i (some (SV.own (xs ++ [x]))))) Ev from ?_), fun tvs ρ2 G2 H2 ws R2 E2 rts q2 => ?_⟩⟩
      · show wx ρ1 _ Ev
        have : (fun (tx : TV) (ρ2 : SE) => ∃ x ρ3 xs, frz ρ2 tx = some (x, ρ3) ∧ ownAt ρ3 i = some xs ∧ xs.length < sizeLine ∧ Qv (.d .none) (ρ3.set i (some (SV.own (xs ++ [x]))))) = fun tx ρ2 => ∃ tx', [tx] = [tx'] ∧ ∃ x ρ3 xs, frz ρ2 tx' = some (x, ρ3) ∧ ownAt ρ3 i = some xs ∧ xs.length < sizeLine ∧ Qv (.d .none) (ρ3.set i (some (SV.own (xs ++ [x])))) := by
          funext tx ρ2
          apply propext
          constructor
          · intro h
            exact ⟨tx, rfl, h⟩
          · rintro ⟨tx', e, h⟩
            cases e
            exact h
        rw [this] at q1
        exact q1
      · obtain ⟨tx, rfl, x, ρ3, xs, ef, eo2, hz, q2⟩ := q2
        cases rts with
        | @cons _ w _ _ rx rt2 _ =>
          cases rt2
          obtain ⟨G3, f⟩ := frz_ok R2 (fun a h => R1.ext.none0 h) rx ef
          obtain ⟨v'', e3, a2, vs2, ea2, g1, g2, g3, g4⟩ := f.rep.slot i _ (ownAt_some eo2)
          rw [r'] at e3
          cases e3
          cases ea2
          have rp : RpAll X.K G3.F H2 (vs2 ++ [w]) (xs ++ [x]) := g2.append (.cons f.is .nil)
          obtain ⟨R4, E4⟩ := f.rep.mut (vs := vs2) (ownAt_some eo2) r' rp
          refine ⟨a, vs2, w, rfl, rfl, g1, by rw [g2.length]; exact hz, ?_⟩
          exact q (.d .none) _ G3 _ .non R4 ((E1.trans (f.evo E2)).trans E4) (show Rp _ _ _ _ _ from .non) q2⟩
end
end VL
set_option Elab.async false
set_option linter.all false
set_option maxRecDepth 100000
/-! VL5: statements, targets, loops, comprehensions, bodies of defs. -/
namespace VL
open PySem PySem.Spec PyProof.Rows L2

/-- what is wanted behind a statement -/
structure Po where
  nx : SE → Prop
  rt : TV → Prop
  bk : SE → Prop := fun _ => False
  ct : SE → Prop := fun _ => False
abbrev SW := SE → Po → QX → Prop
/-- what is told of frozen lists and tuples stays told -/
def Stb (K : PySem.W.Frag) (S : (Addr → Prop) → Hp → Prop) : Prop := ∀ F H F' H', Keep K F H F' H' → S F H → S F' H'
structure Lk (K : PySem.W.Frag) (G0 : Gh) (H0 : Hp) (S : (Addr → Prop) → Hp → Prop) (P : Po) (D : Ends) : Prop where
  nx : ∀ ρ G σ H, Rep K G0 H0 G ρ σ H → S G.F H → P.nx ρ → D.nx σ H
  rt : ∀ tv G H v, Ext G0 H0 G H → RT K H0 G [] [] H tv v → P.rt tv → D.rt v H
  bk : ∀ ρ G σ H, Rep K G0 H0 G ρ σ H → S G.F H → P.bk ρ → D.bk σ H
  ct : ∀ ρ G σ H, Rep K G0 H0 G ρ σ H → S G.F H → P.ct ρ → D.ct σ H
def rdS (K : PySem.W.Frag) (xk : XK) (w : SW) : TS := fun D σ H => ∃ G0 H0 G ρ P Ev S, Rep K G0 H0 G ρ σ H ∧ XL K G0 H0 Ev xk ∧ w ρ P Ev ∧ Lk K G0 H0 S P D ∧ Stb K S ∧ S G.F H
def VS (X : Cx) (xk : XK) (s : Stmt) (w : SW) : Prop := PS X s (rdS X.K xk w)
def VSs (X : Cx) (xk : XK) (s : List Stmt) (w : SW) : Prop := PSs X s (rdS X.K xk w)
theorem _root_.L2.PS.imp {X : Cx} {e : Stmt} {t t' : TS} (h : PS X e t) (k : ∀ D σ H, t' D σ H → t D σ H) : PS X e t' := ⟨fun pins s σ H Q I q => h.run pins s σ H Q I (k _ _ _ q)⟩
theorem _root_.L2.PSs.imp {X : Cx} {e : List Stmt} {t t' : TS} (h : PSs X e t) (k : ∀ D σ H, t' D σ H → t D σ H) : PSs X e t' := ⟨fun pins s σ H Q I q => h.run pins s σ H Q I (k _ _ _ q)⟩

section
variable {K : PySem.W.Frag} {G0 G G' G'' Gs : Gh} {H0 H H' H'' Hs : Hp} {ρ ρ' ρ'' ρs : SE} {σ : St}
/-- a slot is set -/
theorem Rep.set {i : Nat} {sv : SV} {v : V} (R : Rep K G0 H0 G ρ σ H) (r : RS K G H sv v) (n : ∀ xs a, sv = .own xs → v = .ref a → ¬ Own ρ σ a ∧ H0 a = none) : Rep K G0 H0 G (ρ.set i (some sv)) (σ.set i (some v)) H := by
  have at_ : ∀ (j : Nat) (tv : SV), (ρ.set i (some sv))[j]? = some (some tv) → (j = i ∧ tv = sv ∧ (σ.set i (some v))[j]? = some (some v)) ∨ (j ≠ i ∧ ρ[j]? = some (some tv) ∧ (σ.set i (some v))[j]? = σ[j]?) := fun j tv e => by
    by_cases hj : j = i
    · subst hj
      have hi : j < ρ.length := by
        have := (List.getElem?_eq_some_iff.mp e).1
        rwa [List.length_set] at this
      rw [List.getElem?_set_self hi] at e
      cases e
      exact .inl ⟨rfl, rfl, by rw [List.getElem?_set_self (by rw [← R.len]; exact hi)]⟩
    · rw [List.getElem?_set_ne (Ne.symm hj)] at e
      exact .inr ⟨hj, e, List.getElem?_set_ne (Ne.symm hj)⟩
  refine ⟨R.ext, by rw [List.length_set, List.length_set]; exact R.len, fun j tv e => ?_, fun j k xs ys a q1 q2 q3 q4 => ?_, fun a ⟨j, xs, q1, q2⟩ => ?_⟩
  · rcases at_ j tv e with ⟨rfl, rfl, h⟩ | ⟨hj, h1, h2⟩
    · exact ⟨v, h, r⟩
    · obtain ⟨u, e1, r'⟩ := R.slot j tv h1
      exact ⟨u, by rw [h2]; exact e1, r'⟩
  · rcases at_ j _ q1 with ⟨rfl, e1, h⟩ | ⟨hj, h1, h2⟩
    · rcases at_ k _ q2 with ⟨rfl, e2, h'⟩ | ⟨hk, h1', h2'⟩
      · rfl
      · rw [h] at q3
        cases q3
        rw [h2'] at q4
        exact absurd ⟨k, ys, h1', q4⟩ (n xs a e1.symm rfl).1
    · rcases at_ k _ q2 with ⟨rfl, e2, h'⟩ | ⟨hk, h1', h2'⟩
      · rw [h'] at q4
        cases q4
        rw [h2] at q3
        exact absurd ⟨j, xs, h1, q3⟩ (n ys a e2.symm rfl).1
      · rw [h2] at q3
        rw [h2'] at q4
        exact R.inj j k xs ys a h1 h1' q3 q4
  · rcases at_ j _ q1 with ⟨rfl, e1, h⟩ | ⟨hj, h1, h2⟩
    · rw [h] at q2
      cases q2
      exact (n xs a e1.symm rfl).2
    · rw [h2] at q2
      exact R.new a ⟨j, xs, h1, q2⟩
/-- a value stored: the slot's content, the slots behind it -/
def sto (ρ : SE) : TV → Option (SV × SE)
  | .d x => some (.d x, ρ)
  | .fresh xs => some (.own xs, ρ)
  | .bor i => match frzS ρ i with
    | some (x, ρ1) => some (.d x, ρ1)
    | none => none
  | .deal k => some (.deal k, ρ)
  | .scr ns => some (.scr ns, ρ)
  | .obj C fs => some (.obj C fs, ρ)
theorem sto_ok {tv : TV} {v : V} {sv : SV} {i : Nat} (R : Rep K G0 H0 G ρ σ H) (rs : ∀ a, Hs a = none → H0 a = none) (r : RT K Hs G ρ σ H tv v) (h : sto ρ tv = some (sv, ρ')) : ∃ G', Rep K G0 H0 G' (ρ'.set i (some sv)) (σ.set i (some v)) H ∧ Keep K G.F H G'.F H := by
  cases tv with
  | d x =>
    cases h
    exact ⟨G, R.set (sv := .d x) (v := v) r (fun _ _ z => nomatch z), .refl⟩
  | fresh xs =>
    cases h
    obtain ⟨a, vs, rfl, h1, h2, h3, h4, h5, h6⟩ := r
    exact ⟨G, R.set ⟨a, vs, rfl, h1, h2, h3, h4⟩ fun _ b _ e => by cases e; exact ⟨h5, rs a h6⟩, .refl⟩
  | bor j =>
    have h : (match frzS ρ j with
      | some (x, ρ1) => some (SV.d x, ρ1)
      | none => none) = some (sv, ρ') := h
    split at h
    · rename_i x ρ1 e
      cases h
      obtain ⟨G1, f⟩ := frz_ok R rs r (show frz ρ (.bor j) = some (x, ρ') from e)
      exact ⟨G1, f.rep.set (sv := .d x) (v := v) f.is (fun _ _ z => nomatch z), f.keep⟩
    · cases h
  | deal k =>
    cases h
    exact ⟨G, R.set (sv := .deal k) (v := v) r (fun _ _ z => nomatch z), .refl⟩
  | scr ns =>
    cases h
    exact ⟨G, R.set (sv := .scr ns) (v := v) r (fun _ _ z => nomatch z), .refl⟩
  | obj C fs =>
    cases h
    exact ⟨G, R.set (sv := .obj C fs) (v := v) r (fun _ _ z => nomatch z), .refl⟩
/-- another value, behind a store of a new list or of data -/
theorem RT.set {tv : TV} {u v : V} {sv : SV} {i : Nat} {Ht : Hp} (R : Rep K G0 H0 G ρ σ H) (r : RT K Ht G ρ σ H tv u) (nb : ∀ j, tv ≠ .bor j) (n : ∀ xs ys, tv = .fresh xs → sv = .own ys → u ≠ v) : RT K Ht G (ρ.set i (some sv)) (σ.set i (some v)) H tv u := by
  cases tv with
  | d y => exact r
  | fresh xs =>
    obtain ⟨a, vs, rfl, h1, h2, h3, h4, h5, h6⟩ := r
    refine ⟨a, vs, rfl, h1, h2, h3, h4, fun ⟨j, zs, q1, q2⟩ => ?_, h6⟩
    by_cases hj : j = i
    · subst hj
      have hi : j < ρ.length := by
        have := (List.getElem?_eq_some_iff.mp q1).1
        rwa [List.length_set] at this
      rw [List.getElem?_set_self hi] at q1
      rw [List.getElem?_set_self (by rw [← R.len]; exact hi)] at q2
      cases q1
      cases q2
      exact n xs zs rfl rfl rfl
    · rw [List.getElem?_set_ne (Ne.symm hj)] at q1 q2
      exact h5 ⟨j, zs, q1, q2⟩
  | bor j => exact absurd rfl (nb j)
  | deal k => exact r
  | obj C fs => exact r
  | scr ns => exact r
end

section
variable {X : Cx} {xk : XK} {pos p : Pos} {e a b c : Expr} {es : List Expr} {st : Stmt} {rest ss : List Stmt} {we wa wb wc : EW} {wA : AW} {bA : BW} {w w1 w2 : SW}
def wSeq (w1 w2 : SW) : SW := fun ρ P E => w1 ρ { P with nx := fun ρ1 => w2 ρ1 P E } E
def wNext : SW := fun ρ P _ => P.nx ρ
theorem vss_nil : VSs X xk [] wNext := pss_nil.imp fun D σ H ⟨G0, H0, G, ρ, P, Ev, S, R, xl, hw, l, sb, sg⟩ => l.nx ρ G σ H R sg hw
theorem vss_cons (h1 : VS X xk st w1) (h2 : VSs X xk rest w2) : VSs X xk (st :: rest) (wSeq w1 w2) := (pss_cons h1 h2).imp fun D σ H ⟨G0, H0, G, ρ, P, Ev, S, R, xl, hw, l, sb, sg⟩ =>
  ⟨G0, H0, G, ρ, _, Ev, S, R, xl, hw, ⟨fun ρ1 G1 σ1 H1 R1 s1 q => ⟨G0, H0, G1, ρ1, P, Ev, S, R1, xl, q, l, sb, s1⟩, l.rt, l.bk, l.ct⟩, sb, sg⟩
theorem vss_one (h1 : VS X xk st w1) : VSs X xk [st] w1 := pss_one h1
def wDrop (we : EW) : SW := fun ρ P E => we ρ (fun _ ρ1 => P.nx ρ1) E
theorem vs_expr (he : VE X xk e we) (hs : swapsWith e none pos.line X.env = pure false := by rfl) : VS X xk (.Expr e pos) (wDrop we) := (ps_expr he hs).imp fun D σ H ⟨G0, H0, G, ρ, P, Ev, S, R, xl, hw, l, sb, sg⟩ =>
  ⟨G0, H0, G, ρ, _, Ev, R, xl, hw, fun tv ρ1 G1 H1 v R1 E1 _ q => l.nx ρ1 G1 σ H1 R1 (sb _ _ _ _ (E1.keeps R) sg) q⟩
/-- what a def hands back: a list of its own is a new one for the caller -/
def outT (ρ : SE) : TV → Option TV
  | .bor i => match ρ[i]? with
    | some (some (SV.own xs)) => some (.fresh xs)
    | some (some (SV.d x)) => some (.d x)
    | _ => none
  | tv => some tv
theorem outT_ok {K : PySem.W.Frag} {G0 G : Gh} {H0 H Hs : Hp} {ρ : SE} {σ : St} {tv tv' : TV} {v : V} (R : Rep K G0 H0 G ρ σ H) (rs : ∀ a, Hs a = none → H0 a = none) (r : RT K Hs G ρ σ H tv v) (h : outT ρ tv = some tv') : RT K H0 G [] [] H tv' v := by
  have nil : ∀ a : Addr, ¬ Own [] [] a := fun a ⟨i, xs, e, _⟩ => by simp at e
  cases tv with
  | d x => cases h; exact r
  | fresh xs =>
    cases h
    obtain ⟨a, vs, rfl, h1, h2, h3, h4, _, h6⟩ := r
    exact ⟨a, vs, rfl, h1, h2, h3, h4, nil a, rs a h6⟩
  | bor i =>
    have h : (match ρ[i]? with
      | some (some (SV.own xs)) => some (TV.fresh xs)
      | some (some (SV.d x)) => some (TV.d x)
      | _ => none) = some tv' := h
    have r' : σ[i]? = some (some v) := r
    split at h
    · rename_i xs e
      cases h
      obtain ⟨v', e1, a, vs, rfl, h1, h2, h3, h4⟩ := R.slot i _ e
      rw [r'] at e1
      cases e1
      exact ⟨a, vs, rfl, h1, h2, h3, h4, nil a, R.new a ⟨i, xs, e, r'⟩⟩
    · rename_i x e
      cases h
      obtain ⟨v', e1, rr⟩ := R.slot i _ e
      rw [r'] at e1
      cases e1
      exact rr
    · cases h
  | deal k => cases h; exact r
  | obj C fs => cases h; exact r
  | scr ns => cases h; exact r
def wRet (we : EW) : SW := fun ρ P E => we ρ (fun tv ρ1 => ∃ tv', outT ρ1 tv = some tv' ∧ P.rt tv') E
theorem vs_ret (he : VE X xk e we) : VS X xk (.Return (some e) pos) (wRet we) := (ps_ret he).imp fun D σ H ⟨G0, H0, G, ρ, P, Ev, S, R, xl, hw, l, sb, sg⟩ =>
  ⟨G0, H0, G, ρ, _, Ev, R, xl, hw, fun tv ρ1 G1 H1 v R1 _ rt ⟨tv', e1, q⟩ => l.rt tv' G1 H1 v R1.ext (outT_ok R1 (fun a h => R.ext.none0 h) rt e1) q⟩
def wRetN : SW := fun _ P _ => P.rt (.d .none)
theorem vs_retN : VS X xk (.Return none pos) wRetN := ps_retN.imp fun D σ H ⟨G0, H0, G, ρ, P, Ev, S, R, xl, hw, l, sb, sg⟩ => l.rt (.d .none) G H .non R.ext (show Rp _ _ _ _ _ from .non) hw
theorem vs_pass : VS X xk (.Pass pos) wNext := ps_pass.imp fun D σ H ⟨G0, H0, G, ρ, P, Ev, S, R, xl, hw, l, sb, sg⟩ => l.nx ρ G σ H R sg hw
def wBrk : SW := fun ρ P _ => P.bk ρ
def wCnt : SW := fun ρ P _ => P.ct ρ
theorem vs_break : VS X xk (.Break pos) wBrk := ps_break.imp fun D σ H ⟨G0, H0, G, ρ, P, Ev, S, R, xl, hw, l, sb, sg⟩ => l.bk ρ G σ H R sg hw
theorem vs_continue : VS X xk (.Continue pos) wCnt := ps_continue.imp fun D σ H ⟨G0, H0, G, ρ, P, Ev, S, R, xl, hw, l, sb, sg⟩ => l.ct ρ G σ H R sg hw
def wIfS (bA : BW) (w1 w2 : SW) : SW := fun ρ P E => bA ρ (fun c ρ1 => if c = true then w1 ρ1 P E else w2 ρ1 P E) E
theorem vs_if {c : Expr} {s1 s2 : List Stmt} (hc : VT X xk c bA) (h1 : VSs X xk s1 w1) (h2 : VSs X xk s2 w2) : VS X xk (.If c s1 s2 pos) (wIfS bA w1 w2) := (ps_if hc h1 h2).imp fun D σ H ⟨G0, H0, G, ρ, P, Ev, S, R, xl, hw, l, sb, sg⟩ =>
  ⟨G0, H0, G, ρ, _, Ev, R, xl, hw, fun c ρ1 G1 H1 R1 E1 q => by
    cases c with
    | true => exact ⟨G0, H0, G1, ρ1, P, Ev, S, R1, xl, q, l, sb, sb _ _ _ _ (E1.keeps R) sg⟩
    | false => exact ⟨G0, H0, G1, ρ1, P, Ev, S, R1, xl, q, l, sb, sb _ _ _ _ (E1.keeps R) sg⟩⟩
def wSet (i : Nat) (we : EW) : SW := fun ρ P E => we ρ (fun tv ρ1 => ∃ sv ρ2, sto ρ1 tv = some (sv, ρ2) ∧ P.nx (ρ2.set i (some sv))) E
theorem vs_set {i : Nat} (h : PS X st (tAsg (rdE X.K xk we) (gName i))) : VS X xk st (wSet i we) := h.imp fun D σ H ⟨G0, H0, G, ρ, P, Ev, S, R, xl, hw, l, sb, sg⟩ =>
  ⟨G0, H0, G, ρ, _, Ev, R, xl, hw, fun tv ρ1 G1 H1 v R1 E1 rt ⟨sv, ρ2, e1, q⟩ => by
    obtain ⟨G2, R2, k2⟩ := sto_ok (i := i) R1 (fun a h => R.ext.none0 h) rt e1
    exact l.nx _ G2 _ H1 R2 (sb _ _ _ _ ((E1.keeps R).trans k2) sg) q⟩
/-- x, y = a, b: neither is another name's own list -/
def wPar (i j : Nat) (wa wb : EW) : SW := fun ρ P E => wa ρ (fun ta ρ1 => wb ρ1 (fun tb ρ2 => ∃ sa sb, (∀ k, ta ≠ .bor k) ∧ (∀ k, tb ≠ .bor k) ∧ sto ρ2 ta = some (sa, ρ2) ∧ sto ρ2 tb = some (sb, ρ2) ∧ P.nx ((ρ2.set i (some sa)).set j (some sb))) E) E
theorem sto_same {ρ : SE} {tv : TV} {sv : SV} (n : ∀ k, tv ≠ .bor k) (h : sto ρ tv = some (sv, ρ)) (ρ' : SE) : sto ρ' tv = some (sv, ρ') := by
  cases tv with
  | bor k => exact absurd rfl (n k)
  | d x => cases h; rfl
  | fresh xs => cases h; rfl
  | deal k => cases h; rfl
  | obj C fs => cases h; rfl
  | scr ns => cases h; rfl
theorem sto_own {ρ : SE} {tv : TV} {ys : List PyData} (n : ∀ k, tv ≠ .bor k) (h : sto ρ tv = some (SV.own ys, ρ)) : tv = .fresh ys := by
  cases tv with
  | bor k => exact absurd rfl (n k)
  | d x => cases h
  | fresh xs => cases h; rfl
  | deal k => cases h
  | obj C fs => cases h
  | scr ns => cases h
theorem sto_rep {K : PySem.W.Frag} {G0 G : Gh} {H0 H Hs : Hp} {ρ : SE} {σ : St} {tv : TV} {v : V} {sv : SV} {i : Nat} (R : Rep K G0 H0 G ρ σ H) (rs : ∀ a, Hs a = none → H0 a = none) (n : ∀ k, tv ≠ .bor k) (r : RT K Hs G ρ σ H tv v) (h : sto ρ tv = some (sv, ρ)) : Rep K G0 H0 G (ρ.set i (some sv)) (σ.set i (some v)) H := by
  cases tv with
  | d x =>
    cases h
    exact R.set r fun _ _ z => nomatch z
  | fresh xs =>
    cases h
    obtain ⟨a, vs, rfl, h1, h2, h3, h4, h5, h6⟩ := r
    exact R.set ⟨a, vs, rfl, h1, h2, h3, h4⟩ fun _ b _ e => by cases e; exact ⟨h5, rs a h6⟩
  | bor j => exact absurd rfl (n j)
  | deal k =>
    cases h
    exact R.set r fun _ _ z => nomatch z
  | scr ns =>
    cases h
    exact R.set r fun _ _ z => nomatch z
  | obj C fs =>
    cases h
    exact R.set r fun _ _ z => nomatch z
theorem vs_par {i j : Nat} (h : PS X st (tPar i j (rdA X.K xk (wCons wa (wCons wb wNil))))) : VS X xk st (wPar i j wa wb) := h.imp fun D σ H ⟨G0, H0, G, ρ, P, Ev, S, R, xl, hw, l, sb, sg⟩ => by
  refine ⟨G0, H0, G, ρ, (fun tvs ρ2 => ∃ ta tb, tvs = [ta, tb] ∧ ∃ sa sb, (∀ k, ta ≠ .bor k) ∧ (∀ k, tb ≠ .bor k) ∧ sto ρ2 ta = some (sa, ρ2) ∧ sto ρ2 tb = some (sb, ρ2) ∧ P.nx ((ρ2.set i (some sa)).set j (some sb))), Ev, R, xl, ?_, fun tvs ρ2 G2 H2 vs R2 E2 rts q => ?_⟩
  · have e : ∀ ta : TV, (fun (tb : TV) (ρ2 : SE) => ∃ sa sb, (∀ k, ta ≠ .bor k) ∧ (∀ k, tb ≠ .bor k) ∧ sto ρ2 ta = some (sa, ρ2) ∧ sto ρ2 tb = some (sb, ρ2) ∧ P.nx ((ρ2.set i (some sa)).set j (some sb))) =
        fun tb ρ2 => ∃ ta' tb', [ta, tb] = [ta', tb'] ∧ ∃ sa sb, (∀ k, ta' ≠ .bor k) ∧ (∀ k, tb' ≠ .bor k) ∧ sto ρ2 ta' = some (sa, ρ2) ∧ sto ρ2 tb' = some (sb, ρ2) ∧ P.nx ((ρ2.set i (some sa)).set j (some sb)) := fun ta => by
      funext tb ρ2
      apply propext
      constructor
      · intro h
        exact ⟨ta, tb, rfl, h⟩
      · rintro ⟨ta', tb', e, h⟩
        cases e
        exact h
    have hw' : wa ρ (fun ta ρ1 => wb ρ1 (fun tb ρ2 => ∃ sa sb, (∀ k, ta ≠ .bor k) ∧ (∀ k, tb ≠ .bor k) ∧ sto ρ2 ta = some (sa, ρ2) ∧ sto ρ2 tb = some (sb, ρ2) ∧ P.nx ((ρ2.set i (some sa)).set j (some sb))) Ev) Ev := hw
    simp only [e] at hw'
    exact hw'
  · obtain ⟨ta, tb, rfl, za, zb, na, nb, ea, eb, q⟩ := q
    cases rts with
    | @cons _ va _ _ ra rts' dd =>
      cases rts' with
      | @cons _ vb _ _ rb rn _ =>
        cases rn
        have R3 := sto_rep (i := i) R2 (fun a h => R.ext.none0 h) na ra ea
        have rb' := rb.set (i := i) (sv := za) (v := va) R2 nb fun xs ys e1 e2 z => by
          subst e2
          exact dd ys (sto_own na ea) 0 xs (by rw [e1]; rfl) (by rw [z]; rfl)
        have R4 := sto_rep (i := j) R3 (fun a h => R.ext.none0 h) nb rb' (sto_same nb eb _)
        exact ⟨va, vb, rfl, l.nx _ G2 _ H2 R4 (sb _ _ _ _ (E2.keeps R) sg) q⟩

/-! ### targets of loops: names, tuples of names -/
inductive Tg where
  | nm (i : Nat)
  | tp (ts : List Tg)
mutual
def Tg.put : Tg → PyData → SE → Option SE
  | .nm i, x, ρ => some (ρ.set i (some (.d x)))
  | .tp ts, .tuple xs, ρ => Tg.puts ts xs ρ
  | .tp _, _, _ => none
def Tg.puts : List Tg → List PyData → SE → Option SE
  | [], [], ρ => some ρ
  | t :: ts, x :: xs, ρ => match t.put x ρ with
    | some ρ1 => Tg.puts ts xs ρ1
    | none => none
  | _, _, _ => none
end
mutual
def Tg.slots : Tg → List Nat
  | .nm i => [i]
  | .tp ts => Tg.slotss ts
def Tg.slotss : List Tg → List Nat
  | [] => []
  | t :: ts => t.slots ++ Tg.slotss ts
end
/-- the target's own rule -/
def VG (X : Cx) (tg : Expr) (t : Tg) : Prop := ∃ g, PG X tg g ∧ ∀ (G0 : Gh) (H0 : Hp) (G : Gh) (ρ : SE) (σ : St) (H : Hp) (v : V) (x : PyData) (ρ' : SE) (Q : St → Hp → Prop), Rep X.K G0 H0 G ρ σ H → Rp X.K G.F H v x → t.put x ρ = some ρ' →
  (∀ σ', Rep X.K G0 H0 G ρ' σ' H → (∀ j, j ∉ t.slots → σ'[j]? = σ[j]?) → Q σ' H) → g v σ H Q
def VGs (X : Cx) (tgs : List Expr) (ts : List Tg) : Prop := ∃ g, PGs X tgs g ∧ ∀ (G0 : Gh) (H0 : Hp) (G : Gh) (ρ : SE) (σ : St) (H : Hp) (vs : List V) (xs : List PyData) (ρ' : SE) (Q : St → Hp → Prop), Rep X.K G0 H0 G ρ σ H → RpAll X.K G.F H vs xs → Tg.puts ts xs ρ = some ρ' →
  (∀ σ', Rep X.K G0 H0 G ρ' σ' H → (∀ j, j ∉ Tg.slotss ts → σ'[j]? = σ[j]?) → Q σ' H) → g vs σ H Q
theorem vg_name {i : Nat} {tg : Expr} (h : PG X tg (gName i)) : VG X tg (.nm i) := ⟨_, h, fun G0 H0 G ρ σ H v x ρ' Q R r e q => by
  unfold Tg.put at e
  cases e
  exact q _ (R.set r fun _ _ z => nomatch z) fun j hj => List.getElem?_set_ne (fun z => hj (by rw [← z]; exact List.mem_singleton.mpr rfl))⟩
theorem vgs_nil : VGs X [] [] := ⟨_, pgs_nil, fun G0 H0 G ρ σ H vs xs ρ' Q R r e q => by
  cases r with
  | nil =>
    unfold Tg.puts at e
    cases e
    exact ⟨rfl, q σ R fun _ _ => rfl⟩
  | cons _ _ => unfold Tg.puts at e; cases e⟩
theorem vgs_cons {e : Expr} {es : List Expr} {t : Tg} {ts : List Tg} (h1 : VG X e t) (h2 : VGs X es ts) (hs : (assignEach (e :: es) X.env).map (·.2) = assign e X.env :: (assignEach es X.env).map (·.2) := by rfl) : VGs X (e :: es) (t :: ts) := by
  obtain ⟨g, hg, k⟩ := h1
  obtain ⟨g2, hg2, k2⟩ := h2
  refine ⟨_, pgs_cons hg hg2 hs, fun G0 H0 G ρ σ H vs xs ρ' Q R r ep q => ?_⟩
  cases r with
  | nil => unfold Tg.puts at ep; cases ep
  | @cons v vs x xs r rs =>
    unfold Tg.puts at ep
    split at ep
    · rename_i ρ1 e1
      refine ⟨v, vs, rfl, k G0 H0 G ρ σ H v x ρ1 _ R r e1 fun σ1 R1 s1 => k2 G0 H0 G ρ1 σ1 H vs xs ρ' _ R1 rs ep fun σ2 R2 s2 => q σ2 R2 fun j hj => ?_⟩
      have hj' : j ∉ t.slots ++ Tg.slotss ts := hj
      rw [List.mem_append, not_or] at hj'
      rw [s2 j hj'.2, s1 j hj'.1]
    · cases ep
theorem vg_tup {es : List Expr} {k : Nat} {ts : List Tg} (hc : X.calm = true) (h : VGs X es ts) (hl : ts.length = es.length) (mk : ∀ g, PGs X es g → PG X (.Tuple es k pos) (gTup X.K es.length g)) : VG X (.Tuple es k pos) (.tp ts) := by
  obtain ⟨g, hg, kk⟩ := h
  refine ⟨_, mk g hg, fun G0 H0 G ρ σ H v x ρ' Q R r e q => ?_⟩
  cases x with
  | tuple xs =>
    have e' : Tg.puts ts xs ρ = some ρ' := by unfold Tg.put at e; exact e
    cases r with
    | @tup a vs _ h1 h2 =>
      refine ⟨a, vs, rfl, h1, ?_, kk G0 H0 G ρ σ H vs xs ρ' Q R h2 e' fun σ' R' s' => q σ' R' fun j hj => s' j (by
        have : j ∉ Tg.slots (.tp ts) := hj
        unfold Tg.slots at this
        exact this)⟩
      rw [h2.length, ← hl]
      -- as many as targets

      have : ∀ (ts : List Tg) (xs : List PyData) (ρ : SE), Tg.puts ts xs ρ = some ρ' → xs.length = ts.length := by
        intro ts
        induction ts with
        | nil =>
          intro xs ρ h
          cases xs with
          | nil => rfl
          | cons _ _ => unfold Tg.puts at h; cases h
        | cons t ts ih =>
          intro xs ρ h
          cases xs with
          | nil => unfold Tg.puts at h; cases h
          | cons x xs =>
            unfold Tg.puts at h
            split at h
            · rw [List.length_cons, List.length_cons, ih xs _ h]
            · cases h
      exact this ts xs ρ e'
  | none => unfold Tg.put at e; cases e
  | bool b => unfold Tg.put at e; cases e
  | int b => unfold Tg.put at e; cases e
  | str b => unfold Tg.put at e; cases e
  | list b => unfold Tg.put at e; cases e
  | dict b => unfold Tg.put at e; cases e
/-- t = e for such a target -/
def wUnp (t : Tg) (we : EW) : SW := fun ρ P E => we ρ (fun tv ρ1 => ∃ x ρ2, tv = .d x ∧ t.put x ρ1 = some ρ2 ∧ P.nx ρ2) E
theorem vs_unp {tg : Expr} {t : Tg} (hg : VG X tg t) (mk : ∀ g, PG X tg g → PS X st (tAsg (rdE X.K xk we) g)) : VS X xk st (wUnp t we) := by
  obtain ⟨g, hg, k⟩ := hg
  exact (mk g hg).imp fun D σ H ⟨G0, H0, G, ρ, P, Ev, S, R, xl, hw, l, sb, sg⟩ =>
    ⟨G0, H0, G, ρ, _, Ev, R, xl, hw, fun tv ρ1 G1 H1 v R1 E1 rt ⟨x, ρ2, e, ep, q⟩ => by
      subst e
      exact k G0 H0 G1 ρ1 σ H1 v x ρ2 _ R1 rt ep fun σ' R' _ => l.nx ρ2 G1 σ' H1 R' (sb _ _ _ _ (E1.keeps R) sg) q⟩
end
end VL
set_option Elab.async false
set_option linter.all false
set_option maxRecDepth 100000
/-! VL6: what loops walk, for, while, list comprehensions. -/
namespace VL
open PySem PySem.Spec PyProof.Rows L2

/-- an iterator goes through these items, whatever happens meanwhile -/
def ItOk (K : PySem.W.Frag) (F : Addr → Prop) (H : Hp) (J : It) (items : List PyData) : Prop := ∀ F' H', Keep K F H F' H' →
  (∀ i, i < items.length → J.go i H') ∧ (∀ i, items.length ≤ i → J.stop i H') ∧ (∀ i x H'', J.yld i H' x H'' → i < items.length → ∃ d, items[i]? = some d ∧ Grow H' H'' ∧ Rp K F' H'' x d)
abbrev IW := SE → (List PyData → SE → Prop) → QX → Prop
def rdI (K : PySem.W.Frag) (xk : XK) (w : IW) : TI := fun σ H Q => ∃ G0 H0 G ρ Qv Ev, Rep K G0 H0 G ρ σ H ∧ XL K G0 H0 Ev xk ∧ w ρ Qv Ev ∧
  ∀ items ρ' G' H' J, Rep K G0 H0 G' ρ' σ H' → Evo ρ σ G H ρ' G' H' → ItOk K G'.F H' J items → Qv items ρ' → Q J H'
def VI (X : Cx) (xk : XK) (tg iter : Expr) (w : IW) : Prop := PI X tg iter (rdI X.K xk w)
theorem _root_.L2.PI.imp {X : Cx} {tg e : Expr} {t t' : TI} (h : PI X tg e t) (k : ∀ σ H Q, t' σ H Q → t σ H Q) : PI X tg e t' := ⟨fun pins s σ H R I q => h.run pins s σ H R I (k _ _ _ q)⟩

section
variable {K : PySem.W.Frag} {F F' : Addr → Prop} {H H' : Hp}
theorem sqL_inj {a : Addr} {xs ys : List V} (h : SqL K H a xs) (hh : H a = some (.lst xs)) (h' : SqL K H a ys) (nk : ∀ o its n, K.lookup a = some o → o.data = .seq its n → False) : ys = xs := by
  rcases h' with (h' | ⟨o, h'⟩) | ⟨o, its, n, h1, _, _, h4, _⟩
  · rw [hh] at h'; cases h'; rfl
  · rw [hh] at h'; cases h'
  · exact (nk o its n h1 h4).elim
end

/-- the items of a list or a tuple at a: read anew at each turn; all readings agree -/
structure Items (K : PySem.W.Frag) (F : Addr → Prop) (H : Hp) (v : V) (xs : List PyData) : Prop where
  ex : ∃ a vs, v = .ref a ∧ RpAll K F H vs xs ∧ ((SqL K H a vs ∧ F a) ∨ SqT K H a vs)

section
variable {X : Cx} {xk : XK} {pos p : Pos} {e a b c tg : Expr} {es : List Expr} {st : Stmt} {rest ss : List Stmt} {we wa wb wc : EW} {wA : AW} {bA : BW} {w w1 w2 wS : SW} {wi : IW} {t : Tg}

/-! ### for -/
def wLoop (t : Tg) (wb : SW) : List PyData → SW
  | [], ρ, P, _ => P.nx ρ
  | x :: xs, ρ, P, E => ∃ ρ1, t.put x ρ = some ρ1 ∧ wb ρ1 { nx := fun ρ2 => wLoop t wb xs ρ2 P E, rt := P.rt, bk := P.nx, ct := fun ρ2 => wLoop t wb xs ρ2 P E } E
def wFor (t : Tg) (wi : IW) (wb : SW) : SW := fun ρ P E => wi ρ (fun items ρ1 => wLoop t wb items ρ1 P E) E
theorem vs_for (hg : VG X tg t) (mk : ∀ g, PG X tg g → PS X st (tFor (rdI X.K xk wi) g (rdS X.K xk wS))) : VS X xk st (wFor t wi wS) := by
  obtain ⟨g, hg, k⟩ := hg
  refine (mk g hg).imp fun D σ H ⟨G0, H0, G, ρ, P, Ev, S, R, xl, hw, l, sb, sg⟩ => ⟨G0, H0, G, ρ, _, Ev, R, xl, hw, fun items ρ1 G1 H1 J R1 E1 ok q => ?_⟩
  have s1 : S G1.F H1 := sb _ _ _ _ (E1.keeps R) sg
  refine ⟨fun i m σ' H' => i + m = items.length ∧ ∃ G' ρ', Rep X.K G0 H0 G' ρ' σ' H' ∧ Keep X.K G1.F H1 G'.F H' ∧ S G'.F H' ∧ wLoop t wS (items.drop i) ρ' P Ev, ⟨items.length, by omega, G1, ρ1, R1, .refl, s1, q⟩, ?_⟩
  rintro i m σ' H' ⟨hm, G', ρ', R', k', s', hq⟩
  obtain ⟨ok1, ok2, ok3⟩ := ok _ _ k'
  by_cases hi : i < items.length
  · refine .inr ⟨ok1 i hi, fun σ2 H2 => ∃ G2 ρ2, Rep X.K G0 H0 G2 ρ2 σ2 H2 ∧ Keep X.K G1.F H1 G2.F H2 ∧ S G2.F H2 ∧ wLoop t wS (items.drop (i + 1)) ρ2 P Ev, fun σ2 H2 ⟨G2, ρ2, R2, k2, s2, q2⟩ => ⟨m - 1, by omega, by omega, G2, ρ2, R2, k2, s2, q2⟩, fun x H'' y => ?_⟩
    obtain ⟨d, ed, gr, rp⟩ := ok3 i x H'' y hi
    have edrop : items.drop i = d :: items.drop (i + 1) := by
      rw [List.drop_eq_getElem_cons hi]
      congr 1
      have := List.getElem?_eq_getElem hi
      rw [ed] at this
      exact (Option.some.inj this).symm
    rw [edrop] at hq
    obtain ⟨ρ3, ep, hb⟩ := hq
    have R'' := R'.grow gr
    have k'' : Keep X.K G1.F H1 G'.F H'' := k'.trans gr.keep
    have s'' : S G'.F H'' := sb _ _ _ _ gr.keep s'
    refine k G0 H0 G' ρ' σ' H'' x d ρ3 _ R'' rp ep fun σ3 R3 _ => ?_
    refine ⟨G0, H0, G', ρ3, _, Ev, fun F H => Keep X.K G1.F H1 F H ∧ S F H, R3, xl, hb, ⟨fun ρ4 G4 σ4 H4 R4 ⟨k4, s4⟩ q4 => ⟨G4, ρ4, R4, k4, s4, q4⟩, l.rt, fun ρ4 G4 σ4 H4 R4 ⟨_, s4⟩ q4 => l.nx ρ4 G4 σ4 H4 R4 s4 q4, fun ρ4 G4 σ4 H4 R4 ⟨k4, s4⟩ q4 => ⟨G4, ρ4, R4, k4, s4, q4⟩⟩, fun F H F' H' kk ⟨z1, z2⟩ => ⟨z1.trans kk, sb _ _ _ _ kk z2⟩, k'', s''⟩
  · have hi' : items.length ≤ i := Nat.le_of_not_lt hi
    refine .inl ⟨ok2 i hi', ?_⟩
    rw [List.drop_eq_nil_of_le hi'] at hq
    exact l.nx ρ' G' σ' H' R' s' hq

/-! ### while -/
def wWhl (bA : BW) (wb : SW) : SW := fun ρ P E => ∃ W : Nat → SE → Prop, (∃ m, W m ρ) ∧ ∀ m ρ, W m ρ → bA ρ (fun c ρ1 => if c = true then wb ρ1 { nx := fun ρ2 => ∃ m', m' < m ∧ W m' ρ2, rt := P.rt, bk := P.nx, ct := fun ρ2 => ∃ m', m' < m ∧ W m' ρ2 } E else P.nx ρ1) E
theorem vs_while (h : PS X st (tWhile (rdB X.K xk bA) (rdS X.K xk wS))) : VS X xk st (wWhl bA wS) := by
  refine h.imp fun D σ H ⟨G0, H0, G, ρ, P, Ev, S, R, xl, hw, l, sb, sg⟩ => ?_
  obtain ⟨W, ⟨m0, h0⟩, hW⟩ := hw
  refine ⟨fun m σ H => ∃ G ρ, Rep X.K G0 H0 G ρ σ H ∧ S G.F H ∧ W m ρ, ⟨m0, G, ρ, R, sg, h0⟩, ?_⟩
  rintro m σ' H' ⟨G', ρ', R', s', hm⟩
  refine ⟨G0, H0, G', ρ', _, Ev, R', xl, hW m ρ' hm, fun c ρ1 G1 H1 R1 E1 q => ?_⟩
  have s1 : S G1.F H1 := sb _ _ _ _ (E1.keeps R') s'
  cases c with
  | true =>
    refine ⟨fun σ' H' => ∃ m', m' < m ∧ ∃ G ρ, Rep X.K G0 H0 G ρ σ' H' ∧ S G.F H' ∧ W m' ρ, fun _ _ z => z, ?_⟩
    exact ⟨G0, H0, G1, ρ1, _, Ev, S, R1, xl, q, ⟨fun ρ2 G2 σ2 H2 R2 s2 ⟨m', h1, h2⟩ => ⟨m', h1, G2, ρ2, R2, s2, h2⟩, l.rt, l.nx, fun ρ2 G2 σ2 H2 R2 s2 ⟨m', h1, h2⟩ => ⟨m', h1, G2, ρ2, R2, s2, h2⟩⟩, sb, s1⟩
  | false => exact l.nx ρ1 G1 σ' H1 R1 s1 q
end
end VL
set_option Elab.async false
set_option linter.all false
set_option maxRecDepth 100000
/-! VL7: lists, tuples, ranges, enumerate walked; list comprehensions. -/
namespace VL
open PySem PySem.Spec PyProof.Rows L2

section
variable {K : PySem.W.Frag} {F F' : Addr → Prop} {H H' : Hp}
theorem it_list {a : Addr} {vs : List V} {xs : List PyData} (f : F a) (h : H a = some (.lst vs)) (r : RpAll K F H vs xs) : ItOk K F H (Itl K a) xs := fun F' H' k => by
  have h' : SqL K H' a vs := .inl (.inl (k.l _ _ f h))
  have r' := r.keep k
  refine ⟨fun i hi => ⟨vs, vs[i]'(by rw [r.length]; exact hi), h', List.getElem?_eq_getElem _⟩, fun i hi => ⟨vs, h', by rw [r.length]; exact hi⟩, fun i x H'' y hi => ?_⟩
  obtain ⟨rfl, y⟩ := y
  obtain ⟨d, e1, e2⟩ := r'.get (y vs h')
  exact ⟨d, e1, .refl, e2⟩
theorem it_tup {a : Addr} {vs : List V} {xs : List PyData} (h : SqT K H a vs) (r : RpAll K F H vs xs) : ItOk K F H (Itt K a) xs := fun F' H' k => by
  have h' := k.t _ _ h
  have r' := r.keep k
  refine ⟨fun i hi => ⟨vs, vs[i]'(by rw [r.length]; exact hi), h', List.getElem?_eq_getElem _⟩, fun i hi => ⟨vs, h', by rw [r.length]; exact hi⟩, fun i x H'' y hi => ?_⟩
  obtain ⟨rfl, y⟩ := y
  obtain ⟨d, e1, e2⟩ := r'.get (y vs h')
  exact ⟨d, e1, .refl, e2⟩
def rngD (lo : Int) (n : Nat) : List PyData := (List.range n).map fun i => .int (lo + (i : Nat))
theorem it_rng {lo : Int} {n : Nat} : ItOk K F H (Itr lo n) (rngD lo n) := fun F' H' k => by
  have hl : (rngD lo n).length = n := by simp [rngD]
  refine ⟨fun i hi => by rw [hl] at hi; exact hi, fun i hi => by rw [hl] at hi; exact hi, fun i x H'' y hi => ?_⟩
  obtain ⟨rfl, rfl⟩ := y
  rw [hl] at hi
  exact ⟨.int (lo + (i : Nat)), by simp [rngD, hi], .refl, .int _⟩
/-- pairs (i, x) -/
def enumD : Nat → List PyData → List PyData
  | _, [] => []
  | i, x :: xs => .tuple [.int (i : Nat), x] :: enumD (i + 1) xs
theorem enumD_len : ∀ (i : Nat) (xs : List PyData), (enumD i xs).length = xs.length
  | _, [] => rfl
  | i, x :: xs => by simp [enumD, enumD_len (i + 1) xs]
theorem enumD_get : ∀ (j i : Nat) (xs : List PyData) (x : PyData), xs[i]? = some x → (enumD j xs)[i]? = some (.tuple [.int ((j + i : Nat) : Int), x])
  | _, _, [], _, h => by simp at h
  | j, 0, y :: ys, x, h => by
    simp at h
    subst h
    simp [enumD]
  | j, i + 1, y :: ys, x, h => by
    have := enumD_get (j + 1) i ys x (by simpa using h)
    rw [show j + (i + 1) = j + 1 + i by omega]
    simpa [enumD] using this
theorem it_enum {a : Addr} {vs : List V} {xs : List PyData} (f : F a) (h : H a = some (.lst vs)) (r : RpAll K F H vs xs) : ItOk K F H (Ite K a) (enumD 0 xs) := fun F' H' k => by
  have h' : SqL K H' a vs := .inl (.inl (k.l _ _ f h))
  have r' := r.keep k
  rw [enumD_len]
  refine ⟨fun i hi => ⟨vs, vs[i]'(by rw [r.length]; exact hi), h', List.getElem?_eq_getElem _⟩, fun i hi => ⟨vs, h', by rw [r.length]; exact hi⟩, fun i x H'' y hi => ?_⟩
  obtain ⟨T, u, rfl, hn, rfl, y⟩ := y
  obtain ⟨d, e1, e2⟩ := r'.get (y vs h')
  have g : Grow H' (upd H' T (.tup [.int (i : Nat), u])) := .upd hn
  refine ⟨_, enumD_get 0 i xs d e1, g, .tup (.inl (.inl upd_same)) (.cons ?_ (.cons (e2.keep g.keep) .nil))⟩
  rw [Nat.zero_add]
  exact .int _
end

/-! ### a tuple, numbered -/
def IteT (K : PySem.W.Frag) (a : Addr) : It :=
  ⟨fun i H => ∃ (xs : List V) (x : V), SqT K H a xs ∧ xs[i]? = some x, fun i H v H' => ∃ T x, v = .ref T ∧ H T = none ∧ H' = upd H T (.tup [.int (i : Nat), x]) ∧ ∀ xs, SqT K H a xs → xs[i]? = some x, fun i H => ∃ xs : List V, SqT K H a xs ∧ xs.length ≤ i⟩
theorem it_enumT {K : PySem.W.Frag} {F : Addr → Prop} {H : Hp} {a : Addr} {vs : List V} {xs : List PyData} (h : SqT K H a vs) (r : RpAll K F H vs xs) : ItOk K F H (IteT K a) (enumD 0 xs) := fun F' H' k => by
  have h' := k.t _ _ h
  have r' := r.keep k
  rw [enumD_len]
  refine ⟨fun i hi => ⟨vs, vs[i]'(by rw [r.length]; exact hi), h', List.getElem?_eq_getElem _⟩, fun i hi => ⟨vs, h', by rw [r.length]; exact hi⟩, fun i x H'' y hi => ?_⟩
  obtain ⟨T, u, rfl, hn, rfl, y⟩ := y
  obtain ⟨d, e1, e2⟩ := r'.get (y vs h')
  have g : Grow H' (upd H' T (.tup [.int (i : Nat), u])) := .upd hn
  refine ⟨_, enumD_get 0 i xs d e1, g, .tup (.inl (.inl upd_same)) (.cons ?_ (.cons (e2.keep g.keep) .nil))⟩
  rw [Nat.zero_add]
  exact .int _

section
variable {X : Cx} {xk : XK} {pos p : Pos} {e a b c tg l : Expr} {es : List Expr} {we wa wb wc : EW} {wA : AW}
/-- a list or a tuple is walked -/
def wIt (we : EW) : IW := fun ρ Q E => we ρ (fun tv ρ1 => ∃ x ρ2 xs, frz ρ1 tv = some (x, ρ2) ∧ (x = .list xs ∨ x = .tuple xs) ∧ Q xs ρ2) E
def iSeq (K : PySem.W.Frag) (tl : TE) : TI := fun σ H R => tl σ H fun x H1 => ∃ a, x = .ref a ∧ (((∃ xs, SqL K H1 a xs) ∧ R (Itl K a) H1) ∨ ((∃ xs, SqT K H1 a xs) ∧ R (Itt K a) H1))
theorem pi_seq {tl : TE} (hl : PE X l tl) : PI X tg l (iSeq X.K tl) := by
  refine ⟨fun pins s σ H R I h => ?_⟩
  refine thn (hl.run pins s σ H _ I h) fun v s1 ⟨x, H1, I1, r1, q1⟩ => ?_
  obtain ⟨a, e, q1⟩ := q1
  subst e
  cases r1
  rcases q1 with ⟨⟨xs, hq⟩, q⟩ | ⟨⟨xs, hq⟩, q⟩
  · obtain ⟨its, rv, p, hz⟩ := I1.list hq
    refine wpAny_pyIter_list p.isList ?_
    refine ⟨s1.heap.objs.size, [s1.heap.objs.size], _, _, H1, rfl, I1.kept (t' := s1.toks) fun b o e => Heap.get?_push_of_some _ e, turn_list a _, ⟨_, Heap.get?_push_size _ rfl, rfl, rfl⟩, fun b hb => ?_, q⟩
    have e : b = s1.heap.objs.size := by simpa using hb
    subst e
    exact I1.fpOk (Nat.le_refl _) (I1.hok.fresh (Nat.le_refl _))
  · obtain ⟨its, rv, p, hz⟩ := I1.tuple hq
    refine wpAny_pyIter_tuple (show s1.heap.IsTuple a its.toArray from p) ?_
    refine ⟨s1.heap.objs.size, [s1.heap.objs.size], _, _, H1, rfl, I1.kept (t' := s1.toks) fun b o e => Heap.get?_push_of_some _ e, turn_tuple a _, ⟨_, Heap.get?_push_size _ rfl, rfl, rfl⟩, fun b hb => ?_, q⟩
    have e : b = s1.heap.objs.size := by simpa using hb
    subst e
    exact I1.fpOk (Nat.le_refl _) (I1.hok.fresh (Nat.le_refl _))
theorem vi_seq (h : VE X xk l we) : VI X xk tg l (wIt we) := (pi_seq h).imp fun σ H Q ⟨G0, H0, G, ρ, Qv, Ev, R, xl, hw, q⟩ => ⟨G0, H0, G, ρ, _, Ev, R, xl, hw, fun tv ρ1 G1 H1 v R1 E1 rt ⟨x, ρ2, xs, ef, ex, q1⟩ => by
  obtain ⟨G2, f⟩ := frz_ok R1 (fun a h => R.ext.none0 h) rt ef
  have is := f.is
  rcases ex with rfl | rfl
  · cases is with
    | lst g h r => exact ⟨_, rfl, .inl ⟨⟨_, .inl (.inl h)⟩, q xs ρ2 G2 H1 _ f.rep (f.evo E1) (it_list g h r) q1⟩⟩
  · cases is with
    | tup h r => exact ⟨_, rfl, .inr ⟨⟨_, h⟩, q xs ρ2 G2 H1 _ f.rep (f.evo E1) (it_tup h r) q1⟩⟩⟩
def wRg1 (wA : AW) : IW := fun ρ Q E => wA ρ (fun tvs ρ1 => ∃ j : Int, resAll ρ1 tvs = some [.int j] ∧ -(2 ^ 62) ≤ j ∧ j < 2 ^ 62 ∧ Q (rngD 0 j.toNat) ρ1) E
def wRg2 (wA : AW) : IW := fun ρ Q E => wA ρ (fun tvs ρ1 => ∃ i j : Int, resAll ρ1 tvs = some [.int i, .int j] ∧ (-(2 ^ 62) ≤ i ∧ i < 2 ^ 62 ∧ -(2 ^ 62) ≤ j ∧ j < 2 ^ 62) ∧ Q (rngD i (j - i).toNat) ρ1) E
theorem vi_rng1 (h : PI X tg e (iRng1 (rdA X.K xk wA))) : VI X xk tg e (wRg1 wA) := h.imp fun σ H Q ⟨G0, H0, G, ρ, Qv, Ev, R, xl, hw, q⟩ => ⟨G0, H0, G, ρ, _, Ev, R, xl, hw, fun tvs ρ1 G1 H1 vs R1 E1 rts ⟨j, er, h1, h2, q1⟩ => by
  cases resAll_ok R1 rts er with
  | cons r t =>
    cases t
    cases r.int
    exact ⟨j, rfl, h1, h2, q _ ρ1 G1 H1 _ R1 E1 it_rng q1⟩⟩
theorem vi_rng2 (h : PI X tg e (iRng2 (rdA X.K xk wA))) : VI X xk tg e (wRg2 wA) := h.imp fun σ H Q ⟨G0, H0, G, ρ, Qv, Ev, R, xl, hw, q⟩ => ⟨G0, H0, G, ρ, _, Ev, R, xl, hw, fun tvs ρ1 G1 H1 vs R1 E1 rts ⟨i, j, er, hb, q1⟩ => by
  cases resAll_ok R1 rts er with
  | cons r t =>
    cases t with
    | cons r' t' =>
      cases t'
      cases r.int
      cases r'.int
      exact ⟨i, j, rfl, hb, q _ ρ1 G1 H1 _ R1 E1 it_rng q1⟩⟩
/-- enumerate -/
def wEnu (we : EW) : IW := fun ρ Q E => we ρ (fun tv ρ1 => ∃ x ρ2 xs, frz ρ1 tv = some (x, ρ2) ∧ (x = .list xs ∨ x = .tuple xs) ∧ Q (enumD 0 xs) ρ2) E
def iEnuA (K : PySem.W.Frag) (te : TE) : TI := fun σ H R => te σ H fun x H1 => ∃ a, x = .ref a ∧ (((∃ xs, SqL K H1 a xs) ∧ R (Ite K a) H1) ∨ ((∃ xs, SqT K H1 a xs) ∧ R (IteT K a) H1))
theorem vi_enu (h : PI X tg e (iEnuA X.K (rdE X.K xk we))) : VI X xk tg e (wEnu we) := h.imp fun σ H Q ⟨G0, H0, G, ρ, Qv, Ev, R, xl, hw, q⟩ => ⟨G0, H0, G, ρ, _, Ev, R, xl, hw, fun tv ρ1 G1 H1 v R1 E1 rt ⟨x, ρ2, xs, ef, ex, q1⟩ => by
  obtain ⟨G2, f⟩ := frz_ok R1 (fun a h => R.ext.none0 h) rt ef
  have is := f.is
  rcases ex with rfl | rfl
  · cases is with
    | lst g h r => exact ⟨_, rfl, .inl ⟨⟨_, .inl (.inl h)⟩, q _ ρ2 G2 H1 _ f.rep (f.evo E1) (it_enum g h r) q1⟩⟩
  · cases is with
    | tup h r => exact ⟨_, rfl, .inr ⟨⟨_, h⟩, q _ ρ2 G2 H1 _ f.rep (f.evo E1) (it_enumT h r) q1⟩⟩⟩
end
set_option maxHeartbeats 1000000 in
theorem meets_enu1 {v : Value} {o : Obj} {H : Heap → Prop} (B : Begins v o H) :
    Meets (Builtin.«enumerate.__new__» ⟨[.type "enumerate", v], []⟩) (fun _ R s => H s.heap ∧
      R (.ok (.ret (.ref (s.heap.push o).objs.size))) { s with heap := (s.heap.push o).push { cls := .type "enumerate", data := .fields #[.none, .bool false, .ref s.heap.objs.size, rawInt 0, .none, .none] } }) :=
  .of_wp fun prog w A R s h => by
    obtain ⟨hp, g, d, tk, os⟩ := s; obtain ⟨h1, h⟩ := h
    have hsub := sub_enumerate
    have q1 : ∀ {A' : Around} {E : Value → Shared → Prop} {Q : Value → Shared → Prop}, Q (.ref hp.objs.size) ⟨hp.push o, g, d, tk, os⟩ → wpAny (model prog w) A' (pyIter v) Q E ⟨hp, g, d, tk, os⟩ :=
      fun q => B.iter prog w _ _ ⟨hp, g, d, tk, os⟩ _ h1 q
    wp_walk using q1
    refine wpAny_stack_any fun st => wpAny_pure ?_
    split
    · rename_i c _ _ _ _ _
      cases (c == Value.type "enumerate")
      · wp_walk using q1
        exact ⟨_, rfl, h⟩
      · wp_walk using q1
        exact ⟨_, rfl, h⟩
    · wp_walk using q1
      exact ⟨_, rfl, h⟩
section
variable {prog : Program} {w : World} {A : Around} {E : Value → Shared → Prop} {s : Shared}
theorem call_enuB {v : Value} {o : Obj} {H : Heap → Prop} {Q : Value → Shared → Prop} (B : Begins v o H) (h1 : H s.heap)
    (h : ∀ h', IsEnum h' (s.heap.objs.size + 1) s.heap.objs.size 0 .none → h'.get? s.heap.objs.size = some o → h'.objs.size = s.heap.objs.size + 2 →
      (∀ b o, s.heap.get? b = some o → h'.get? b = some o) → Q (.ref (s.heap.objs.size + 1)) { s with heap := h' }) :
    wpAny (model prog w) A (call (.type "enumerate") [v]) Q E s := by
  refine callType_new F.called_enumerate (by decide) (F.typeCall_enumerate_1 _) (F.newCall_enumerate_1 _) (fun obj => F.args_object_init_2 obj _) F.entry_enumerate_new
    (meets_enu1 B) ⟨h1, ?_⟩
  have hz : (s.heap.push o).objs.size = s.heap.objs.size + 1 := Heap.size_push ..
  show _ ∧ _
  rw [hz]
  have he : IsEnum ((s.heap.push o).push { cls := .type "enumerate", data := .fields #[.none, .bool false, .ref s.heap.objs.size, rawInt 0, .none, .none] }) (s.heap.objs.size + 1) s.heap.objs.size 0 .none := by
    have := Heap.get?_push_size (s.heap.push o) (o := { cls := .type "enumerate", data := .fields #[.none, .bool false, .ref s.heap.objs.size, rawInt 0, .none, .none] }) rfl
    rw [hz] at this; exact this
  refine ⟨⟨_, he, rfl⟩, h _ he (Heap.get?_push_of_some _ (Heap.get?_push_size _ B.free)) (by rw [Heap.size_push, hz]) fun b o x => Heap.get?_push_of_some _ (Heap.get?_push_of_some _ x)⟩
end
theorem enum_endT {prog : Program} {w : World} {A : Around} {E : Value → Shared → Prop} {s : Shared} {e it a : Addr} {k : Int} {i : Nat} {items : Array Value} {old : Value} {Q : Option Value → Shared → Prop} (hh : A.handled = none)
    (he : IsEnum s.heap e it k old) (hit : s.heap.IsTupleIter it a i) (ht : s.heap.IsTuple a items) (hx : items[i]? = none)
    (hQ : ∀ h', Heap.ExtBut it s.heap h' → Q none { s with heap := h' }) : wpAny (model prog w) A (pyNext (.ref e)) Q E s := by
  have hT : s.TypeIs (.ref e) "enumerate" := ⟨_, he, rfl⟩
  unfold pyNext
  refine wpAny_bind (wpAny_attempt (wpAny_callSpecial?_slot (name := Str.ofString "__next__") hT F.slot_enumerate_next
    (wpAny_call_entry F.slot_enumerate_next hT F.entry_enumerate_next ?_ (F.args_enumerate_next_1 _))))
  show wpAny _ _ (field (.ref e) 2 >>= _) _ _ _
  refine wpAny_bind (wpAny_field he rfl (x := .ref it) rfl ?_)
  refine wpAny_bind (wpAny_nextOf_tuple_end (A := A.in1) hh hit ht hx fun h' x he' hx' => ?_)
  obtain ⟨o, ho, hc⟩ := hx'
  refine wpAny_bind (wpAny_isInstance (T := "StopIteration") (b := true) ⟨o, ho, hc⟩ isSubtype_stop ?_)
  exact wpAny_pure (hQ _ he')
theorem turn_enumT {P : Program} {w : World} {K : PySem.W.Frag} {elts : List Expr} {kk : Nat} {tpos : Pos} (a e it : Addr) :
    Turn P w K (.Tuple elts kk tpos) (IteT K a) [e, it] e (fun i h => (∃ old, IsEnum h e it ((i : Nat) : Int) old) ∧ h.IsTupleIter it a i ∧ e ≠ it ∧ a ≠ it ∧ e ≠ a) where
  mem := by simp
  obj := fun i h st b hb => by
    obtain ⟨⟨old, he⟩, ⟨o, ho, hc, hd⟩, _⟩ := st
    have e' : b = e ∨ b = it := by simpa using hb
    rcases e' with z | z
    · rw [z]; exact ⟨_, he, fun v q => nomatch q⟩
    · rw [z]; exact ⟨o, ho, fun v q => by rw [hd] at q; cases q⟩
  keep := fun i h h' st k => let ⟨⟨old, he⟩, hi, hne⟩ := st; ⟨⟨old, k e (by simp) _ he⟩, hi.at fun o q => k it (by simp) o q, hne⟩
  item := by
    intro X hP hw hK hc i pins s σ H E I hf st hg
    subst hP hw hK
    obtain ⟨⟨old, he⟩, hit, hne, hna, hea⟩ := st
    obtain ⟨xs, x, hq, hx⟩ := hg
    obtain ⟨its, rv, p, hz⟩ := I.tuple hq
    obtain ⟨u, hu, ru⟩ := rv.get hx
    have hel : e < s.heap.objs.size := Heap.lt_size he
    have hil : it < s.heap.objs.size := by obtain ⟨_, q, _⟩ := hit; exact Heap.lt_size q
    have hi : i < its.toArray.size := by
      have := (List.getElem?_eq_some_iff.mp hu).1
      simpa using this
    have D := Draws.tuple (prog := X.prog) (w := X.w) (A := X.A.in1) (I.ok.hd hc) it a hna its.toArray
    refine wpAny_pyNext_enum_itemD D he ⟨hit, show s.heap.IsTuple a its.toArray from p⟩ hi hne (by simp [hne, hea]) fun x' h' tk hx' ho hit' hT hsz hk => ?_
    have ex : x' = u := by
      have : its.toArray[i]? = some u := by simpa using hu
      rw [this] at hx'
      exact (Option.some.inj hx').symm
    subst ex
    refine ⟨_, rfl, wpAny_letOwnedTupleGo_enum (s := { s with heap := h', toks := tk + 1 }) ho fun h'' he' sb => ?_⟩
    have hT2 : h''.get? s.heap.objs.size = some { cls := .type "tuple", data := .seq #[.int i tk, x'] } := (sb.2 _ (Nat.ne_of_gt hel)).trans hT
    have new : ObjOk X.prog X.w (upd H s.heap.objs.size (.tup [.int (i : Nat), x])) h'' s.heap.objs.size (.tup [.int (i : Nat), x]) :=
      ⟨by show 2 ≤ sizeLine; decide, [.int i tk, x'], .cons ⟨_, rfl⟩ (.cons ru .nil), ⟨_, hT2, rfl, _, rfl⟩⟩
    have I1 : Inv X pins σ (upd H s.heap.objs.size (.tup [.int (i : Nat), x])) { s with heap := h'', toks := tk + 1 } :=
      I.turnedNew (ch := [e, it]) (fun b ob hb q => (sb.2 b (fun z => hb (by simp [z]))).trans (hk b ob (fun z => hb (by simp [z])) (fun z => hb (by simp [z])) q)) hf (Nat.le_refl _) new
    refine ⟨.ref s.heap.objs.size, _, I1, rfl, ⟨_, x, rfl, I.hok.fresh (Nat.le_refl _), rfl, fun ys hy => by rw [I.tuple_inj hy hq]; exact hx⟩, ⟨⟨x', ?_⟩, hit'.1.at fun o q => (sb.2 it (Ne.symm hne)).trans q, hne, hna, hea⟩, fun b hb => ?_⟩
    · have e1 : ((i + 1 : Nat) : Int) = (i : Int) + 1 := by omega
      rw [e1]; exact he'
    · have hb' : b < s.heap.objs.size := by
        have e' : b = e ∨ b = it := by simpa using hb
        rcases e' with z | z
        · rw [z]; exact hel
        · rw [z]; exact hil
      rw [upd_ne (Nat.ne_of_lt hb')]
      exact (hf b hb).1
  done := by
    intro X hP hw hK hc i pins s σ H E I hf st hg
    subst hP hw hK
    obtain ⟨⟨old, he⟩, hit, hne, hna, hea⟩ := st
    obtain ⟨xs, hq, hx⟩ := hg
    obtain ⟨its, rv, p, hz⟩ := I.tuple hq
    obtain ⟨f0, f1, f2, f3, f4, f5⟩ := hf it (by simp)
    have hl := rv.length
    exact enum_endT (I.ok.hd hc) he hit (show s.heap.IsTuple a its.toArray from p) (by simp; omega) fun h' eb => ⟨rfl, I.turned (t' := s.toks) (fun b o hb q => eb b o hb q) f0 f1 f3 f4 f5⟩
  self := fun A i s Q E st h => let ⟨⟨_, he⟩, _⟩ := st; wpAny_pyIter_enum he h
section
variable {X : Cx} {pos p tpos : Pos} {e : Expr} {te : TE} {elts : List Expr} {kk : Nat}
theorem pi_enuA (hg : Gl X "enumerate") (hm : X.mg "enumerate" = none) (ha : PE X e te) (hs : starEach [e] X.env = (false, eval e X.env) :: starEach [] X.env := by rfl) (hs2 : starEach [e] X.env = [(false, eval e X.env)] := by rfl) :
    PI X (.Tuple elts kk tpos) (.Call (.Name "enumerate" p) [e] [] pos) (iEnuA X.K te) := by
  refine ⟨fun pins s σ H R I h => ?_⟩
  refine Call_ (ld_blt I hg hm boot_enumerate (PyProof.Rows.callWith_type1 (thn ((pa_cons ha pa_nil hs).run pos pins s σ H (fun vs H1 => match vs with
    | [x] => ∃ a, x = .ref a ∧ (((∃ xs, SqL X.K H1 a xs) ∧ R (Ite X.K a) H1) ∨ ((∃ xs, SqT X.K H1 a xs) ∧ R (IteT X.K a) H1))
    | _ => False) I h) fun us s1 ⟨vs, H1, I1, r1, q1⟩ => ?_) hs2 rfl))
  match vs, r1, q1 with
  | [x], r1, ⟨a, ex, q1⟩ =>
    subst ex
    cases r1 with
    | cons r rr =>
      cases rr
      cases r
      rcases q1 with ⟨⟨xs, hq⟩, q⟩ | ⟨⟨xs, hq⟩, q⟩
      · obtain ⟨its, rv, p', hz⟩ := I1.list hq
        refine call_enumerate_list p'.isList fun h' he hit hsz hk => wpAny_pyIter_enum he ?_
        have I2 : Inv X pins σ H1 { s1 with heap := h' } := I1.kept (t' := s1.toks) hk
        refine ⟨s1.heap.objs.size + 1, [s1.heap.objs.size + 1, s1.heap.objs.size], _, _, H1, rfl, I2, turn_enum a (s1.heap.objs.size + 1) s1.heap.objs.size, ⟨⟨.none, he⟩, hit, Nat.succ_ne_self _⟩, fun b hb => ?_, q⟩
        have e' : b = s1.heap.objs.size + 1 ∨ b = s1.heap.objs.size := by simpa using hb
        have hle : s1.heap.objs.size ≤ b := by
          rcases e' with z | z
          · rw [z]; exact Nat.le_add_right _ _
          · rw [z]; exact Nat.le_refl _
        exact I1.fpOk hle (I1.hok.fresh hle)
      · obtain ⟨its, rv, p', hz⟩ := I1.tuple hq
        refine call_enuB (begins_tuple a its.toArray) (show s1.heap.IsTuple a its.toArray from p') fun h' he hit hsz hk => wpAny_pyIter_enum he ?_
        have I2 : Inv X pins σ H1 { s1 with heap := h' } := I1.kept (t' := s1.toks) hk
        have ha : a < s1.heap.objs.size := p'.lt
        refine ⟨s1.heap.objs.size + 1, [s1.heap.objs.size + 1, s1.heap.objs.size], _, _, H1, rfl, I2, turn_enumT a (s1.heap.objs.size + 1) s1.heap.objs.size, ⟨⟨.none, he⟩, ⟨_, hit, rfl, rfl⟩, Nat.succ_ne_self _, Nat.ne_of_lt ha, Nat.ne_of_gt (Nat.lt_succ_of_lt ha)⟩, fun b hb => ?_, q⟩
        have e' : b = s1.heap.objs.size + 1 ∨ b = s1.heap.objs.size := by simpa using hb
        have hle : s1.heap.objs.size ≤ b := by
          rcases e' with z | z
          · rw [z]; exact Nat.le_add_right _ _
          · rw [z]; exact Nat.le_refl _
        exact I1.fpOk hle (I1.hok.fresh hle)
end
end VL
set_option Elab.async false
set_option linter.all false
set_option maxRecDepth 100000
/-! VL8: list comprehensions. -/
namespace VL
open PySem PySem.Spec PyProof.Rows L2

/-- the comprehension's own slots forgotten -/
def wipeS (ρ : SE) : List Nat → SE
  | [] => ρ
  | v :: vs => (wipeS ρ vs).set v none
theorem wipeS_len (ρ : SE) : ∀ vs : List Nat, (wipeS ρ vs).length = ρ.length
  | [] => rfl
  | v :: vs => by unfold wipeS; rw [List.length_set, wipeS_len ρ vs]
theorem wipeS_out {ρ : SE} {i : Nat} : ∀ {vs : List Nat}, i ∉ vs → (wipeS ρ vs)[i]? = ρ[i]?
  | [], _ => rfl
  | v :: vs, h => by
    rw [List.mem_cons, not_or] at h
    unfold wipeS
    rw [List.getElem?_set_ne (Ne.symm h.1), wipeS_out h.2]
theorem wipeS_in {ρ : SE} {i : Nat} {sv : SV} : ∀ {vs : List Nat}, (wipeS ρ vs)[i]? = some (some sv) → i ∉ vs
  | [], _, z => nomatch z
  | v :: vs, h, z => by
    unfold wipeS at h
    by_cases hv : v = i
    · subst hv
      by_cases hl : v < (wipeS ρ vs).length
      · rw [List.getElem?_set_self hl] at h; cases h
      · rw [List.getElem?_eq_none (by rw [List.length_set]; omega)] at h; cases h
    · rw [List.getElem?_set_ne hv] at h
      rcases List.mem_cons.mp z with q | q
      · exact hv q.symm
      · exact wipeS_in h q
theorem wipe_outH {σ : St} {i : Nat} : ∀ {vs : List Nat}, i ∉ vs → (wipe σ vs)[i]? = σ[i]?
  | [], _ => rfl
  | v :: vs, h => by
    rw [List.mem_cons, not_or] at h
    unfold wipe
    rw [List.getElem?_set_ne (Ne.symm h.1), wipe_outH h.2]
theorem wipe_none {σ : St} {i : Nat} : ∀ {vs : List Nat}, i ∈ vs → i < σ.length → (wipe σ vs)[i]? = some none
  | [], h, _ => nomatch h
  | v :: vs, h, hl => by
    unfold wipe
    by_cases hv : v = i
    · subst hv
      rw [List.getElem?_set_self (by rw [wipe_length]; exact hl)]
    · rw [List.getElem?_set_ne hv]
      rcases List.mem_cons.mp h with q | q
      · exact absurd q.symm hv
      · exact wipe_none q hl
theorem wipe_eq {σ σ' : St} {vs : List Nat} (hl : σ'.length = σ.length) (h : ∀ j, j ∉ vs → σ'[j]? = σ[j]?) : wipe σ' vs = wipe σ vs := by
  refine List.ext_getElem? fun i => ?_
  by_cases hi : i ∈ vs
  · by_cases hk : i < σ.length
    · rw [wipe_none hi hk, wipe_none hi (by rw [hl]; exact hk)]
    · rw [List.getElem?_eq_none (by rw [wipe_length]; omega), List.getElem?_eq_none (by rw [wipe_length]; omega)]
  · rw [wipe_outH hi, wipe_outH hi, h i hi]

section
variable {K : PySem.W.Frag} {G0 G G' : Gh} {H0 H H' : Hp} {ρ ρ' ρw : SE} {σ σ' σw : St} {vs : List Nat}
theorem Rep.wipe (R : Rep K G0 H0 G ρ σ H) : Rep K G0 H0 G (wipeS ρ vs) (wipe σ vs) H where
  ext := R.ext
  len := by rw [wipeS_len, wipe_length]; exact R.len
  slot := fun i sv e => by
    have hi := wipeS_in e
    rw [wipeS_out hi] at e
    rw [wipe_outH hi]
    exact R.slot i sv e
  inj := fun i j xs ys a q1 q2 q3 q4 => by
    have hi := wipeS_in q1
    have hj := wipeS_in q2
    rw [wipeS_out hi] at q1
    rw [wipeS_out hj] at q2
    rw [wipe_outH hi] at q3
    rw [wipe_outH hj] at q4
    exact R.inj i j xs ys a q1 q2 q3 q4
  new := fun a ⟨i, xs, q1, q2⟩ => by
    have hi := wipeS_in q1
    rw [wipeS_out hi] at q1
    rw [wipe_outH hi] at q2
    exact R.new a ⟨i, xs, q1, q2⟩
/-- what a block sees of the slots around -/
structure Blk (ρ : SE) (σ : St) (vs : List Nat) (ρw : SE) (σw : St) : Prop where
  ρo : ∀ j, j ∉ vs → ρw[j]? = ρ[j]?
  σo : ∀ j, j ∉ vs → σw[j]? = σ[j]?
  no : ∀ j xs, j ∈ vs → ρw[j]? ≠ some (some (SV.own xs))
theorem Blk.own (b : Blk ρ σ vs ρw σw) {a : Addr} (h : Own ρw σw a) : Own ρ σ a := by
  obtain ⟨i, xs, q1, q2⟩ := h
  have hi : i ∉ vs := fun z => b.no i xs z q1
  exact ⟨i, xs, by rw [← b.ρo i hi]; exact q1, by rw [← b.σo i hi]; exact q2⟩
/-- behind a block's step: the slots around are what they were -/
theorem Rep.back (R : Rep K G0 H0 G ρ σ H) (b : Blk ρ σ vs ρw σw) (Rw : Rep K G0 H0 G ρw σw H) (E : Evo ρw σw G H ρw G' H') (R' : Rep K G0 H0 G' ρw σw H') : Rep K G0 H0 G' ρ σ H' ∧ Evo ρ σ G H ρ G' H' := by
  have k : Keep K G.F H G'.F H' := E.keeps Rw
  refine ⟨⟨R'.ext, R.len, fun i sv e => ?_, R.inj, R.new⟩, ⟨fun a o h n d => E.keep a o h (fun z => n (b.own z)) d, E.there, E.fsub, fun a f => (E.fnew a f).elim .inl fun z => z.elim (fun z => .inr (.inl (b.own z))) fun z => .inr (.inr z), E.dsub, E.dnew, fun _ h => h, rfl⟩⟩
  by_cases hi : i ∈ vs
  · obtain ⟨v, e1, r⟩ := R.slot i sv e
    refine ⟨v, e1, ?_⟩
    cases sv with
    | d x => exact Rp.keep k r
    | own xs =>
      obtain ⟨a, ws, rfl, h1, h2, h3, h4⟩ := r
      have no : ¬ Own ρw σw a := fun ⟨j, ys, q1, q2⟩ => by
        have hj : j ∉ vs := fun z => b.no j ys z q1
        rw [b.ρo j hj] at q1
        rw [b.σo j hj] at q2
        have := R.inj i j xs ys a e q1 e1 q2
        exact hj (this ▸ hi)
      refine ⟨a, ws, rfl, E.keep a _ h1 no h4, h2.keep k, fun z => ?_, ?_⟩
      · rcases E.fnew a z with q | q | q
        · exact h3 q
        · exact no q
        · rw [h1] at q; cases q
      · by_cases z : G'.D a = 0
        · exact z
        · rcases E.dnew a z with q | q
          · exact absurd h4 q
          · rw [h1] at q; cases q
    | deal k =>
      obtain ⟨a, rfl, h1, hk⟩ := r
      exact ⟨a, rfl, by rw [E.dsub a (by omega), h1], hk⟩
    | obj C fs =>
      obtain ⟨a, dx, ws, rfl, h1, h2⟩ := r
      have no : ¬ Own ρw σw a := fun z => by
        obtain ⟨ls, q, _⟩ := Rw.own_some z
        rw [h1] at q
        cases q
      exact ⟨a, dx, ws, rfl, E.keep a _ h1 no (R.ext.di.notup h1 fun _ z => nomatch z), h2.keep k⟩
    | scr ns =>
      obtain ⟨a, ea, h⟩ := r
      refine ⟨a, ea, h.mono fun o xs h1 => E.keep a _ h1 (fun z => ?_) (R.ext.di.notup h1 fun _ z => nomatch z)⟩
      obtain ⟨ls, q, _⟩ := Rw.own_some z
      rw [h1] at q
      cases q
    | me b => exact r
    | exc a d fs =>
      obtain ⟨ev, ws, h1, h2⟩ := r
      have no : ¬ Own ρw σw d := fun z => by
        obtain ⟨ls, q, _⟩ := Rw.own_some z
        rw [h1] at q
        cases q
      exact ⟨ev, ws, E.keep d _ h1 no (R.ext.di.notup h1 fun _ z => nomatch z), h2.keep k.low⟩
  · have e' : ρw[i]? = some (some sv) := by rw [b.ρo i hi]; exact e
    obtain ⟨v, e1, r⟩ := R'.slot i sv e'
    exact ⟨v, by rw [← b.σo i hi]; exact e1, r⟩
/-- a list of nobody's, under construction -/
structure Mkg (K : PySem.W.Frag) (G : Gh) (ρ : SE) (σ : St) (H0 H : Hp) (D : Addr) (xs : List PyData) : Prop where
  ex : ∃ vs, H D = some (.lst vs) ∧ RpAll K G.F H vs xs
  nf : ¬ G.F D
  nd : G.D D = 0
  no : ¬ Own ρ σ D
  n0 : H0 D = none
theorem Mkg.evo {xs : List PyData} {D : Addr} (m : Mkg K G ρ σ H0 H D xs) (E : Evo ρ σ G H ρ G' H') (R : Rep K G0 H0 G ρ σ H) : Mkg K G' ρ σ H0 H' D xs := by
  obtain ⟨⟨vs, h1, h2⟩, nf, nd, no, n0⟩ := m
  refine ⟨⟨vs, E.keep D _ h1 no nd, h2.keep (E.keeps R)⟩, fun z => ?_, ?_, no, n0⟩
  · rcases E.fnew D z with q | q | q
    · exact nf q
    · exact no q
    · rw [h1] at q; cases q
  · by_cases z : G'.D D = 0
    · exact z
    · rcases E.dnew D z with q | q
      · exact absurd nd q
      · rw [h1] at q; cases q
/-- it grows -/
theorem Rep.grown {xs ys : List PyData} {D : Addr} {ws : List V} (R : Rep K G0 H0 G ρ σ H) (m : Mkg K G ρ σ H0 H D xs) (hv : RpAll K G.F H ws ys) :
    Rep K G0 H0 G ρ σ (upd H D (.lst ws)) ∧ Mkg K G ρ σ H0 (upd H D (.lst ws)) D ys ∧ Keep K G.F H G.F (upd H D (.lst ws)) := by
  obtain ⟨⟨vs, h1, h2⟩, nf, nd, no, n0⟩ := m
  have k : Keep K G.F H G.F (upd H D (.lst ws)) := ⟨fun _ h => h, fun b zs f h => by
      have nb : b ≠ D := fun z => nf (by rw [← z]; exact f)
      rw [upd_ne nb]; exact h, fun b zs h => by
      rcases h with (h | ⟨o, h⟩) | h
      · exact .inl (.inl (by rw [upd_ne (ne_of h h1 (fun z => nomatch z))]; exact h))
      · exact .inl (.inr ⟨o, by rw [upd_ne (ne_of h h1 (fun z => nomatch z))]; exact h⟩)
      · exact .inr h⟩
  refine ⟨⟨⟨R.ext.di.keep fun b n => ?_, R.ext.fd, fun b f => ?_, fun b o q1 q2 => ?_, R.ext.fsub, R.ext.fnew, R.ext.dsub, R.ext.dnew⟩, R.len, fun j sv q => ?_, R.inj, R.new⟩, ⟨⟨ws, upd_same, hv.keep k⟩, nf, nd, no, n0⟩, k⟩
  · exact upd_ne fun z => n (by rw [z]; exact nd)
  · obtain ⟨o, q⟩ := R.ext.ft b f
    exact ⟨o, by rw [upd_ne fun z => nf (by rw [← z]; exact f)]; exact q⟩
  · rw [upd_ne fun z => by rw [z, n0] at q1; cases q1]
    exact R.ext.keep b o q1 q2
  · obtain ⟨v, e1, r⟩ := R.slot j sv q
    refine ⟨v, e1, ?_⟩
    cases sv with
    | d x => exact Rp.keep k r
    | own zs =>
      obtain ⟨b, us, rfl, g1, g2, g3, g4⟩ := r
      have nb : b ≠ D := fun z => no (by rw [← z]; exact ⟨j, zs, q, e1⟩)
      exact ⟨b, us, rfl, by rw [upd_ne nb]; exact g1, g2.keep k, g3, g4⟩
    | deal k => exact r
    | obj C fs =>
      obtain ⟨b, dx, us, rfl, g1, g2⟩ := r
      exact ⟨b, dx, us, rfl, by rw [upd_ne (ne_of g1 h1 (fun z => nomatch z))]; exact g1, g2.keep k⟩
    | scr ns =>
      obtain ⟨b, eb, hb⟩ := r
      exact ⟨b, eb, hb.mono fun o xs h5 => by rw [upd_ne (ne_of h5 h1 (fun z => nomatch z))]; exact h5⟩
    | me b => exact r
    | exc b d fs =>
      obtain ⟨ev, us, g1, g2⟩ := r
      exact ⟨ev, us, by rw [upd_ne (ne_of g1 h1 (fun z => nomatch z))]; exact g1, g2.keep k.low⟩
end

/-! ### tests of a comprehension -/
def VTs (X : Cx) (xk : XK) (es : List Expr) (w : BW) : Prop := PTs X es (rdB X.K xk w)
theorem _root_.L2.PTs.imp {X : Cx} {e : List Expr} {t t' : TT} (h : PTs X e t) (k : ∀ σ H Q, t' σ H Q → t σ H Q) : PTs X e t' := ⟨fun pins s σ H Q I q => h.run pins s σ H Q I (k _ _ _ q)⟩
def wYes : BW := fun ρ Q _ => Q true ρ
section
variable {X : Cx} {xk : XK} {e : Expr} {bA : BW}
theorem vts_nil : VTs X xk [] wYes := pts_nil.imp fun σ H Q ⟨G0, H0, G, ρ, Qv, Ev, R, xl, hw, q⟩ => q true ρ G H R .refl hw
theorem vts_one (h : VT X xk e bA) : VTs X xk [e] bA := pts_one h
end

/-- the turns: each element and test leaves the slots as they are -/
def wLcL (t : Tg) (vs : List Nat) (bt : BW) (we : EW) (ρ : SE) (Q : List PyData → Prop) : List PyData → List PyData → Prop
  | [], acc => Q acc
  | x :: xs, acc => ∃ ρ1, t.put x (wipeS ρ vs) = some ρ1 ∧ bt ρ1 (fun b ρ2 => ρ2 = ρ1 ∧ if b = true then we ρ1 (fun tv ρ3 => ρ3 = ρ1 ∧ ∃ y, frz ρ1 tv = some (y, ρ1) ∧ acc.length < sizeLine ∧ wLcL t vs bt we ρ Q xs (acc ++ [y])) (fun _ => False)
      else wLcL t vs bt we ρ Q xs acc) (fun _ => False)
def wLc (t : Tg) (vs : List Nat) (wi : IW) (bt : BW) (we : EW) : EW := fun ρ Q E => wi ρ (fun items ρ1 => wLcL t vs bt we ρ1 (fun acc => Q (.fresh acc) ρ1) items []) E

/-- the target within a block, and what it leaves of the slots -/
structure GR (K : PySem.W.Frag) (g : TG) (t : Tg) : Prop where
  run : ∀ (G0 : Gh) (H0 : Hp) (G : Gh) (ρ : SE) (σ : St) (H : Hp) (v : V) (x : PyData) (ρ' : SE) (Q : St → Hp → Prop), Rep K G0 H0 G ρ σ H → Rp K G.F H v x → t.put x ρ = some ρ' →
    (∀ σ', Rep K G0 H0 G ρ' σ' H → (∀ j, j ∉ t.slots → σ'[j]? = σ[j]?) → Q σ' H) → g v σ H Q
theorem gr_name {K : PySem.W.Frag} {i : Nat} : GR K (gName i) (.nm i) := ⟨fun G0 H0 G ρ σ H v x ρ' Q R r e q => by
  unfold Tg.put at e
  cases e
  exact q _ (R.set (sv := .d x) (v := v) r fun _ _ z => nomatch z) fun j hj => List.getElem?_set_ne (fun z => hj (by rw [← z]; exact List.mem_singleton.mpr rfl))⟩
mutual
theorem put_out : ∀ {t : Tg} {x : PyData} {ρ ρ' : SE} {j : Nat}, t.put x ρ = some ρ' → j ∉ t.slots → ρ'[j]? = ρ[j]?
  | .nm i, x, ρ, ρ', j, h, hj => by
    unfold Tg.put at h
    cases h
    exact List.getElem?_set_ne (fun z => hj (by rw [← z]; exact List.mem_singleton.mpr rfl))
  | .tp ts, .tuple xs, ρ, ρ', j, h, hj => by
    unfold Tg.put at h
    unfold Tg.slots at hj
    exact puts_out h hj
  | .tp ts, .none, ρ, ρ', j, h, hj => by unfold Tg.put at h; cases h
  | .tp ts, .bool _, ρ, ρ', j, h, hj => by unfold Tg.put at h; cases h
  | .tp ts, .int _, ρ, ρ', j, h, hj => by unfold Tg.put at h; cases h
  | .tp ts, .str _, ρ, ρ', j, h, hj => by unfold Tg.put at h; cases h
  | .tp ts, .list _, ρ, ρ', j, h, hj => by unfold Tg.put at h; cases h
  | .tp ts, .dict _, ρ, ρ', j, h, hj => by unfold Tg.put at h; cases h
theorem puts_out : ∀ {ts : List Tg} {xs : List PyData} {ρ ρ' : SE} {j : Nat}, Tg.puts ts xs ρ = some ρ' → j ∉ Tg.slotss ts → ρ'[j]? = ρ[j]?
  | [], [], ρ, ρ', j, h, hj => by unfold Tg.puts at h; cases h; rfl
  | [], _ :: _, ρ, ρ', j, h, hj => by unfold Tg.puts at h; cases h
  | _ :: _, [], ρ, ρ', j, h, hj => by unfold Tg.puts at h; cases h
  | t :: ts, x :: xs, ρ, ρ', j, h, hj => by
    unfold Tg.slotss at hj
    rw [List.mem_append, not_or] at hj
    unfold Tg.puts at h
    split at h
    · rename_i ρ1 e1
      rw [puts_out h hj.2, put_out e1 hj.1]
    · cases h
end
mutual
theorem put_d : ∀ {t : Tg} {x : PyData} {ρ ρ' : SE} {j : Nat} {xs : List PyData}, t.put x ρ = some ρ' → ρ'[j]? = some (some (SV.own xs)) → ρ[j]? = some (some (SV.own xs))
  | .nm i, x, ρ, ρ', j, ys, h, hj => by
    unfold Tg.put at h
    cases h
    by_cases q : i = j
    · subst q
      by_cases hl : i < ρ.length
      · rw [List.getElem?_set_self hl] at hj; cases hj
      · rw [List.getElem?_eq_none (by rw [List.length_set]; omega)] at hj; cases hj
    · rw [List.getElem?_set_ne q] at hj; exact hj
  | .tp ts, .tuple xs, ρ, ρ', j, ys, h, hj => by unfold Tg.put at h; exact puts_d h hj
  | .tp ts, .none, ρ, ρ', j, _, h, hj => by unfold Tg.put at h; cases h
  | .tp ts, .bool _, ρ, ρ', j, _, h, hj => by unfold Tg.put at h; cases h
  | .tp ts, .int _, ρ, ρ', j, _, h, hj => by unfold Tg.put at h; cases h
  | .tp ts, .str _, ρ, ρ', j, _, h, hj => by unfold Tg.put at h; cases h
  | .tp ts, .list _, ρ, ρ', j, _, h, hj => by unfold Tg.put at h; cases h
  | .tp ts, .dict _, ρ, ρ', j, _, h, hj => by unfold Tg.put at h; cases h
theorem puts_d : ∀ {ts : List Tg} {xs : List PyData} {ρ ρ' : SE} {j : Nat} {ys : List PyData}, Tg.puts ts xs ρ = some ρ' → ρ'[j]? = some (some (SV.own ys)) → ρ[j]? = some (some (SV.own ys))
  | [], [], ρ, ρ', j, _, h, hj => by unfold Tg.puts at h; cases h; exact hj
  | [], _ :: _, ρ, ρ', j, _, h, hj => by unfold Tg.puts at h; cases h
  | _ :: _, [], ρ, ρ', j, _, h, hj => by unfold Tg.puts at h; cases h
  | t :: ts, x :: xs, ρ, ρ', j, ys, h, hj => by
    unfold Tg.puts at h
    split at h
    · rename_i ρ1 e1
      exact put_d e1 (puts_d h hj)
    · cases h
end

mutual
theorem put_len : ∀ {t : Tg} {x : PyData} {ρ ρ' : SE}, t.put x ρ = some ρ' → ρ'.length = ρ.length
  | .nm i, x, ρ, ρ', h => by unfold Tg.put at h; cases h; exact List.length_set
  | .tp ts, .tuple xs, ρ, ρ', h => by unfold Tg.put at h; exact puts_len h
  | .tp ts, .none, ρ, ρ', h => by unfold Tg.put at h; cases h
  | .tp ts, .bool _, ρ, ρ', h => by unfold Tg.put at h; cases h
  | .tp ts, .int _, ρ, ρ', h => by unfold Tg.put at h; cases h
  | .tp ts, .str _, ρ, ρ', h => by unfold Tg.put at h; cases h
  | .tp ts, .list _, ρ, ρ', h => by unfold Tg.put at h; cases h
  | .tp ts, .dict _, ρ, ρ', h => by unfold Tg.put at h; cases h
theorem puts_len : ∀ {ts : List Tg} {xs : List PyData} {ρ ρ' : SE}, Tg.puts ts xs ρ = some ρ' → ρ'.length = ρ.length
  | [], [], ρ, ρ', h => by unfold Tg.puts at h; cases h; rfl
  | [], _ :: _, ρ, ρ', h => by unfold Tg.puts at h; cases h
  | _ :: _, [], ρ, ρ', h => by unfold Tg.puts at h; cases h
  | t :: ts, x :: xs, ρ, ρ', h => by
    unfold Tg.puts at h
    split at h
    · rename_i ρ1 e1
      rw [puts_len h, put_len e1]
    · cases h
end

section
variable {K : PySem.W.Frag} {xk : XK} {t : Tg} {g : TG} {vs : List Nat} {wi : IW} {bt : BW} {we : EW}
theorem e0_xl {G0 : Gh} {H0 : Hp} : XL K G0 H0 (fun _ => False) E0 := fun _ _ _ _ _ _ _ z => z.elim
theorem lc_core (hg : GR K g t) (hv : ∀ j ∈ t.slots, j ∈ vs) {σ : St} {H : Hp} {Q : VK} (h : rdE K xk (wLc t vs wi bt we) σ H Q) : tLc (rdI K xk wi) g (rdB K E0 bt) (rdE K E0 we) vs σ H Q := by
  obtain ⟨G0, H0, G, ρ, Qv, Ev, R, xl, hw, q⟩ := h
  refine ⟨G0, H0, G, ρ, _, Ev, R, xl, hw, fun items ρ1 G1 H1 J R1 E1 ok q1 => ?_⟩
  intro D hD
  have g0 : Grow H1 (upd H1 D (.lst [])) := .upd hD
  have nf : ¬ G1.F D := fun z => by
    obtain ⟨o, e⟩ := R1.ext.ft D z
    rw [hD] at e
    cases e
  have nd : G1.D D = 0 := by
    by_cases z : G1.D D = 0
    · exact z
    · obtain ⟨xs, e⟩ := R1.ext.di.some z
      rw [hD] at e
      cases e
  have no : ¬ Own ρ1 σ D := fun z => by
    obtain ⟨ls, e, _⟩ := R1.own_some z
    rw [hD] at e
    cases e
  have n0 : H0 D = none := R1.ext.none0 hD
  refine ⟨fun i m H' => i + m = items.length ∧ ∃ G' acc, Rep K G0 H0 G' ρ1 σ H' ∧ Evo ρ σ G H ρ1 G' H' ∧ Keep K G1.F H1 G'.F H' ∧ Mkg K G' ρ1 σ H0 H' D acc ∧ wLcL t vs bt we ρ1 (fun acc => Qv (.fresh acc) ρ1) (items.drop i) acc,
    ⟨items.length, by omega, G1, [], R1.grow g0, E1.trans g0.evo, g0.keep, ⟨⟨[], upd_same, .nil⟩, nf, nd, no, n0⟩, q1⟩, ?_⟩
  rintro i m H' ⟨hm, G', acc, R', E', k', mk, hq⟩
  obtain ⟨ok1, ok2, ok3⟩ := ok _ _ k'
  by_cases hi : i < items.length
  · refine .inr ⟨ok1 i hi, fun H2 => ∃ G2 acc2, Rep K G0 H0 G2 ρ1 σ H2 ∧ Evo ρ σ G H ρ1 G2 H2 ∧ Keep K G1.F H1 G2.F H2 ∧ Mkg K G2 ρ1 σ H0 H2 D acc2 ∧ wLcL t vs bt we ρ1 (fun acc => Qv (.fresh acc) ρ1) (items.drop (i + 1)) acc2,
      fun H2 ⟨G2, acc2, r⟩ => ⟨m - 1, by omega, by omega, G2, acc2, r⟩, fun x H'' y => ?_⟩
    obtain ⟨d, ed, gr, rp⟩ := ok3 i x H'' y hi
    have edrop : items.drop i = d :: items.drop (i + 1) := by
      rw [List.drop_eq_getElem_cons hi]
      congr 1
      have := List.getElem?_eq_getElem hi
      rw [ed] at this
      exact (Option.some.inj this).symm
    rw [edrop] at hq
    obtain ⟨ρ3, ep, hb⟩ := hq
    have R2 := R'.grow gr
    have mk2 := mk.evo gr.evo R'
    have E2 := E'.trans gr.evo
    have k2 : Keep K G1.F H1 G'.F H'' := k'.trans gr.keep
    refine hg.run G0 H0 G' (wipeS ρ1 vs) (wipe σ vs) H'' x d ρ3 _ R2.wipe rp ep fun σ3 R3 s3 => ?_
    have lenσ : σ3.length = σ.length := by rw [← R3.len, put_len ep, wipeS_len, R1.len]
    have b : Blk ρ1 σ vs ρ3 σ3 := ⟨fun j hj => by rw [put_out ep fun z => hj (hv j z), wipeS_out hj], fun j hj => by rw [s3 j fun z => hj (hv j z), wipe_outH hj], fun j xs hj z => wipeS_in (put_d ep z) hj⟩
    refine ⟨wipe_eq lenσ fun j hj => b.σo j hj, ?_⟩
    refine ⟨G0, H0, G', ρ3, _, _, R3, e0_xl, hb, fun c ρ4 G4 H4 R4 E4 q4 => ?_⟩
    obtain ⟨e4, q4⟩ := q4
    subst e4
    obtain ⟨R5, E5⟩ := R2.back b R3 E4 R4
    have mk5 := mk2.evo E5 R2
    have k5 : Keep K G1.F H1 G4.F H4 := k2.trans (E5.keeps R2)
    cases c with
    | false => exact ⟨G4, acc, R5, E2.trans E5, k5, mk5, q4⟩
    | true =>
      refine ⟨G0, H0, G4, ρ4, _, _, R4, e0_xl, q4, fun tv ρ6 G6 H6 v R6 E6 rt q6 => ?_⟩
      obtain ⟨e6, y, ef, hz, q6⟩ := q6
      subst e6
      obtain ⟨R7, E7⟩ := R5.back b R4 E6 R6
      have mk7 := mk5.evo E7 R5
      have k7 : Keep K G1.F H1 G6.F H6 := k5.trans (E7.keeps R5)
      obtain ⟨G8, f⟩ := frz_ok R6 (fun a h => R5.ext.none0 h) rt ef
      -- the frozen element, seen from the slots around
      have E8w : Evo ρ6 σ3 G4 H4 ρ6 G8 H6 := f.evo E6
      obtain ⟨R8, E8⟩ := R5.back b R4 E8w f.rep
      have mk8 := mk5.evo E8 R5
      have k8 : Keep K G1.F H1 G8.F H6 := k5.trans (E8.keeps R5)
      obtain ⟨⟨ws, hw1, hw2⟩, _⟩ := id mk8
      refine ⟨ws, hw1, by rw [hw2.length]; exact hz, ?_⟩
      obtain ⟨R9, mk9, k9⟩ := R8.grown mk8 (hw2.append (.cons f.is .nil))
      refine ⟨G8, acc ++ [y], R9, ?_, k8.trans k9, mk9, q6⟩
      -- the list itself is new since the start
      have E8' := (E2.trans E5).trans E8
      refine ⟨fun a o h n d => ?_, fun a o h => ?_, E8'.fsub, E8'.fnew, E8'.dsub, E8'.dnew, E8'.own, E8'.len⟩
      · have : a ≠ D := fun z => by
          rw [z] at h
          rw [E1.none hD] at h
          cases h
        rw [upd_ne this]
        exact E8'.keep a o h n d
      · by_cases z : a = D
        · exact ⟨_, by rw [z]; exact upd_same⟩
        · rw [upd_ne z]
          exact E8'.there a o h
  · have hi' : items.length ≤ i := Nat.le_of_not_lt hi
    refine .inl ⟨ok2 i hi', ?_⟩
    rw [List.drop_eq_nil_of_le hi'] at hq
    obtain ⟨⟨ws, hw1, hw2⟩, nf, nd, no, n0⟩ := mk
    exact q (.fresh acc) ρ1 G' H' (.ref D) R' E' ⟨D, ws, rfl, hw1, hw2, nf, nd, no, E1.none hD⟩ hq
end
end VL
set_option Elab.async false
set_option linter.all false
set_option maxRecDepth 100000
/-! VL9: operations on data: arithmetic, comparisons, built-ins, methods, subscripts. -/
namespace VL
open PySem PySem.Spec PyProof.Rows L2

section
variable {X : Cx}
/-! ### arithmetic -/
def dAdd : DOp := fun x y R => match x, y with
  | .int i, .int j => R (.d (.int (i + j)))
  | .list xs, .list ys => xs.length + ys.length ≤ sizeLine ∧ R (.fresh (xs ++ ys))
  | .tuple xs, .tuple ys => xs.length + ys.length ≤ sizeLine ∧ R (.d (.tuple (xs ++ ys)))
  | .str a, .str b => a.length + b.length ≤ sizeLine ∧ R (.d (.str (a ++ b)))
  | _, _ => False
theorem op_addV : OpV X (binaryOp .Add) dAdd := opr_imp (op_add.or (op_cat.or (op_catA.or op_add_str))) fun x y H Q h => by
  obtain ⟨F, dx, dy, R, rx, ry, hg, q⟩ := h
  cases dx with
  | int i =>
    cases dy with
    | int j =>
      cases rx.int
      cases ry.int
      exact .inl ⟨i, j, rfl, rfl, q _ _ _ hg .refl (show Rp _ _ _ _ _ from .int _)⟩
    | _ => exact hg.elim
  | list xs =>
    cases dy with
    | list ys =>
      obtain ⟨a, vs, rfl, h1, h2⟩ := rx
      obtain ⟨b, ws, rfl, h3, h4⟩ := ry
      refine .inr (.inl ⟨a, b, vs, ws, rfl, rfl, h1, h3, by rw [h2.length, h4.length]; exact hg.1, fun p hp => ?_⟩)
      have g : Grow H (upd H p (.lst (vs ++ ws))) := .upd hp
      exact q (.fresh (xs ++ ys)) _ _ hg.2 g ⟨p, _, rfl, hp, upd_same, (h2.append h4).keep g.keep⟩
    | _ => exact hg.elim
  | tuple xs =>
    cases dy with
    | tuple ys =>
      obtain ⟨a, vs, rfl, h1, h2⟩ := rx.tup
      obtain ⟨b, ws, rfl, h3, h4⟩ := ry.tup
      refine .inr (.inr (.inl ⟨a, b, vs, ws, rfl, rfl, h1, h3, by rw [h2.length, h4.length]; exact hg.1, fun e => ?_, fun e1 e2 => ?_, fun e1 e2 p hp => ?_⟩))
      · subst e
        cases h2
        exact q (.d (.tuple ys)) _ _ hg.2 .refl (show Rp _ _ _ _ _ from .tup h3 h4)
      · subst e2
        cases h4
        have hg2 := hg.2
        rw [List.append_nil] at hg2
        exact q (.d (.tuple xs)) _ _ hg2 .refl (show Rp _ _ _ _ _ from .tup h1 h2)
      · have g : Grow H (upd H p (.tup (vs ++ ws))) := .upd hp
        exact q (.d (.tuple (xs ++ ys))) _ _ hg.2 g (show Rp _ _ _ _ _ from .tup (.inl (.inl upd_same)) ((h2.append h4).keep g.keep))
    | _ => exact hg.elim
  | str a =>
    cases dy with
    | str b =>
      cases rx.str
      cases ry.str
      exact .inr (.inr (.inr ⟨a, b, rfl, rfl, hg.1, q (.d (.str (a ++ b))) _ _ hg.2 .refl (show Rp _ _ _ _ _ from .str _)⟩))
    | _ => exact hg.elim
  | _ => exact hg.elim
def dII (f : Int → Int → (TV → Prop) → Prop) : DOp := fun x y R => match x, y with
  | .int i, .int j => f i j R
  | _, _ => False
theorem opII {f : Value → Value → Sem Value} {C : Int → Int → Prop} {g : Int → Int → Int} (h : OpR X f (rI C fun i j => .int (g i j))) : OpV X f (dII fun i j R => C i j ∧ R (.d (.int (g i j)))) := opr_imp h fun x y H Q h => by
  obtain ⟨F, dx, dy, R, rx, ry, hg, q⟩ := h
  cases dx with
  | int i =>
    cases dy with
    | int j =>
      cases rx.int
      cases ry.int
      exact ⟨i, j, rfl, rfl, hg.1, q _ _ _ hg.2 .refl (show Rp _ _ _ _ _ from .int _)⟩
    | _ => exact hg.elim
  | _ => exact hg.elim
theorem opII0 {f : Value → Value → Sem Value} {g : Int → Int → Int} (h : OpR X f (rI0 fun i j => .int (g i j))) : OpV X f (dII fun i j R => R (.d (.int (g i j)))) := opr_imp h fun x y H Q h => by
  obtain ⟨F, dx, dy, R, rx, ry, hg, q⟩ := h
  cases dx with
  | int i =>
    cases dy with
    | int j =>
      cases rx.int
      cases ry.int
      exact ⟨i, j, rfl, rfl, q _ _ _ hg .refl (show Rp _ _ _ _ _ from .int _)⟩
    | _ => exact hg.elim
  | _ => exact hg.elim
theorem opIB0 {f : Value → Value → Sem Value} {g : Int → Int → Bool} (h : OpR X f (rI0 fun i j => .bl (g i j))) : OpV X f (dII fun i j R => R (.d (.bool (g i j)))) := opr_imp h fun x y H Q h => by
  obtain ⟨F, dx, dy, R, rx, ry, hg, q⟩ := h
  cases dx with
  | int i =>
    cases dy with
    | int j =>
      cases rx.int
      cases ry.int
      exact ⟨i, j, rfl, rfl, q _ _ _ hg .refl (show Rp _ _ _ _ _ from .bl _)⟩
    | _ => exact hg.elim
  | _ => exact hg.elim
abbrev dSub : DOp := dII fun i j R => R (.d (.int (i - j)))
abbrev dFdv : DOp := dII fun i j R => CDiv i j ∧ R (.d (.int (i / j)))
abbrev dMod : DOp := dII fun i j R => 0 < j ∧ R (.d (.int (i % j)))
abbrev dPow : DOp := dII fun i j R => CPow i j ∧ R (.d (.int (i ^ j.toNat)))
abbrev dLt : DOp := dII fun i j R => R (.d (.bool (decide (i < j))))
abbrev dLe : DOp := dII fun i j R => R (.d (.bool (decide (i ≤ j))))
abbrev dGt : DOp := dII fun i j R => R (.d (.bool (decide (j < i))))
abbrev dGe : DOp := dII fun i j R => R (.d (.bool (decide (j ≤ i))))
theorem op_subV : OpV X (binaryOp .Sub) dSub := opII0 op_sub
theorem op_fdvV : OpV X (binaryOp .FloorDiv) dFdv := opII op_fdiv
theorem op_modV : OpV X (binaryOp .Mod) dMod := opII op_mod
theorem op_powV : OpV X (binaryOp .Pow) dPow := opII op_pow
theorem op_ltV : OpV X (compareOp .Lt) dLt := opIB0 op_lt
theorem op_leV : OpV X (compareOp .LtE) dLe := opIB0 op_le
theorem op_gtV : OpV X (compareOp .Gt) dGt := opIB0 op_gt
theorem op_geV : OpV X (compareOp .GtE) dGe := opIB0 op_ge
def dMul : DOp := fun x y R => match x, y with
  | .int i, .int j => CMul i j ∧ R (.d (.int (i * j)))
  | .list xs, .int k => -(2 ^ 63) ≤ k ∧ k < 2 ^ 63 ∧ xs.length * k.toNat ≤ sizeLine ∧ R (.fresh (List.replicate k.toNat xs).flatten)
  | _, _ => False
theorem RpAll.rep {K : PySem.W.Frag} {F : Addr → Prop} {H : Hp} {vs : List V} {xs : List PyData} (h : RpAll K F H vs xs) : ∀ k : Nat, RpAll K F H (List.replicate k vs).flatten (List.replicate k xs).flatten
  | 0 => .nil
  | k + 1 => by
    rw [List.replicate_succ, List.replicate_succ, List.flatten_cons, List.flatten_cons]
    exact h.append (RpAll.rep h k)
theorem op_mulV : OpV X (binaryOp .Mult) dMul := opr_imp (op_mul.or op_rep) fun x y H Q h => by
  obtain ⟨F, dx, dy, R, rx, ry, hg, q⟩ := h
  cases dx with
  | int i =>
    cases dy with
    | int j =>
      cases rx.int
      cases ry.int
      exact .inl ⟨i, j, rfl, rfl, hg.1, q _ _ _ hg.2 .refl (show Rp _ _ _ _ _ from .int _)⟩
    | _ => exact hg.elim
  | list xs =>
    cases dy with
    | int k =>
      obtain ⟨a, vs, rfl, h1, h2⟩ := rx
      cases ry.int
      obtain ⟨g1, g2, g3, hg⟩ := hg
      refine .inr ⟨a, k, vs, rfl, rfl, h1, g1, g2, by rw [h2.length]; exact g3, fun p hp => ?_⟩
      have g : Grow H (upd H p (.lst (List.replicate k.toNat vs).flatten)) := .upd hp
      exact q (.fresh _) _ _ hg g ⟨p, _, rfl, hp, upd_same, (h2.rep _).keep g.keep⟩
    | _ => exact hg.elim
  | _ => exact hg.elim

/-! ### == and in, over data -/
def dEq : DOp := fun x y R => SeqAt.shaped x = true ∧ SeqAt.shaped y = true ∧ R (.d (.bool (PyData.eqv x y)))
def dNe : DOp := fun x y R => SeqAt.shaped x = true ∧ SeqAt.shaped y = true ∧ R (.d (.bool (!PyData.eqv x y)))
theorem op_eqV (hu : X.A.units + 64 < cLine) : OpV X (compareOp .Eq) dEq := opr_imp (op_eqD hu) fun x y H Q h => by
  obtain ⟨F, dx, dy, R, rx, ry, ⟨s1, s2, hg⟩, q⟩ := h
  exact ⟨dx, dy, rx.dp, ry.dp, s1, s2, q _ _ _ hg .refl (show Rp _ _ _ _ _ from .bl _)⟩
theorem op_neV (hu : X.A.units + 64 < cLine) : OpV X (compareOp .NotEq) dNe := opr_imp (op_neD hu) fun x y H Q h => by
  obtain ⟨F, dx, dy, R, rx, ry, ⟨s1, s2, hg⟩, q⟩ := h
  exact ⟨dx, dy, rx.dp, ry.dp, s1, s2, q _ _ _ hg .refl (show Rp _ _ _ _ _ from .bl _)⟩
def seqD : PyData → Option (List PyData)
  | .list xs => some xs
  | .tuple xs => some xs
  | _ => none
def dIn : DOp := fun x y R => ∃ ys, seqD y = some ys ∧ SeqAt.shaped x = true ∧ SeqAt.shaped y = true ∧ R (.d (.bool (ys.any fun z => PyData.eqv z x)))
def dNotIn : DOp := fun x y R => ∃ ys, seqD y = some ys ∧ SeqAt.shaped x = true ∧ SeqAt.shaped y = true ∧ R (.d (.bool (!ys.any fun z => PyData.eqv z x)))
theorem room_in_tup {A : Around} {ds : List PyData} {d : PyData} (sd : SeqAt.shaped d = true) (hu : A.units + 65 < cLine) : A.units + 1 + min (PyData.depthAll ds) d.depth < cLine := room_in_shaped sd hu
theorem op_inV (hu : X.A.units + 65 < cLine) : OpV X (compareOp .In) dIn := by
  intro pins s σ H x y v u Q I rx ry h
  obtain ⟨F, dx, dy, R, hx, hy, ⟨ys, es, s1, s2, hg⟩, q⟩ := h
  obtain ⟨as, r1⟩ := Dp.reads I dx x v hx.dp rx
  obtain ⟨bs, r2⟩ := Dp.reads I dy y u hy.dp ry
  cases dy with
  | list zs =>
    cases es
    exact SeqAt.in_list_reads r2 r1 (SeqAt.canLay_of_shaped s2) (SeqAt.canLay_of_shaped s1) (room_in_shaped s1 hu) ⟨.bl _, H, I, rfl, q _ _ _ hg .refl (show Rp _ _ _ _ _ from .bl _)⟩
  | tuple zs =>
    cases es
    exact SeqAt.in_tuple_reads r2 r1 (SeqAt.canLay_of_shaped s2) (SeqAt.canLay_of_shaped s1) (room_in_shaped s1 hu) ⟨.bl _, H, I, rfl, q _ _ _ hg .refl (show Rp _ _ _ _ _ from .bl _)⟩
  | _ => cases es
theorem op_notInV (hu : X.A.units + 65 < cLine) : OpV X (compareOp .NotIn) dNotIn := by
  intro pins s σ H x y v u Q I rx ry h
  obtain ⟨F, dx, dy, R, hx, hy, ⟨ys, es, s1, s2, hg⟩, q⟩ := h
  obtain ⟨as, r1⟩ := Dp.reads I dx x v hx.dp rx
  obtain ⟨bs, r2⟩ := Dp.reads I dy y u hy.dp ry
  cases dy with
  | list zs =>
    cases es
    exact SeqAt.notIn_list_reads r2 r1 (SeqAt.canLay_of_shaped s2) (SeqAt.canLay_of_shaped s1) (room_in_shaped s1 hu) ⟨.bl _, H, I, rfl, q _ _ _ hg .refl (show Rp _ _ _ _ _ from .bl _)⟩
  | tuple zs =>
    cases es
    exact SeqAt.notIn_tuple_reads r2 r1 (SeqAt.canLay_of_shaped s2) (SeqAt.canLay_of_shaped s1) (room_in_shaped s1 hu) ⟨.bl _, H, I, rfl, q _ _ _ hg .refl (show Rp _ _ _ _ _ from .bl _)⟩
  | _ => cases es
/-- is None, is not None -/
def isNon : PyData → Bool
  | .none => true
  | _ => false
def dIsN : DOp := fun x y R => y = .none ∧ R (.d (.bool (isNon x)))
def dNotN : DOp := fun x y R => y = .none ∧ R (.d (.bool (!isNon x)))
theorem rq_non {K : PySem.W.Frag} {F : Addr → Prop} {H : Hp} {v : V} {x : PyData} (r : Rq K F H v x) : decide (v = .non) = isNon x := by
  cases x with
  | none => cases r.none; rfl
  | bool b => cases r.bool; rfl
  | int i => cases r.int; rfl
  | str y => cases r.str; rfl
  | list xs => obtain ⟨a, vs, rfl, _⟩ := r; rfl
  | tuple xs => obtain ⟨a, vs, rfl, _⟩ := r.tup; rfl
  | dict kvs =>
    have r' : Rp K F H v (.dict kvs) := r
    cases r'
theorem op_isNV : OpV X (compareOp .Is) dIsN := opr_imp op_isN fun x y H Q h => by
  obtain ⟨F, dx, dy, R, rx, ry, ⟨e, hg⟩, q⟩ := h
  subst e
  cases ry.none
  exact ⟨rfl, q _ _ _ hg .refl (by rw [rq_non rx]; exact (show Rp _ _ _ _ _ from .bl _))⟩
theorem op_notNV : OpV X (compareOp .IsNot) dNotN := opr_imp op_notN fun x y H Q h => by
  obtain ⟨F, dx, dy, R, rx, ry, ⟨e, hg⟩, q⟩ := h
  subst e
  cases ry.none
  exact ⟨rfl, q _ _ _ hg .refl (by rw [rq_non rx]; exact (show Rp _ _ _ _ _ from .bl _))⟩

/-! ### built-ins -/
def dLen : DCall := fun xs R => match xs with
  | [.list ys] => R (.d (.int (ys.length : Nat)))
  | [.tuple ys] => R (.d (.int (ys.length : Nat)))
  | [.str z] => z.length ≤ sizeLine ∧ R (.d (.int (z.length : Nat)))
  | _ => False
theorem call_lenV : CallV X (.builtin "len") dLen := callr_imp (call_len_seq.or call_len_str) fun vs H Q h => by
  obtain ⟨F, xs, R, rs, hg, q⟩ := h
  match xs, rs, hg with
  | [.list ys], .cons r .nil, hg =>
    obtain ⟨a, ws, rfl, h1, h2⟩ := r
    refine .inl ⟨a, ws, rfl, .inl (.inl (.inl h1)), ?_⟩
    rw [h2.length]
    exact q _ _ _ hg .refl (show Rp _ _ _ _ _ from .int _)
  | [.tuple ys], .cons r .nil, hg =>
    obtain ⟨a, ws, rfl, h1, h2⟩ := r.tup
    refine .inl ⟨a, ws, rfl, .inr h1, ?_⟩
    rw [h2.length]
    exact q _ _ _ hg .refl (show Rp _ _ _ _ _ from .int _)
  | [.str z], .cons r .nil, hg =>
    cases r.str
    exact .inr ⟨z, rfl, hg.1, q _ _ _ hg.2 .refl (show Rp _ _ _ _ _ from .int _)⟩
def dTuple : DCall := fun xs R => match xs with
  | [.list ys] => R (.d (.tuple ys))
  | [.tuple ys] => R (.d (.tuple ys))
  | _ => False
theorem call_tupleV : CallV X (.type "tuple") dTuple := callr_imp call_tuple_of fun vs H Q h => by
  obtain ⟨F, xs, R, rs, hg, q⟩ := h
  match xs, rs, hg with
  | [.list ys], .cons r .nil, hg =>
    obtain ⟨a, ws, rfl, h1, h2⟩ := r
    refine ⟨a, ws, rfl, .inl ⟨.inl (.inl h1), fun p hp => ?_⟩⟩
    have g : Grow H (upd H p (.tup ws)) := .upd hp
    exact q _ _ _ hg g (show Rp _ _ _ _ _ from .tup (.inl (.inl upd_same)) (h2.keep g.keep))
  | [.tuple ys], .cons r .nil, hg =>
    obtain ⟨a, ws, rfl, h1, h2⟩ := r.tup
    exact ⟨a, ws, rfl, .inr ⟨h1, q _ _ _ hg .refl (show Rp _ _ _ _ _ from .tup h1 h2)⟩⟩
def dList : DCall := fun xs R => match xs with
  | [.list ys] => R (.fresh ys)
  | [.tuple ys] => R (.fresh ys)
  | _ => False
theorem call_listV : CallV X (.type "list") dList := callr_imp call_list_of fun vs H Q h => by
  obtain ⟨F, xs, R, rs, hg, q⟩ := h
  match xs, rs, hg with
  | [.list ys], .cons r .nil, hg =>
    obtain ⟨a, ws, rfl, h1, h2⟩ := r
    refine ⟨a, ws, rfl, .inl (.inl (.inl h1)), fun p hp => ?_⟩
    have g : Grow H (upd H p (.lst ws)) := .upd hp
    exact q _ _ _ hg g ⟨p, _, rfl, hp, upd_same, h2.keep g.keep⟩
  | [.tuple ys], .cons r .nil, hg =>
    obtain ⟨a, ws, rfl, h1, h2⟩ := r.tup
    refine ⟨a, ws, rfl, .inr h1, fun p hp => ?_⟩
    have g : Grow H (upd H p (.lst ws)) := .upd hp
    exact q _ _ _ hg g ⟨p, _, rfl, hp, upd_same, h2.keep g.keep⟩
def dInts (f : List Int → (TV → Prop) → Prop) : DCall := fun xs R => match xs with
  | [.list ys] => ∃ ns : List Int, ys = ns.map PyData.int ∧ f ns R
  | _ => False
theorem call_sumV (hc : X.calm = true) : CallV X (.builtin "sum") (dInts fun ns R => R (.d (.int ns.sum))) := callr_imp (cr_sum hc) fun vs H Q h => by
  obtain ⟨F, xs, R, rs, hg, q⟩ := h
  match xs, rs, hg with
  | [.list ys], .cons r .nil, ⟨ns, e, hg⟩ =>
    subst e
    obtain ⟨a, ws, rfl, h1, h2⟩ := r
    cases h2.ints
    exact ⟨a, ns, rfl, .inl (.inl h1), q _ _ _ hg .refl (show Rp _ _ _ _ _ from .int _)⟩
def dMin : DCall := fun xs R => match xs with
  | [.list ys] => ∃ ns : List Int, ys = ns.map PyData.int ∧ ns ≠ [] ∧ ∀ m, m ∈ ns → (∀ y ∈ ns, m ≤ y) → R (.d (.int m))
  | [.int i, .int j] => R (.d (.int (if j < i then j else i)))
  | _ => False
theorem call_minV (hc : X.calm = true) : CallV X (.builtin "min") dMin := callr_imp ((cr_min hc).or (call_min2 hc)) fun vs H Q h => by
  obtain ⟨F, xs, R, rs, hg, q⟩ := h
  match xs, rs, hg with
  | [.list ys], .cons r .nil, ⟨ns, e, hne, hg⟩ =>
    subst e
    obtain ⟨a, ws, rfl, h1, h2⟩ := r
    cases h2.ints
    exact .inl ⟨a, ns, rfl, .inl (.inl h1), List.length_pos_iff.mpr hne, fun m hm hl => q _ _ _ (hg m hm hl) .refl (show Rp _ _ _ _ _ from .int _)⟩
  | [.int i, .int j], .cons r (.cons r' .nil), hg =>
    cases r.int
    cases r'.int
    exact .inr ⟨i, j, rfl, q _ _ _ hg .refl (show Rp _ _ _ _ _ from .int _)⟩
def dBools (f : List Bool → Bool) : DCall := fun xs R => match xs with
  | [.list ys] => ∃ ns : List Bool, ys = ns.map PyData.bool ∧ R (.d (.bool (f ns)))
  | _ => False
theorem call_anyV (hc : X.calm = true) : CallV X (.builtin "any") (dBools fun bs => bs.any id) := callr_imp (cr_any hc) fun vs H Q h => by
  obtain ⟨F, xs, R, rs, hg, q⟩ := h
  match xs, rs, hg with
  | [.list ys], .cons r .nil, ⟨ns, e, hg⟩ =>
    subst e
    obtain ⟨a, ws, rfl, h1, h2⟩ := r
    cases h2.bools
    exact ⟨a, ns, rfl, .inl (.inl h1), q _ _ _ hg .refl (show Rp _ _ _ _ _ from .bl _)⟩
theorem call_allV (hc : X.calm = true) : CallV X (.builtin "all") (dBools fun bs => bs.all id) := callr_imp (cr_all hc) fun vs H Q h => by
  obtain ⟨F, xs, R, rs, hg, q⟩ := h
  match xs, rs, hg with
  | [.list ys], .cons r .nil, ⟨ns, e, hg⟩ =>
    subst e
    obtain ⟨a, ws, rfl, h1, h2⟩ := r
    cases h2.bools
    exact ⟨a, ns, rfl, .inl (.inl h1), q _ _ _ hg .refl (show Rp _ _ _ _ _ from .bl _)⟩
def dAbs : DCall := fun xs R => match xs with
  | [.int i] => R (.d (.int (if i < 0 then -i else i)))
  | _ => False
theorem call_absV : CallV X (.builtin "abs") dAbs := callr_imp call_abs fun vs H Q h => by
  obtain ⟨F, xs, R, rs, hg, q⟩ := h
  match xs, rs, hg with
  | [.int i], .cons r .nil, hg =>
    cases r.int
    exact ⟨i, rfl, q _ _ _ hg .refl (show Rp _ _ _ _ _ from .int _)⟩
def dInt : DCall := fun xs R => match xs with
  | [.int i] => R (.d (.int i))
  | [.bool k] => R (.d (.int (if k then 1 else 0)))
  | _ => False
theorem call_intV : CallV X (.type "int") dInt := callr_imp call_int1 fun vs H Q h => by
  obtain ⟨F, xs, R, rs, hg, q⟩ := h
  match xs, rs, hg with
  | [.int i], .cons r .nil, hg =>
    cases r.int
    exact .inl ⟨i, rfl, q _ _ _ hg .refl (show Rp _ _ _ _ _ from .int _)⟩
  | [.bool k], .cons r .nil, hg =>
    cases r.bool
    exact .inr ⟨k, rfl, q _ _ _ hg .refl (show Rp _ _ _ _ _ from .int _)⟩
end
end VL
set_option Elab.async false
set_option linter.all false
set_option maxRecDepth 100000
/-! VL10: sorted, extend, pop, subscripts, slices, isinstance. -/
namespace PySem
open Sem (wp)
open AutoSeq1 (wpAny_loadPart')
open AutoSeq1
set_option maxRecDepth 8000 in
theorem vl_extend_tuple (l : Addr) (items : Array Value) (n : Nat) (b : Addr) (dd : Option Addr) (sl : Array (Option Value)) (items2 : Array Value) (n2 : Nat) (hs0 : ¬(!items.isEmpty && Builtin.List.listTooLong (items.size + items2.size)) = true) (hs1 : items.size ≤ sizeLine) (hs2 : items.size + items2.size ≤ sizeLine + 1) :
    Meets (Builtin.«list.extend» ⟨[.ref l, .ref b], []⟩) (fun _ R s => s.heap.get? l = some { cls := .type "list", dict := none, data := .seq items n, slots := #[] } ∧ s.heap.get? b = some { cls := .type "tuple", dict := dd, data := .seq items2 n2, slots := sl } ∧ R (.ok (.ret Value.none)) { s with heap := s.heap.update l (Obj.mapSeq fun x => x ++ items2), toks := s.toks }) :=
  .of_wp fun prog w A R s h => by
    obtain ⟨hp, g, d, tk, os⟩ := s; obtain ⟨hl, hb, h⟩ := h; have f1 := idx_int; have f2 := sub_tuple_tuple; have f3 := sub_list_list; have f4 := sub_tuple_list; have f5 := sub_list_tuple;
    have hz' : (items ++ items2).size ≤ sizeLine + 1 := by rw [Array.size_append]; exact hs2
    wp_walk using (wpAny_updateSeq hl rfl (hz := hs1) (_hz' := hz')), wpAny_loadPart' hl, wpAny_loadPart' hb; exact ⟨_, rfl, h⟩
end PySem
namespace VL
open PySem PySem.Spec PyProof.Rows L2

section
variable {X : Cx} {xk : XK} {pos p apos : Pos} {e o a b c : Expr} {es : List Expr} {we wa wb wc wx wo : EW} {wA : AW}

/-! ### extend, pop -/
def rExtA (K : PySem.W.Frag) : V → List V → Hp → VK → Prop := fun x vs H Q => ∃ l b xs zs, x = .ref l ∧ vs = [.ref b] ∧ H l = some (.lst xs) ∧ (H b = some (.lst zs) ∨ SqT K H b zs) ∧ xs.length + zs.length ≤ sizeLine ∧ Q .non (upd H l (.lst (xs ++ zs)))
theorem mt_extA : MtM X "list.extend" (rExtA X.K) := by
  intro pins s σ H x vs v us Q I rx rv h
  obtain ⟨l, b, xs, zs, rfl, rfl, hH, hB, hz, q⟩ := h
  rcases hB with hB | hB
  · exact mt_extend pins s σ H _ _ v us Q I rx rv ⟨l, b, xs, zs, rfl, rfl, hH, hB, hz, q⟩
  · cases rx
    obtain ⟨u, rfl, ru⟩ := rv.one
    cases ru
    obtain ⟨z, its, n, r, hl, e⟩ := I.lstM hH
    obtain ⟨its2, r2, ⟨⟨cc, dd, dt, sl⟩, h1, h2, n2, h3⟩, hz2⟩ := I.tuple hB
    simp only at h2 h3
    subst h2 h3
    have hl2 := r2.length
    have hsz : its.toArray.size + its2.toArray.size ≤ sizeLine := by rw [List.size_toArray, List.size_toArray]; omega
    have hlong : ¬ (!its.toArray.isEmpty && Builtin.List.listTooLong (its.toArray.size + its2.toArray.size)) = true := by
      rw [notLongL hsz, Bool.and_false]
      exact Bool.false_ne_true
    refine call_meets F.slot_list_extend ⟨_, e, rfl⟩ F.entry_list_extend (F.args_list_extend_2 _ _)
      (vl_extend_tuple l its.toArray n b dd sl its2.toArray n2 hlong (by rw [List.size_toArray]; omega) (by omega)) ⟨e, h1, ?_⟩
    refine ⟨.non, _, I.lset (its' := its ++ its2) hH e (by simp) (r.append r2) ?_, rfl, q⟩
    rw [List.length_append]
    omega
/-- a change of slot i's own list by one argument's items -/
def wExt (wo : EW) (wA : AW) : EW := fun ρ Q E => wo ρ (fun tv ρ1 => ∃ i ys, tv = .bor i ∧ ownAt ρ1 i = some ys ∧ wA ρ1 (fun tvs ρ2 => ∃ x zs xs, resAll ρ2 tvs = some [x] ∧ seqD x = some zs ∧ ownAt ρ2 i = some xs ∧ xs.length + zs.length ≤ sizeLine ∧ Q (.d .none) (ρ2.set i (some (SV.own (xs ++ zs))))) E) E
theorem ve_extend (h : PE X e (tBM X.K "list" (rExtA X.K) (rdE X.K xk wo) (rdA X.K xk wA))) : VE X xk e (wExt wo wA) :=
  h.imp fun σ H Q ⟨G0, H0, G, ρ, Qv, Ev, R, xl, hw, q⟩ =>
    ⟨G0, H0, G, ρ, _, Ev, R, xl, hw, fun tv ρ1 G1 H1 v R1 E1 rt q1 => by
      obtain ⟨i, ys, rfl, eo, q1⟩ := q1
      have r' : σ[i]? = some (some v) := rt
      obtain ⟨v', e1, a, vs, rfl, h1, h2, h3, h4⟩ := R1.slot i _ (ownAt_some eo)
      rw [r'] at e1
      cases e1
      refine ⟨.inl ⟨rfl, _, .inl (.inl h1)⟩, ⟨G0, H0, G1, ρ1, _, Ev, R1, xl, q1, fun tvs ρ2 G2 H2 ws R2 E2 rts q2 => ?_⟩⟩
      obtain ⟨x, zs, xs, er, es, eo2, hz, q2⟩ := q2
      obtain ⟨v'', e3, a2, vs2, ea2, g1, g2, g3, g4⟩ := R2.slot i _ (ownAt_some eo2)
      rw [r'] at e3
      cases e3
      cases ea2
      cases resAll_ok R2 rts er with
      | @cons vv _ _ _ rx rn =>
        cases rn
        have hb : ∃ b us, vv = V.ref b ∧ (H2 b = some (.lst us) ∨ SqT X.K H2 b us) ∧ RpAll X.K G2.F H2 us zs := by
          cases x with
          | list l => cases es; obtain ⟨b, us, e, k1, k2⟩ := rx; exact ⟨b, us, e, .inl k1, k2⟩
          | tuple l => cases es; obtain ⟨b, us, e, k1, k2⟩ := rx.tup; exact ⟨b, us, e, .inr k1, k2⟩
          | _ => cases es
        obtain ⟨b, us, rfl, hbb, rp⟩ := hb
        obtain ⟨R4, E4⟩ := R2.mut (vs := vs2) (ownAt_some eo2) r' (g2.append rp)
        refine ⟨a, b, vs2, us, rfl, rfl, g1, hbb, by rw [g2.length, rp.length]; exact hz, ?_⟩
        exact q (.d .none) _ G2 _ .non R4 ((E1.trans E2).trans E4) (show Rp _ _ _ _ _ from .non) q2⟩
def wPop (wo : EW) : EW := fun ρ Q E => wo ρ (fun tv ρ1 => ∃ i xs y, tv = .bor i ∧ ownAt ρ1 i = some xs ∧ xs[xs.length - 1]? = some y ∧ Q (.d y) (ρ1.set i (some (SV.own xs.dropLast)))) E
theorem ve_pop (h : PE X e (tBM0 X.K "list" rPop (rdE X.K xk wo))) : VE X xk e (wPop wo) :=
  h.imp fun σ H Q ⟨G0, H0, G, ρ, Qv, Ev, R, xl, hw, q⟩ =>
    ⟨G0, H0, G, ρ, _, Ev, R, xl, hw, fun tv ρ1 G1 H1 v R1 E1 rt q1 => by
      obtain ⟨i, xs, y, rfl, eo, ey, q1⟩ := q1
      have r' : σ[i]? = some (some v) := rt
      obtain ⟨v', e1, a, vs, rfl, h1, h2, h3, h4⟩ := R1.slot i _ (ownAt_some eo)
      rw [r'] at e1
      cases e1
      obtain ⟨u, eu, ru⟩ := h2.get2 ey
      obtain ⟨R4, E4⟩ := R1.mut (vs := vs) (ownAt_some eo) r' h2.dropLast
      refine ⟨.inl ⟨rfl, _, .inl (.inl h1)⟩, a, vs, u, rfl, rfl, h1, by rw [h2.length]; exact eu, ?_⟩
      exact q (.d y) _ G1 _ u R4 (E1.trans E4) (show Rp _ _ _ _ _ from ru.keep (E4.keeps R1)) q1⟩
def wPopAt (wo : EW) (wA : AW) : EW := fun ρ Q E => wo ρ (fun tv ρ1 => ∃ i ys, tv = .bor i ∧ ownAt ρ1 i = some ys ∧ wA ρ1 (fun tvs ρ2 => ∃ n k xs y, resAll ρ2 tvs = some [.int n] ∧ ownAt ρ2 i = some xs ∧ -(2 ^ 63) ≤ n ∧ n < 2 ^ 63 ∧ seqIndex? n xs.length = some k ∧ xs[k]? = some y ∧ Q (.d y) (ρ2.set i (some (SV.own (xs.eraseIdx k))))) E) E
theorem ve_popAt (h : PE X e (tBM X.K "list" rPopAt (rdE X.K xk wo) (rdA X.K xk wA))) : VE X xk e (wPopAt wo wA) :=
  h.imp fun σ H Q ⟨G0, H0, G, ρ, Qv, Ev, R, xl, hw, q⟩ =>
    ⟨G0, H0, G, ρ, _, Ev, R, xl, hw, fun tv ρ1 G1 H1 v R1 E1 rt q1 => by
      obtain ⟨i, ys, rfl, eo, q1⟩ := q1
      have r' : σ[i]? = some (some v) := rt
      obtain ⟨v', e1, a, vs, rfl, h1, h2, h3, h4⟩ := R1.slot i _ (ownAt_some eo)
      rw [r'] at e1
      cases e1
      refine ⟨.inl ⟨rfl, _, .inl (.inl h1)⟩, ⟨G0, H0, G1, ρ1, _, Ev, R1, xl, q1, fun tvs ρ2 G2 H2 ws R2 E2 rts q2 => ?_⟩⟩
      obtain ⟨n, k, xs, y, er, eo2, n1, n2, ek, ey, q2⟩ := q2
      obtain ⟨v'', e3, a2, vs2, ea2, g1, g2, g3, g4⟩ := R2.slot i _ (ownAt_some eo2)
      rw [r'] at e3
      cases e3
      cases ea2
      cases resAll_ok R2 rts er with
      | cons rx rn =>
        cases rn
        cases rx.int
        obtain ⟨u, eu, ru⟩ := g2.get2 ey
        obtain ⟨R4, E4⟩ := R2.mut (vs := vs2) (ownAt_some eo2) r' (g2.eraseIdx k)
        refine ⟨a, vs2, n, k, u, rfl, rfl, g1, n1, n2, by rw [g2.length]; exact ek, eu, ?_⟩
        exact q (.d y) _ G2 _ u R4 ((E1.trans E2).trans E4) (show Rp _ _ _ _ _ from ru.keep (E4.keeps R2)) q2⟩

/-! ### subscripts -/
def dIx : DOp := fun x y R => match x, y with
  | .list xs, .int i => ∃ z, atI xs i = some z ∧ R (.d z)
  | .tuple xs, .int i => ∃ z, atI xs i = some z ∧ R (.d z)
  | .str z, .int i => z.length ≤ sizeLine ∧ ∃ c, atI z.cps.toList i = some c ∧ R (.d (.str ⟨#[c]⟩))
  | _, _ => False
theorem RpAll.atI {K : PySem.W.Frag} {F : Addr → Prop} {H : Hp} {vs : List V} {xs : List PyData} {i : Int} {z : PyData} (h : RpAll K F H vs xs) (e : L2.atI xs i = some z) : ∃ v, L2.atI vs i = some v ∧ Rp K F H v z := by
  unfold L2.atI at e ⊢
  rw [h.length]
  cases q : ixN xs.length i with
  | none => rw [q] at e; cases e
  | some j =>
    rw [q] at e
    exact h.get2 e
theorem ix_seqV {X : Cx} : ∀ x y H Q, rOpV X.K dIx x y H Q → rIx X.K x y H Q := fun x y H Q h => by
  obtain ⟨F, dx, dy, R, rx, ry, hg, q⟩ := h
  cases dy with
  | int i =>
    cases ry.int
    cases dx with
    | list xs =>
      obtain ⟨z, ez, hg⟩ := hg
      obtain ⟨a, vs, rfl, h1, h2⟩ := rx
      obtain ⟨v, ev, rv⟩ := h2.atI ez
      exact .inl ⟨a, vs, i, v, rfl, rfl, .inl (.inl h1), ev, q _ _ _ hg .refl rv⟩
    | tuple xs =>
      obtain ⟨z, ez, hg⟩ := hg
      obtain ⟨a, vs, rfl, h1, h2⟩ := rx.tup
      obtain ⟨v, ev, rv⟩ := h2.atI ez
      exact .inr (.inl ⟨a, vs, i, v, rfl, rfl, h1, ev, q _ _ _ hg .refl rv⟩)
    | str z =>
      obtain ⟨hz, c, ec, hg⟩ := hg
      cases rx.str
      exact .inr (.inr ⟨z, i, c, rfl, rfl, hz, ec, q _ _ _ hg .refl (show Rp _ _ _ _ _ from .str _)⟩)
    | _ => exact hg.elim
  | _ => cases dx <;> exact hg.elim
theorem ve_ix (ha : VE X xk a wa) (hb : VE X xk b wb) (hs : PlainIx b) : VE X xk (.Subscript a b pos) (wOp dIx wa wb) := (pe_ix ix_seq ha hb hs).imp fun _ _ _ h => op_core ix_seqV h

/-! ### unary minus -/
def wNeg (wa : EW) : EW := fun ρ Q E => wa ρ (fun tv ρ1 => ∃ i : Int, res ρ1 tv = some (.int i) ∧ Q (.d (.int (-i))) ρ1) E
theorem ve_neg (ha : VE X xk a wa) : VE X xk (.UnaryOp .USub a pos) (wNeg wa) := (pe_un un_neg ha).imp fun σ H Q ⟨G0, H0, G, ρ, Qv, Ev, R, xl, hw, q⟩ =>
  ⟨G0, H0, G, ρ, _, Ev, R, xl, hw, fun tv ρ1 G1 H1 v R1 E1 rt ⟨i, er, q1⟩ => by
    cases (rt.rq R1 er).int
    exact ⟨i, rfl, q (.d (.int (-i))) ρ1 G1 H1 _ R1 E1 (show Rp _ _ _ _ _ from .int _) q1⟩⟩

/-! ### slices -/
def cutD {α : Type} (xs : List α) (lo hi : Option Int) : List α := (xs.drop (HT.sIx xs.length 0 lo)).take (HT.sIx xs.length xs.length hi - HT.sIx xs.length 0 lo)
theorem RpAll.cut {K : PySem.W.Frag} {F : Addr → Prop} {H : Hp} {vs : List V} {xs : List PyData} (h : RpAll K F H vs xs) (lo hi : Option Int) : RpAll K F H (cutV vs lo hi) (cutD xs lo hi) := by
  unfold cutV cutD
  rw [h.length]
  exact (h.drop _).take _
abbrev OW := SE → (Option Int → SE → Prop) → QX → Prop
def rdO (K : PySem.W.Frag) (xk : XK) (w : OW) : TO := fun σ H Q => ∃ G0 H0 G ρ Qv Ev, Rep K G0 H0 G ρ σ H ∧ XL K G0 H0 Ev xk ∧ w ρ Qv Ev ∧
  ∀ o ρ' G' H', Rep K G0 H0 G' ρ' σ H' → Evo ρ σ G H ρ' G' H' → Qv o ρ' → Q o H'
def VO (X : Cx) (xk : XK) (e : Option Expr) (w : OW) : Prop := PO X e (rdO X.K xk w)
theorem _root_.L2.PO.imp {X : Cx} {e : Option Expr} {t t' : TO} (h : PO X e t) (k : ∀ σ H Q, t' σ H Q → t σ H Q) : PO X e t' := ⟨fun pins s σ H Q I q => h.run pins s σ H Q I (k _ _ _ q)⟩
def wONone : OW := fun ρ Q _ => Q none ρ
def wOSome (we : EW) : OW := fun ρ Q E => we ρ (fun tv ρ1 => ∃ i : Int, res ρ1 tv = some (.int i) ∧ Q (some i) ρ1) E
theorem vo_none : VO X xk none wONone := po_none.imp fun σ H Q ⟨G0, H0, G, ρ, Qv, Ev, R, xl, hw, q⟩ => q none ρ G H R .refl hw
theorem vo_some (h : VE X xk e we) : VO X xk (some e) (wOSome we) := (po_some h).imp fun σ H Q ⟨G0, H0, G, ρ, Qv, Ev, R, xl, hw, q⟩ =>
  ⟨G0, H0, G, ρ, _, Ev, R, xl, hw, fun tv ρ1 G1 H1 v R1 E1 rt ⟨i, er, q1⟩ => by
    cases (rt.rq R1 er).int
    exact ⟨i, rfl, q (some i) ρ1 G1 H1 R1 E1 q1⟩⟩
def dSl (x : PyData) (lo hi : Option Int) (R : TV → Prop) : Prop := match x with
  | .list xs => R (.fresh (cutD xs lo hi))
  | .tuple xs => R (.d (.tuple (cutD xs lo hi)))
  | _ => False
def wSl (we : EW) (wl wh : OW) : EW := fun ρ Q E => we ρ (fun tv ρ1 => wl ρ1 (fun lo ρ2 => wh ρ2 (fun hi ρ3 => ∃ x, res ρ3 tv = some x ∧ dSl x lo hi fun tv => Q tv ρ3) E) E) E
theorem cut_whole {α : Type} {xs : List α} {lo hi : Option Int} (h : HT.sIx xs.length 0 lo = 0 ∧ HT.sIx xs.length xs.length hi = xs.length) : cutD xs lo hi = xs := by
  unfold cutD
  rw [h.1, h.2]
  simp
theorem ve_slice {lo hi : Option Expr} {wl wh : OW} {p2 : Pos} (mk : ∀ {r}, SlR X r → PE X (.Subscript e (.Slice lo hi none p2) pos) (tSl r (rdE X.K xk we) (rdO X.K xk wl) (rdO X.K xk wh))) : VE X xk (.Subscript e (.Slice lo hi none p2) pos) (wSl we wl wh) :=
  (mk (sl_list.or sl_tupA)).imp fun σ H Q ⟨G0, H0, G, ρ, Qv, Ev, R, xl, hw, q⟩ =>
  ⟨G0, H0, G, ρ, _, Ev, R, xl, hw, fun tv ρ1 G1 H1 v R1 E1 rt q1 => ⟨G0, H0, G1, ρ1, _, Ev, R1, xl, q1, fun l ρ2 G2 H2 R2 E2 q2 => ⟨G0, H0, G2, ρ2, _, Ev, R2, xl, q2, fun u ρ3 G3 H3 R3 E3 q3 => by
    obtain ⟨x, er, q3⟩ := q3
    have rq := ((rt.evo E2 R1).evo E3 R2).rq R3 er
    have E13 := (E1.trans E2).trans E3
    cases x with
    | list xs =>
      obtain ⟨a, vs, rfl, h1, h2⟩ := rq
      refine .inl ⟨a, vs, rfl, .inl (.inl h1), fun p hp => ?_⟩
      have g : Grow H3 (upd H3 p (.lst (cutV vs l u))) := .upd hp
      have nr : NR X.K G3.F H3 (upd H3 p (.lst (cutV vs l u))) (.fresh (cutD xs l u)) (.ref p) := ⟨p, _, rfl, hp, upd_same, (h2.cut l u).keep g.keep⟩
      exact q _ ρ3 G3 _ _ (R3.grow g) (E13.trans g.evo) (nr.rt R3 fun a h => E13.none h) q3
    | tuple xs =>
      obtain ⟨a, vs, rfl, h1, h2⟩ := rq.tup
      refine .inr ⟨a, vs, rfl, h1, fun hw => ?_, fun _ p hp => ?_⟩
      · have e : cutD xs l u = xs := cut_whole (by rw [← h2.length]; exact hw)
        have q3' : Qv (.d (.tuple (cutD xs l u))) ρ3 := q3
        rw [e] at q3'
        exact q (.d (.tuple xs)) ρ3 G3 _ _ R3 E13 (show Rp _ _ _ _ _ from .tup h1 h2) q3'
      · have g : Grow H3 (upd H3 p (.tup (cutV vs l u))) := .upd hp
        exact q (.d (.tuple (cutD xs l u))) ρ3 G3 _ _ (R3.grow g) (E13.trans g.evo) (show Rp _ _ _ _ _ from .tup (.inl (.inl upd_same)) ((h2.cut l u).keep g.keep)) q3
    | _ => exact q3.elim⟩⟩⟩

/-! ### isinstance of one built-in class -/
def tyD : PyData → String
  | .none => "NoneType"
  | .bool _ => "bool"
  | .int _ => "int"
  | .str _ => "str"
  | .list _ => "list"
  | .tuple _ => "tuple"
  | .dict _ => "dict"
theorem tyD_ok {K : PySem.W.Frag} {F : Addr → Prop} {H : Hp} {v : V} {x : PyData} (r : Rq K F H v x) : TyX K H v (.type (tyD x)) := by
  cases x with
  | none => cases r.none; exact .base .non
  | bool b => cases r.bool; exact .base (.bl b)
  | int i => cases r.int; exact .base (.int i)
  | str y => cases r.str; exact .base (.str y)
  | list xs => obtain ⟨a, vs, rfl, h1, _⟩ := r; exact .base (.lst h1)
  | tuple xs =>
    obtain ⟨a, vs, rfl, h1, _⟩ := r.tup
    rcases h1 with (h1 | ⟨o, h1⟩) | ⟨o, its, n, h1, h2, _⟩
    · exact .base (.tup h1)
    · exact .fTuple h1
    · exact .kTuple h1 h2
  | dict kvs =>
    have r' : Rp K F H v (.dict kvs) := r
    cases r'
def wIsi (T : String) (we : EW) : EW := fun ρ Q E => we ρ (fun tv ρ1 => ∃ x k, res ρ1 tv = some x ∧ kitB (tyD x) T = some k ∧ Q (.d (.bool k)) ρ1) E
theorem ve_isi {T : String} (h : PE X e (tCB (rIsi X.K) (tCons (rdE X.K xk we) (tCons (tC (.ty T)) tNil)))) : VE X xk e (wIsi T we) := h.imp fun σ H Q ⟨G0, H0, G, ρ, Qv, Ev, R, xl, hw, q⟩ =>
  ⟨G0, H0, G, ρ, _, Ev, R, xl, hw, fun tv ρ1 G1 H1 v R1 E1 rt ⟨x, k, er, ek, q1⟩ =>
    ⟨v, .ty T, .type (tyD x), .type T, k, rfl, .ty T, tyD_ok (rt.rq R1 er), kit_ty ek, q (.d (.bool k)) ρ1 G1 H1 _ R1 E1 (show Rp _ _ _ _ _ from .bl _) q1⟩⟩
end
end VL
set_option Elab.async false
set_option linter.all false
set_option maxRecDepth 100000
set_option maxHeartbeats 2000000
/-! VL11: an own exception over an own base: class C(B): def __init__(self, f): super().__init__('..'); self.f = f -/
namespace ER
open PySem PySem.W PySem.Calls PyProof.Rows PySem.HandSPX PySem.ESX PySem.Builtin PySem.Builtin.ObjectAttr
def iB (txt f : Str) (j : Nat) (p0 p1 p2 p3 p4 p5 q1 q2 q3 q4 : Pos) : List Stmt :=
  [.Expr (.Call (.Attribute (.Call (.Name "super" p0) [] [] p1) "__init__" p2) [.Constant (.str txt) j p3] [] p4) p5, .Assign [.Attribute (.Name "self" q1) f q2] (.Name f q3) q4]
def iA (f : Str) (p1 p2 : Pos) : Arguments := { posonlyargs := [], args := [{ arg := "self", annotation := none, pos := p1 }, { arg := f, annotation := none, pos := p2 }], vararg := none, kwonlyargs := [], kw_defaults := [], kwarg := none, defaults := [] }
/-- names of the scope of such an __init__ -/
structure Sc (f : Str) (sc : Scope) : Prop where
  k : sc.kind = .function
  co : sc.isCoroutine = false
  gen : sc.isGenerator = false
  sup : sc.names.lookup ("super" : Str) = some .globalImplicit
  cls : sc.names.lookup ("__class__" : Str) = some .free
  slf : sc.names.lookup ("self" : Str) = some .local
  fld : sc.names.lookup f = some .local
  cell : ∀ x ∈ sc.names, x.2 ≠ .cell
  f2 : f = "at" ∨ f = "word"
/-- what the written part says of C, at C, its base at B, its __init__ at fI -/
structure Txt (K : Frag) (file : Str) (mg : Str → Option Value) (C fI B : Addr) (f : Str) : Prop where
  cls : ∃ nm q N bs sn sub ab col dd k0 k1 k2 k3 k5, K.lookup C = some (excClassObj nm q C N bs (.ref B :: exTail) true sn sub ab col dd k0 k1 k2 k3 k5 "Exception.__new__")
  sa : findIn K (.ref C) "__setattr__" = some (some (.builtin "object.__setattr__"))
  ga : findIn K (.ref C) "__getattribute__" = some (some (.builtin "BaseException.__getattribute__"))
  gg : findIn K (.ref C) "__getattr__" = some none
  noN : findIn K (.ref C) f = some none
  iC : findIn K (.ref C) "__init__" = some (some (.ref fI))
  tC : typeIn K (.ref fI) = some (.type "function")
  kC : keepIn K (.ref C) = true
  exC : subIn K (.ref C) (.type "BaseException") = some true
  ex2 : subIn K (.ref C) (.type "Exception") = some true
  tyC : typeIn K (.ref C) = some (.type "type")
  hdC : hasDictIn K C = true
  opq : nsIn K cStatics "thirdparty.any" = some none
  alg : alongIn K "__init__" (.ref B :: exTail) = some (some (.builtin "Exception.__init__"))
  own : mroIn K C (.ref C) = some true
  sup : mg "super" = none
  fn : ∃ (oc : Value) (od : Option Addr) (qual : Str) (sc : Scope) (doc pm : Value) (an : Option Addr) (ct : Value) (osl : Array (Option Value)) (cda cc : Addr) (txt : Str) (j : Nat) (r1 r2 p0 p1 p2 p3 p4 p5 q1 q2 q3 q4 : Pos)
      (ccl : Value) (cdd : Option Addr) (vs : Array Value) (ccs : Array (Option Value)) (tf : Tok) (cl : Value) (cld : Option Addr) (csl : Array (Option Value)),
    K.lookup fI = some ⟨oc, od, .func (fnX "__init__" qual (iA f r1 r2) (iB txt f j p0 p1 p2 p3 p4 p5 q1 q2 q3 q4) sc [("__class__", cc)] .none .none doc pm an (.ref cda) ct), osl⟩ ∧ codeIn K (.ref cda) qual = true ∧ Sc f sc ∧
      K.lookup cda = some ⟨ccl, cdd, .fields vs, ccs⟩ ∧ vs[2]? = some (.str file tf) ∧ K.lookup cc = some ⟨cl, cld, .cell (some (.ref C)), csl⟩ ∧ ∃ pl : Sem Bool, ∀ env : Env, eval (.Call (.Attribute (.Call (.Name "super" p0) [] [] p1) "__init__" p2) [.Constant (.str txt) j p3] [] p4) env = (do
        let ov ← attributeBase (.Call (.Name "super" p0) [] [] p1) "__init__" env (eval (.Call (.Name "super" p0) [] [] p1) env)
        standAt p2.atName
        let (f, first) ← holding [ov] (getMethod ov "__init__" pl)
        callWith p4 f first (backTo p4 (starEach [.Constant (.str txt) j p3] env)) [])

/-- what __init__ leaves of a fresh exception at x -/
structure InitEnd (h h' : Heap) (x C dx : Addr) (f : Str) (v : Value) : Prop where
  keep : ∀ b o, b ≠ x → h.get? b = some o → h'.get? b = some o
  obj : ∃ t1, h'.get? x = some { cls := .ref C, dict := some dx, data := .fields #[.ref t1, .none, .none, .none, .bool false, .none] }
  dbig : h.objs.size ≤ dx
  dne : dx ≠ x
  ns : h'.Ns1 dx (fun y => if y = f then some v else none)
structure OwnMade (h h' : Heap) (e C d : Addr) (f : Str) (v : Value) : Prop where
  keep : ∀ b o, h.get? b = some o → h'.get? b = some o
  new : h.objs.size ≤ e
  obj : ∃ oe vs, h'.get? e = some oe ∧ oe.cls = .ref C ∧ oe.dict = some d ∧ oe.data = .fields vs ∧ vs[1]? = some .none
  dbig : h.objs.size ≤ d
  dne : d ≠ e
  ns : h'.Ns1 d (fun y => if y = f then some v else none)
section
variable {prog : Program} {w : World} {A : Around} {E : Value → Shared → Prop} {R : Result → Shared → Prop} {s : Shared} {K : Frag} {mg mb : Str → Option Value} {C fI B : Addr} {f : Str}
theorem exTail_has {B : Addr} (X : String) (hX : exTail.contains (.type X) = true) {C : Addr} : (Value.ref C :: Value.ref B :: exTail).contains (.type X) = true := by
  rw [List.contains_cons, List.contains_cons, hX, Bool.or_true, Bool.or_true]
/-- the own dict: none yet -/
theorem osa_new2 {hp : Heap} {g : Array GenState} {d : Drawn} {t : Nat} {os : OsState} {name : Str} {tk : Tok} {v : Value} {x : Addr} {fv : Array Value} {cd : ClassData}
    (X : K.In hp) (hx : hp.get? x = some { cls := .ref C, data := .fields fv }) (hcd : clsIn K C = some cd) (hm : cd.mro = .ref C :: .ref B :: exTail) (hh : cd.hasDict = true) (ha : findIn K (.ref C) name = some none)
    (hq : ∀ h' tk' dx, (∀ b o, b ≠ x → hp.get? b = some o → h'.get? b = some o) → hp.objs.size ≤ dx → dx ≠ x → h'.get? x = some { cls := .ref C, dict := some dx, data := .fields fv } →
      h'.Ns1 dx (fun y => if y = name then some v else none) → R (.ok (.ret .none)) ⟨h', g, d, tk', os⟩) :
    codeAny (model prog w) A (.call (.builtin "object.__setattr__") ⟨[.ref x, .str name tk, v], []⟩) R ⟨hp, g, d, t, os⟩ := by
  have I : W.InstAt hp x { cls := .ref C, data := .fields fv } C none := ⟨hx, rfl, rfl, trivial⟩
  have hxs : x ≠ hp.objs.size := Nat.ne_of_lt (Heap.lt_size hx)
  have SF := F.store_object
  have sub : W.Looks (model prog w) hp (isInstance (.ref x) (.type "object")) true := I.type.andThen (W.looks_mroIn X (by unfold W.mroIn; rw [hcd, Option.bind_some, hm, if_neg (show ¬ (List.isEmpty (Value.ref C :: .ref B :: exTail) = true) from Bool.false_ne_true), exTail_has "object" (by decide +kernel)]))
  refine codeAny_call_builtin SF.slot.plain SF.entry (@W.check_slot (model prog w) _ _ ⟨hp, g, d, t, os⟩ "object.__setattr__" "object" "__setattr__" (.ref x) [.str name tk, v] [] _ SF.kind SF.split sub (SF.args (.ref x) (.str name tk) v) ?_)
  have hmr : W.Looks (model prog w) hp (mroOf (.ref C)) cd.mro := (W.looks_clsIn X hcd).andThen .now
  have L3 : W.Looks (model prog w) hp (storeTaker? none) none := .now
  have hpass : refuseLoop (.ref x) "__setattr__" cd.mro = pure () := by
    rw [hm, refuseLoop_ref, refuseLoop_ref]
    exact F.store_Exception.passes _
  have hcls : W.Looks (model prog w) hp (classData C) cd := W.looks_clsIn X hcd
  rw [W.osa_eq, refuse_eq]
  refine wpAny_bind (wpAny_bind (I.type.at (wpAny_bind (hmr.at ?_))))
  rw [hpass]
  refine wpAny_pure (wpAny_bind (I.type.at (wpAny_bind ((W.looks_findIn X ha).at (wpAny_bind (L3.at ?_))))))
  show wpAny _ _ (storeInOwnDict (.ref x) (.ref C) (.str name tk) name v false) _ _ _
  obtain ⟨nm, bs, mro, ns, qn, hd, sn, sb, ab, col, del⟩ := cd
  dsimp only at hh
  subst hh
  unfold storeInOwnDict Builtin.ObjectAttr.ownDictForStores
  repeat (first | with_reducible refine HandSPX.store_in_new ?_ ?_ | with_reducible refine wpAny_loadPart_at hx ?_ | with_reducible refine hcls.at ?_ | wp_step)
  · exact ⟨_, #[], _, (Heap.get?_update_ne _ _ _ _ hxs.symm).trans (Heap.get?_push_at rfl rfl), rfl, fun e he => absurd he (by simp), fun _ => rfl⟩
  · intro h' tk' hn' hs
    have hx₁ : (hp.push { cls := .type "dict", data := .dict #[] }).get? x = some { cls := .ref C, data := .fields fv } := Heap.get?_push_of_some _ hx
    refine hq h' tk' hp.objs.size (fun b o hb ho => ?_) (Nat.le_refl _) hxs.symm ?_ hn'
    · exact (hs.2 b (Nat.ne_of_lt (Heap.lt_size ho))).trans ((Heap.get?_update_ne _ _ _ _ hb).trans (Heap.get?_push_of_some _ ho))
    · exact (hs.2 x hxs).trans (Heap.get?_update_self _ hx₁ rfl)

theorem init_ok (T : Txt K prog.main.file mg C fI B f) {x t0 : Addr} {v : Value} (X : K.In s.heap) (hlim : s.heap.NoLimit) (hg : s.heap.Ns mainGlobals mg) (hb : s.heap.Ns builtinsNs mb) (hbb : mb "super" = some (.type "super"))
    (htop : (prog.main.scope.names.lookup ("super" : Str)).isSome = false)
    (hx : s.heap.get? x = some (excO C t0)) (hnx : K.lookup x = none) (hroom : A.depth < recursionLimit)
    (hq : ∀ h' tk dx, InitEnd s.heap h' x C dx f v → R (.ok (.ret .none)) { s with heap := h', toks := tk }) :
    codeAny (model prog w) A (.call (.ref fI) ⟨[.ref x, v], []⟩) R s := by
  obtain ⟨oc, od, qual, sc, doc, pm, an, ct, osl, cda, cc, txt, j, r1, r2, p0, p1, p2, p3, p4, p5, q1, q2, q3, q4, ccl, cdd, vs, ccs, tf, cl, cld, csl, ho, hcd, S, hcda, hvs, hcc, pl, hpl⟩ := T.fn
  obtain ⟨nm, q, N, bs, sn, sub, ab, col, dd, k0, k1, k2, k3, k5, hC⟩ := T.cls
  have hcl : clsIn K C = some { name := nm, bases := bs, mro := .ref C :: .ref B :: exTail, ns := N, qualname := q, hasDict := true, slotNames := sn, subclasses := sub, abstract := ab, collection := col, hasDel := false } := by unfold clsIn; rw [hC] <;> rfl
  obtain ⟨kd, nms, gn, cr, more⟩ := sc
  have ek : kd = .function := S.k
  subst ek
  have hl0 : ∀ y ∈ ([(Str.ofString "self", Value.ref x), (f, v)] : List (Str × Value)), nms.lookup y.1 = some .local := fun y hy => by
    rcases List.mem_cons.mp hy with rfl | hy
    · exact S.slf
    · rcases List.mem_cons.mp hy with rfl | hy
      · exact S.fld
      · cases hy
  have hbd : BindsTo s (fnX "__init__" qual (iA f r1 r2) (iB txt f j p0 p1 p2 p3 p4 p5 q1 q2 q3 q4) ⟨.function, nms, gn, cr, more⟩ [("__class__", cc)] .none .none doc pm an (.ref cda) ct) ⟨[.ref x, v], []⟩ [(Str.ofString "self", Value.ref x), (f, v)] := by
    rcases S.f2 with rfl | rfl
    · exact .of_eq (by first | rfl | with_unfolding_all rfl)
    · exact .of_eq (by first | rfl | with_unfolding_all rfl)
  have hfd : (f == ("__debug__" : Str)) = false := by rcases S.f2 with rfl | rfl <;> decide
  have hfs : (f == ("self" : Str)) = false := by rcases S.f2 with rfl | rfl <;> decide
  refine ks_codeAny_call_defAt hroom (X _ _ ho) rfl hlim (codeRec_of X hcd) rfl hbd S.cell hl0 (fun h₁ hns k => ?_) S.co S.gen S.k
  have X₁ : K.In h₁ := X.keeps k
  have hx₁ := k _ _ hx
  show PySem.wpAt _ _ (.func _ (ksEnv qual ⟨.function, nms, gn, cr, more⟩ s.heap.objs.size fI (.ref cda) cc)) (execs (iB txt f j p0 p1 p2 p3 p4 p5 q1 q2 q3 q4) (ksEnv qual ⟨.function, nms, gn, cr, more⟩ s.heap.objs.size fI (.ref cda) cc)) _ _ _
  have xC : x ≠ C := fun z => by
    rw [z, hC] at hnx
    cases hnx
  have mself : ([(Str.ofString "self", Value.ref x), (f, v)] : List (Str × Value)).reverse.lookup ("self" : Str) = some (.ref x) := by
    rcases S.f2 with rfl | rfl <;> rfl
  have mf : ([(Str.ofString "self", Value.ref x), (f, v)] : List (Str × Value)).reverse.lookup f = some v := by
    rcases S.f2 with rfl | rfl <;> rfl
  have lsz : s.heap.objs.size < h₁.objs.size := hns.lt
  refine ks_wpAt_execs_cons (ks_wpAt_Expr_any (ks_wpAt_MethodCall (pl := pl) ?_ (hpl _)) rfl rfl)
  refine ks_wpAt_super_base (env := ksEnv qual ⟨.function, nms, gn, cr, more⟩ s.heap.objs.size fI (.ref cda) cc) S.sup S.cls (by decide) rfl (X₁ _ _ ho) rfl rfl rfl (X₁ _ _ hcda) rfl hvs (by simp) htop ?_
  refine ks_loadName_global S.k S.sup (loadGlobal_builtin (env := ksEnv qual ⟨.function, nms, gn, cr, more⟩ s.heap.objs.size fI (.ref cda) cc) (hg.keeps k) T.sup (hb.keeps k) hbb ⟨rfl, ?_⟩)
  refine wpAny_loadName_free S.k S.cls rfl ⟨_, X₁ _ _ hcc, rfl⟩ ?_
  refine wpAny_loadName_local S.k S.slf hns mself ?_
  refine ks_wpAny_isType_cls (X₁ _ _ hC) rfl ⟨rfl, ?_⟩
  refine ks_wpAny_call_super (X₁ _ _ hC) rfl hx₁ rfl (fun c e => nomatch e) (looks_mroIn X₁ T.own) (fun h₂ hso k₂ => ?_)
  have X₂ : K.In h₂ := X₁.keeps k₂
  have hx₂ := k₂ _ _ hx₁
  have I2 : PySem.W.InstAt h₂ x (excO C t0) C none := ⟨hx₂, rfl, rfl, trivial⟩
  refine getMethod_super hso (looks_opaque X₂ T.opq) (l₀ := .ref C :: .ref B :: exTail) ((looks_clsIn X₂ hcl).andThen .now) (drop_own C _) X₂ T.alg xC (by decide) (I2.type.andThen (looks_subIn X₂ T.ex2)) ?_
  have k₃ : ∀ b o, h₂.get? b = some o → (h₂.push (bw x)).get? b = some o := fun b o e => Heap.get?_push_of_some _ e
  have hbw : (h₂.push (bw x)).get? h₂.objs.size = some (bw x) := Heap.get?_push_at rfl rfl
  refine callWith_bound (x := x) ?_
  refine Calls.spliced_cons (Calls.Constant_str (k := j) (pos := p3) (Calls.spliced_nil ⟨hbw, ?_⟩))
  refine call_bw ((X₂.keeps k₃) _ _ hC) (k₃ _ _ hx₂) hbw (by show 1 ≤ sizeLine; rw [sizeLine_eq]; omega) (fun h₄ t1 k₄ hx₄ => ?_)
  have k14 : ∀ b o, b ≠ x → h₁.get? b = some o → h₄.get? b = some o := fun b o n e => k₄ b o n (k₃ b o (k₂ b o e))
  have X₄ : K.In h₄ := fun a o e => k14 a o (fun z => by rw [z, hnx] at e; cases e) (X₁ a o e)
  have hLx : s.heap.objs.size ≠ x := Nat.ne_of_gt (Heap.lt_size hx)
  have hns₄ : h₄.Ns s.heap.objs.size (fun y => ([(Str.ofString "self", Value.ref x), (f, v)] : List (Str × Value)).reverse.lookup y) := by
    obtain ⟨oL, es, ep, hL, r⟩ := hns
    exact ⟨oL, es, ep, k14 _ _ hLx hL, r⟩
  show PySem.wpAt _ _ _ (execs [.Assign [.Attribute (.Name "self" q1) f q2] (.Name f q3) q4] _) _ _ _
  refine ks_wpAt_execs_cons (ks_wpAt_Assign_Attr ?_ rfl)
  refine PySem.wpAt_of_wpAny (wpAny_Name (wpAny_loadName_local S.k S.fld hns₄ mf ?_) hfd)
  refine wpAny_Name (wpAny_loadName_local S.k S.slf hns₄ mself ?_)
  refine set_plain X₄ (ox := excO C t1) (od := none) ⟨hx₄, rfl, rfl, trivial⟩ T.sa ?_
  refine osa_new2 X₄ hx₄ hcl rfl rfl T.noN (fun h₅ tk₅ dx k₅ dn dne hx₅ hn₅ => ?_)
  show PySem.wpAt _ _ _ (execs [] _) _ _ _
  have kk : ∀ b o, b ≠ x → s.heap.get? b = some o → h₅.get? b = some o := fun b o n e => k₅ b o n (k14 b o n (k b o e))
  have big : s.heap.objs.size ≤ dx := by
    have z : s.heap.objs.size < h₄.objs.size := by
      obtain ⟨oL, es, ep, hL, r⟩ := hns₄
      exact Heap.lt_size hL
    exact Nat.le_of_lt (Nat.lt_of_lt_of_le z dn)
  exact PySem.wpAt_of_wpAny (wpAny_execs_nil (hq h₅ tk₅ dx ⟨kk, ⟨t1, hx₅⟩, big, dne, hn₅⟩))

theorem bm_has {B : Addr} (X : String) : (Value.ref B :: exTail).contains (.type X) = exTail.contains (.type X) := by
  rw [List.contains_cons]
  rfl
theorem made (T : Txt K prog.main.file mg C fI B f) {v : Value} (X : K.In s.heap) (hlim : s.heap.NoLimit) (hg : s.heap.Ns mainGlobals mg) (hb : s.heap.Ns builtinsNs mb) (hbb : mb "super" = some (.type "super"))
    (htop : (prog.main.scope.names.lookup ("super" : Str)).isSome = false) (hroom : A.depth + 1 < recursionLimit)
    (hq : ∀ h' tk e d, OwnMade s.heap h' e C d f v → R (.ok (.ret (.ref e))) { s with heap := h', toks := tk }) :
    codeAny (model prog w) A (.call (.ref C) ⟨[v], []⟩) R s := by
  obtain ⟨nm, q, N, bs, sn, sub, ab, col, dd, k0, k1, k2, k3, k5, hC⟩ := T.cls
  obtain ⟨hp, g, dr, tk, os⟩ := s
  have k : ∀ b o, hp.get? b = some o → ((hp.push (kdv_tup [v])).push (excO C hp.objs.size)).get? b = some o := fun b o e => Heap.get?_push_of_some _ (Heap.get?_push_of_some _ e)
  have hget : ((hp.push (kdv_tup [v])).push (excO C hp.objs.size)).get? (hp.objs.size + 1) = some (excO C hp.objs.size) := by heap_get
  have hnx : K.lookup (hp.objs.size + 1) = none := by
    cases e : K.lookup (hp.objs.size + 1) with
    | none => rfl
    | some o =>
      have z : hp.get? (hp.objs.size + 1) = some o := X _ _ e
      exact absurd (Nat.lt_of_succ_lt (Heap.lt_size z)) (Nat.lt_irrefl _)
  refine call_own F.excBase_Exception (fun X => bm_has X) (X _ _ hC) (looks_findIn X T.iC) (fun self => bind_fn X self T.tC) (by show 1 ≤ sizeLine; rw [sizeLine_eq]; omega) ?_
  refine init_ok (s := ⟨(hp.push (kdv_tup [v])).push (excO C hp.objs.size), g, dr, tk, os⟩) T (X.keeps k) (hlim.keeps k) (hg.keeps k) (hb.keeps k) hbb htop hget hnx ?_ fun h' tk' dx ⟨k', hx, dn, dne, hns⟩ => ?_
  · show A.depth + 1 < recursionLimit
    exact hroom
  · have old : ∀ b o, hp.get? b = some o → h'.get? b = some o := fun b o e => k' b o (Nat.ne_of_lt (Nat.lt_succ_of_lt (Heap.lt_size e))) (k b o e)
    have z : hp.objs.size + 1 + 1 ≤ dx := by
      first
        | (simpa only [Heap.size_push] using dn)
        | exact dn
        | (have q := dn; rw [Heap.size_push, Heap.size_push] at q; exact q)
    obtain ⟨t1, hx⟩ := hx
    exact ⟨rfl, hq h' tk' (hp.objs.size + 1) dx ⟨old, Nat.le_succ _, ⟨_, _, hx, rfl, rfl, rfl, rfl⟩, Nat.le_trans (Nat.le_trans (Nat.le_succ _) (Nat.le_succ _)) z, dne, hns⟩⟩
end
end ER
namespace L2
open PySem PySem.Spec PyProof.Rows
theorem relO_own {v : V} {v' : Value} {n : Str} (r : RelV v v') (f : Str) : RelO (List.lookup f [(n, v)]) (if f = n then some v' else none) := by
  by_cases hw : f = n
  · subst hw
    rw [if_pos rfl]
    have q : List.lookup f [(f, v)] = some v := by simp [List.lookup]
    rw [q]
    exact r
  · rw [if_neg hw]
    have qw : (f == n) = false := by simpa using hw
    have q2 : List.lookup f [(n, v)] = none := by simp [List.lookup, qw]
    rw [q2]
    trivial
section
variable {X : Cx} {C fI B : Addr} {f : Str}
/-- C(e) -/
def tMkOwn (C : Addr) (f : Str) (ta : TA) : St → Hp → XK → Prop := fun σ H Q => ta σ H fun vs H1 => ∃ v, vs = [v] ∧ ∀ d, H1 d = none → Q (.ref C) (some d) (upd H1 d (.xd [(f, v)]))
theorem pmk_own2 {x : Str} {a : Expr} {ta : TA} {p pos : Pos} {k : Nat} (T : ER.Txt X.K X.prog.main.file X.mg C fI B f) (gC : X.mg x = some (.ref C)) (htop : (X.prog.main.scope.names.lookup ("super" : Str)).isSome = false) (hr : Room k X.A) (ha : PA X [a] ta) (hg : Gl X x := by rfl)
    (hdb : (x == ("__debug__" : Str)) = false := by decide) (he : starEach (a :: []) X.env = (false, eval a X.env) :: starEach [] X.env := by rfl) (hpl : (backTo pos (starEach [] X.env)).any (·.1) = false := by rfl) :
    PMk X (.Call (.Name x p) [a] [] pos) (tMkOwn C f ta) := by
  intro pins s σ H Q I h
  refine wpAny_Call_Name_kw (ld_glob I hg gC ?_ hdb)
  refine PySem.W.callWith_K (h₀ := X.base) I.ok.mod.kin T.kC (thn (ha.run pos pins s σ H _ I h) fun us s1 hh => ?_) he hpl
  obtain ⟨vs, H1, I1, r1, v, ev, q1⟩ := hh
  subst ev
  refine ⟨I1.kIn, ?_⟩
  cases r1 with
  | cons rv rn =>
    rename_i v' us'
    cases rn
    show wpAny _ _ (call (.ref C) [v']) _ _ _
    have hlim := I1.nolimit
    obtain ⟨mb, hb1, hb2⟩ := I1.mod.blt
    have hgl := I1.mod.glob.keeps I1.bk
    have hbl := hb1.keeps I1.bk
    have hKI := I1.kIn
    obtain ⟨hp, g, dr, tk, os⟩ := s1
    refine wpAny_call (ER.made T hKI hlim hgl hbl ((hb2 _ (by decide)).trans (by first | boot_by_name | rfl | kernel_rfl)) htop (by have := hr.dp; omega) fun h' tk' e d M => ?_)
    show MkP X pins σ Q (.ref e) ⟨h', g, dr, tk', os⟩
    obtain ⟨oe, fv, hoe, hc, hd, hdat, h1⟩ := M.obj
    have hns := M.ns
    obtain ⟨G', g1, g2⟩ := restrict h' fun b => decide (b ≠ e)
    have gk : ∀ b, b ≠ e → G'.get? b = h'.get? b := fun b hb => g1 b (decide_eq_true hb)
    have ge : G'.get? e = none := g2 e (by simp)
    have old : ∀ b o, hp.get? b = some o → G'.get? b = some o := fun b o q => (gk b (Nat.ne_of_lt (Nat.lt_of_lt_of_le (Heap.lt_size q) M.new))).trans (M.keep b o q)
    have ob : ObjOk X.prog X.w (upd H1 d (.xd [(f, v)])) G' d (.xd [(f, v)]) :=
      ⟨_, hns.at (fun o q => (gk d M.dne).trans q), fun y => relO_own rv y⟩
    have J : Inv X pins σ (upd H1 d (.xd [(f, v)])) ⟨G', g, dr, tk', os⟩ := I1.laid (t' := tk') old M.dbig ob
    refine ⟨e, oe, fv, ⟨G', g, dr, tk', os⟩, _, .ref C, some d, rfl, J, fun b o q => ?_, ge, hoe, ⟨hc, hd⟩, hdat, h1, ?_, rfl, I1.bare, raises_own T.exC T.tyC, q1 d (I1.hok.fresh M.dbig)⟩
    · by_cases hb : b = e
      · have q' : G'.get? b = some o := q
        rw [hb, ge] at q'; cases q'
      · exact (gk b hb).symm.trans q
    · rw [upd_ne (Ne.symm M.dne)]
      exact I1.hok.fresh M.new
/-- raise C(e) -/
def tRaiseOwn (C : Addr) (f : Str) (W : WX) (ta : TA) : TS := fun _ σ H => tMkOwn C f ta σ H fun cls d H' => W cls d σ H'
theorem ps_raiseOwn {x : Str} {a : Expr} {ta : TA} {W : WX} {p pos pos2 : Pos} {k : Nat} (hc : X.calm = true) (T : ER.Txt X.K X.prog.main.file X.mg C fI B f) (gC : X.mg x = some (.ref C)) (htop : (X.prog.main.scope.names.lookup ("super" : Str)).isSome = false) (hr : Room k X.A) (tk : Takes X W) (ha : PA X [a] ta) (hg : Gl X x := by rfl)
    (hdb : (x == ("__debug__" : Str)) = false := by decide) (he : starEach (a :: []) X.env = (false, eval a X.env) :: starEach [] X.env := by rfl) (hpl : (backTo pos (starEach [] X.env)).any (·.1) = false := by rfl) :
    PS X (.Raise (some (.Call (.Name x p) [a] [] pos)) none pos2) (tRaiseOwn C f W ta) := ps_raise hc tk (pmk_own2 T gC htop hr ha hg hdb he hpl)
end
end L2
namespace VL
open PySem PySem.Spec PyProof.Rows L2
section
variable {X : Cx} {xk : XK} {C : Addr} {f : Str} {e : Expr} {we : EW} {st : Stmt}
/-- raise C(e): the field holds data without lists -/
def wRaise (C : Addr) (f : Str) (we : EW) : SW := fun ρ P E => we ρ (fun tv ρ1 => ∃ x, tv = .d x ∧ nolist x = true ∧ E ⟨.ref C, [(f, x)]⟩) E
theorem vs_raise (h : PS X st (tRaiseOwn C f (fun cls d _ H => xk cls d H) (rdA X.K xk (wCons we wNil)))) : VS X xk st (wRaise C f we) := h.imp fun D σ H ⟨G0, H0, G, ρ, P, Ev, S, R, xl, hw, l, sb, sg⟩ => by
  refine ⟨G0, H0, G, ρ, (fun tvs ρ1 => ∃ x, tvs = [.d x] ∧ nolist x = true ∧ Ev ⟨.ref C, [(f, x)]⟩), Ev, R, xl, ?_, fun tvs ρ1 G1 H1 vs R1 E1 rts q => ?_⟩
  · show we ρ _ Ev
    have e : (fun (tv : TV) (ρ1 : SE) => ∃ x, tv = .d x ∧ nolist x = true ∧ Ev ⟨.ref C, [(f, x)]⟩) = fun tv ρ1 => ∃ x, [tv] = [TV.d x] ∧ nolist x = true ∧ Ev ⟨.ref C, [(f, x)]⟩ := by
      funext tv ρ1
      apply propext
      constructor
      · rintro ⟨x, h1, h2⟩
        exact ⟨x, by rw [h1], h2⟩
      · rintro ⟨x, h1, h2⟩
        cases h1
        exact ⟨x, rfl, h2⟩
    have hw' : we ρ (fun tv ρ1 => ∃ x, tv = .d x ∧ nolist x = true ∧ Ev ⟨.ref C, [(f, x)]⟩) Ev := hw
    rw [e] at hw'
    exact hw'
  · obtain ⟨x, rfl, nl, q⟩ := q
    cases rts with
    | @cons _ v _ _ r rn _ =>
      cases rn
      refine ⟨v, rfl, fun d hd => ?_⟩
      have gr : Grow H1 (upd H1 d (.xd [(f, v)])) := .upd hd
      have r' : Rp X.K G1.F H1 v x := r
      refine xl ⟨.ref C, [(f, x)]⟩ G1.D _ _ _ (Ext.low (F' := G1.F) ((R1.ext).grow gr)) ⟨rfl, d, _, rfl, upd_same, .cons ⟨rfl, (r'.keep gr.keep).flat nl⟩ .nil⟩ q
end
end VL
set_option Elab.async false
set_option linter.all false
set_option maxRecDepth 100000
/-! VL12: several named except clauses; a try whose first statement may raise; fields and kinds of a held exception; arguments given away. -/
namespace L2
open PySem PySem.Spec PyProof.Rows
/-- what the clauses 'except x as n' wish of an exception, one after the other -/
def wManyA (K : PySem.W.Frag) (Wout : WX) (D : Ends) : List (Value × Nat × (Addr → Value → Option Addr → TS)) → WX
  | [] => Wout
  | (c, i, ts) :: r => fun cls d σ H => ∃ b, PySem.W.exmOne K cls c = some b ∧
      (b = true → ∀ a, H a = none → ts a cls d { nx := fun σ' H' => D.nx (σ'.set i none) H', rt := D.rt, bk := fun σ' H' => D.bk (σ'.set i none) H', ct := fun σ' H' => D.ct (σ'.set i none) H' } (σ.set i (some (.ref a))) H) ∧
      (b = false → wManyA K Wout D r cls d σ H)
inductive HdsA (X : Cx) : List ExceptHandler → List (Value × Nat × (Addr → Value → Option Addr → TS)) → Prop
  | nil : HdsA X [] []
  | cons {x n : Str} {c : Value} {i : Nat} {ts : Addr → Value → Option Addr → TS} {b₀ : Stmt} {suite : List Stmt} {np pos' : Pos} {hds : List ExceptHandler} {l : List (Value × Nat × (Addr → Value → Option Addr → TS))}
      (hi : X.N[i]? = some n) (hln : X.env.kindOf n = some .local) (hc : Names X x c)
      (hsu : ∀ (a : Addr) (oe : Obj) (cls : Value) (d : Option Addr) (pn : List (Addr × Obj)), Zc cls d oe → (∃ vs, oe.data = .fields vs) → PSs (X.suite a ((a, oe) :: pn)) (b₀ :: suite) (ts a cls d)) (r : HdsA X hds l) :
      HdsA X (.ExceptHandler (some (.Name x np)) (some n) (b₀ :: suite) pos' :: hds) ((c, i, ts) :: l)
section
variable {X : Cx} {body : List Stmt} {h₀ : ExceptHandler} {hds : List ExceptHandler} {l : List (Value × Nat × (Addr → Value → Option Addr → TS))} {pos : Pos} {tb : WX → TS} {Wout : WX}
theorem ps_try_asm (hs : X.stack = X.env :: X.outer) (hf : X.env.frame = some X.env.locals) (hN : X.N.Nodup) (tk : Takes X Wout)
    (hb : ∀ (W : WX) (pn : List (Addr × Obj)) (xe : Value → Shared → Prop), Takes (X.tr pn xe) W → PassesOwn (model X.prog X.w) X.A X.env xe → PSs (X.tr pn xe) body (tb W))
    (hh : HdsA X (h₀ :: hds) l) : PS X (.Try body (h₀ :: hds) [] [] pos) (fun D σ H => tb (wManyA X.K Wout D l) D σ H) := by
  refine ⟨fun pins s σ H D I h => ?_⟩
  have ok := I.ok
  have hfr : X.A.frames = some (X.env :: X.outer) := by rw [ok.frames, hs]
  refine wpAny_Try_except ?_
  refine wpAny_mono ((hb (wManyA X.K Wout D l) (X.pn ++ pins) (fun e s₁ => wpAny (model X.prog X.w) X.A (noteFrame e X.env) (fun _ s₂ => wpAny (model X.prog X.w) X.A (setFlight e none) (fun _ s₃ =>
    wpAny (model X.prog X.w) X.A (handleBy e X.env (h₀ :: hds)) (SP X pins D) X.xe s₃) X.xe s₂) X.xe s₁) (fun u s' xx => ?_) PassesOwn.looking).run [] s σ H D (I.toTry _) h) (fun f s1 hsp => ?_) (fun e s1 he => he)
  · -- the catch
    obtain ⟨a, B, sI, pins', σ', H', cls, d, rfl, J', nb, up, sky, na, os, ag, w⟩ := xx
    have J : Inv X pins σ' H' sI := J'.ofTry ok
    have sky' : Sky B (X.env :: X.outer) a (Zc cls d) X.env.locals s'.heap := by rw [← hs]; exact sky
    show wpAny (model X.prog X.w) X.A (noteFrame (.ref a) X.env) _ _ _
    refine Sky.land Zc.steady hfr hf sky' fun h3 fl3 up3 => ?_
    have J3 : Inv X pins σ' H' { s' with heap := h3 } := J.landed nb fl3.1 (up.trans up3) os ag
    obtain ⟨oe3, vs3, he3, hz3, hd3⟩ := fl3.there
    have notFr : ∀ {h : Heap} {o : Obj} {vs : Array Value}, h.FunFrames B (X.env :: X.outer) → h.get? a = some o → o.data = .fields vs → a ∉ frs (X.env :: X.outer) := fun {h o vs} ff e dd hm => by
      obtain ⟨_, o', e', hnf⟩ := ff.mem hm
      rw [e] at e'; cases e'
      exact hnf _ dd
    have nfr := notFr fl3.2.2.1 he3 hd3
    have nL : a ≠ X.env.locals := fun z => nfr (List.mem_filterMap.mpr ⟨X.env, List.mem_cons_self, by rw [hf, z]⟩)
    have nF : a ∉ X.fs := fun hm => by
      obtain ⟨e, he, q⟩ := List.mem_filterMap.mp hm
      exact nfr (List.mem_filterMap.mpr ⟨e, List.mem_cons_of_mem _ he, q⟩)
    have S3 := J3.suite he3 hd3 na nL nF
    have go : ∀ {hds' : List ExceptHandler} {l' : List (Value × Nat × (Addr → Value → Option Addr → TS))}, HdsA X hds' l' → wManyA X.K Wout D l' cls d σ' H' →
        wpAny (model X.prog X.w) X.A (handleBy (.ref a) X.env hds') (SP X pins D) X.xe { s' with heap := h3 } := by
      intro hds' l' hk
      induction hk with
      | nil =>
        intro w
        refine wpAny_handleBy_nil ?_
        obtain ⟨k1, k2, k3, oe, vs, T, oT, ts', he, hz, hd, h1, hr⟩ := id fl3
        unfold PySem.passOn
        refine wpAny_bind (wpAny_field he hd h1 ?_)
        rw [if_neg (show ¬ ((Value.ref T == Value.none) = true) from by simp)]
        have fin : wpAny (model X.prog X.w) X.A (setFlight (.ref a) X.env.frame) (fun _ s4 => wpAny (model X.prog X.w) X.A (throw (.ref a) : Sem Flow) (SP X pins D) X.xe s4) X.xe { s' with heap := h3 } := by
          rw [hf]
          refine HandSPX.setFlight_upZ fl3 fun h4 hh4 up4 => wpAny_throw (tk _ _ ?_)
          exact ⟨a, B, sI, pins, σ', H', cls, d, rfl, J, nb, (up.trans up3).trans up4, .inr (.inr (by rw [hs]; exact hh4)), na, os, ag, w⟩
        first
          | exact wpAny_bind (wpAny_pure (wpAny_bind fin))
          | exact wpAny_bind fin
      | @cons x n c i ts b₀ suite np pos' hds2 l2 hi hln hc hsu r ih =>
        intro w
        obtain ⟨b, hb1, hyes, hno⟩ := w
        have hloc : Loc X.env.scope n := .inl hln
        refine wpAny_handleBy_cons (codeAny_handlers_test ?_) (by intro q; cases q)
        have LT : PySem.W.Looks (model X.prog X.w) h3 (typeOf (.ref a)) cls := fun A Q E s k q => wpAny_typeOf_ref (k _ _ he3) (by rw [hz3.1]; exact q)
        have LM := PySem.W.exm_one (M := model X.prog X.w) (J3.kIn) LT hb1
        have test : ∀ {Q : Value → Shared → Prop} {E : Value → Shared → Prop}, Q c { s' with heap := h3 } → wpAny (model X.prog X.w) (X.A.mark (some (.ref a))) (eval (.Name x np) X.env) Q E { s' with heap := h3 } := fun {Q E} q => by
          obtain ⟨hg, hdbg, hm | ⟨hm, hv, hnn⟩⟩ := hc
          · exact ld_glob (X := X.suite a ((a, oe3) :: (X.pn ++ pins))) S3 hg hm q hdbg
          · exact ld_blt (X := X.suite a ((a, oe3) :: (X.pn ++ pins))) S3 hg hm hv q hnn hdbg
        refine test (LM.here ?_)
        cases b with
        | true =>
          refine codeAny_handlers_suite_as ?_
          refine HandSPX.lands_againZ fl3 fun h4 fl4 up4 => ?_
          have J4 : Inv X pins σ' H' { s' with heap := h4 } := J.landed nb fl4.1 ((up.trans up3).trans up4) os ag
          obtain ⟨oe4, vs4, he4, hz4, hd4⟩ := fl4.there
          have S4 := J4.suite he4 hd4 na nL nF
          refine store_ok (X := X.suite a ((a, oe4) :: (X.pn ++ pins))) (v := .ref a) S4 hN hi hloc rfl (fun s5 S5 => ?_) (.inr hln)
          refine wpAny_mono ((hsu a oe4 cls d (X.pn ++ pins) hz4 ⟨_, hd4⟩).run [] s5 _ H' _ S5 (hyes rfl a na)) (fun f s6 hsp => ?_) (fun _ _ z => False.elim z)
          have end_ : ∀ {σ6 : St} {H6 : Hp} {Q : Shared → Prop}, Inv (X.suite a ((a, oe4) :: (X.pn ++ pins))) [] σ6 H6 s6 → (∀ s7, Inv X pins (σ6.set i none) H6 s7 → Q s7) →
              wpAny (model X.prog X.w) X.A (do bindName X.env n .none; unbindBehindTheSuite X.env n pos') (fun _ s7 => Q s7) X.xe s6 := fun {σ6 H6 Q} S6 hq => gone_ok (S6.unsuite ok) hN hi hln hq
          cases f with
          | next =>
            obtain ⟨σ6, H6, S6, q6⟩ := hsp
            exact end_ S6 fun s7 J7 => ⟨_, _, J7, q6⟩
          | brk =>
            obtain ⟨σ6, H6, S6, q6⟩ := hsp
            exact end_ S6 fun s7 J7 => ⟨_, _, J7, q6⟩
          | cont =>
            obtain ⟨σ6, H6, S6, q6⟩ := hsp
            exact end_ S6 fun s7 J7 => ⟨_, _, J7, q6⟩
          | ret u =>
            obtain ⟨v6, σ6, H6, S6, r6, q6⟩ := hsp
            exact end_ S6 fun s7 J7 => ⟨_, _, _, J7, r6, q6⟩
        | false =>
          show wpAny _ X.A (handleBy (.ref a) X.env hds2) _ _ _
          exact ih (hno rfl)
    exact go hh w
  · cases f with
    | next =>
      obtain ⟨σ', H', J', q⟩ := hsp
      exact wpAny_execs_nil ⟨σ', H', J'.ofTry ok, q⟩
    | brk =>
      obtain ⟨σ', H', J', q⟩ := hsp
      exact ⟨σ', H', J'.ofTry ok, q⟩
    | cont =>
      obtain ⟨σ', H', J', q⟩ := hsp
      exact ⟨σ', H', J'.ofTry ok, q⟩
    | ret u =>
      obtain ⟨v, σ', H', J', r, q⟩ := hsp
      exact ⟨v, σ', H', J'.ofTry ok, r, q⟩
end
end L2

namespace VL
open PySem PySem.Spec PyProof.Rows L2
/-! ### the slots as a callee sees them: nobody's list changes -/
def seeO : Option SV → Option SV
  | some (SV.own xs) => some (SV.d (.list xs))
  | o => o
def seeS (ρ : SE) : SE := ρ.map seeO
def valsOf (σ : St) : List V := σ.filterMap id
section
variable {K : PySem.W.Frag} {G0 G G' G'' G1 Gs : Gh} {H0 H H' H'' Hs : Hp} {ρ ρ' ρ'' ρs : SE} {σ : St}
theorem seeS_no {i : Nat} {xs : List PyData} : (seeS ρ)[i]? ≠ some (some (SV.own xs)) := fun z => by
  unfold seeS at z
  rw [List.getElem?_map] at z
  cases q : ρ[i]? with
  | none => rw [q] at z; cases z
  | some o =>
    rw [q] at z
    cases o with
    | none => cases z
    | some sv => cases sv <;> cases z
theorem Rep.see (R : Rep K G0 H0 G ρ σ H) : Rep K (G.see H (valsOf σ)) H (G.see H (valsOf σ)) (seeS ρ) σ H where
  ext := see_ext R.ext _
  len := by unfold seeS; rw [List.length_map]; exact R.len
  slot := fun i sv e => by
    unfold seeS at e
    rw [List.getElem?_map] at e
    cases q : ρ[i]? with
    | none => rw [q] at e; cases e
    | some o =>
      rw [q] at e
      cases o with
      | none => cases e
      | some sv0 =>
        obtain ⟨v, e1, r⟩ := R.slot i sv0 q
        have hv : v ∈ valsOf σ := List.mem_filterMap.mpr ⟨some v, List.mem_of_getElem? e1, rfl⟩
        refine ⟨v, e1, ?_⟩
        cases sv0 with
        | d x => cases e; exact Rp.keep (see_keep _) r
        | own xs =>
          cases e
          obtain ⟨a, ws, e, h1, h2, h3, h4⟩ := r
          subst e
          exact .lst (.inr ⟨hv, ⟨_, h1⟩, h4⟩) h1 (h2.keep (see_keep _))
        | deal k => cases e; exact r
        | obj C fs =>
          cases e
          obtain ⟨a, dx, vs, e, h1, h2⟩ := r
          exact ⟨a, dx, vs, e, h1, h2.keep (see_keep _)⟩
        | me a => cases e; exact r
        | exc a d fs => cases e; exact r
        | scr ns => cases e; exact r
  inj := fun i j xs ys a e _ _ _ => absurd e seeS_no
  new := fun a ⟨i, xs, e, _⟩ => absurd e seeS_no
/-- a slot is forgotten -/
theorem Rep.del (R : Rep K G0 H0 G ρ σ H) (i : Nat) : Rep K G0 H0 G (ρ.set i none) (σ.set i none) H := by
  have at_ : ∀ (j : Nat) (tv : SV), (ρ.set i none)[j]? = some (some tv) → j ≠ i ∧ ρ[j]? = some (some tv) ∧ (σ.set i none)[j]? = σ[j]? := fun j tv e => by
    by_cases hj : j = i
    · subst hj
      have hi : j < ρ.length := by
        have := (List.getElem?_eq_some_iff.mp e).1
        rwa [List.length_set] at this
      rw [List.getElem?_set_self hi] at e
      cases e
    · rw [List.getElem?_set_ne (Ne.symm hj)] at e
      exact ⟨hj, e, List.getElem?_set_ne (Ne.symm hj)⟩
  refine ⟨R.ext, by rw [List.length_set, List.length_set]; exact R.len, fun j tv e => ?_, fun j k xs ys a q1 q2 q3 q4 => ?_, fun a ⟨j, xs, q1, q2⟩ => ?_⟩
  · obtain ⟨hj, h1, h2⟩ := at_ j tv e
    obtain ⟨u, e1, r⟩ := R.slot j tv h1
    exact ⟨u, by rw [h2]; exact e1, r⟩
  · obtain ⟨_, h1, h2⟩ := at_ j _ q1
    obtain ⟨_, h3, h4⟩ := at_ k _ q2
    rw [h2] at q3
    rw [h4] at q4
    exact R.inj j k xs ys a h1 h3 q3 q4
  · obtain ⟨_, h1, h2⟩ := at_ j _ q1
    rw [h2] at q2
    exact R.new a ⟨j, xs, h1, q2⟩
end

/-! ### a try whose first statement may raise -/
/-- a clause: its class, the slot of its name, its suite by the exception, its class, its dict -/
abbrev Clv := Value × Nat × (Addr → Value → Option Addr → SW)
def wHs (K : PySem.W.Frag) : List Clv → Xn → SW
  | [], xn, _, _, E => E xn
  | (c, i, ws) :: r, xn, ρ, P, E => ∃ b, PySem.W.exmOne K xn.c c = some b ∧ if b = true then ∀ a d, ws a xn.c (some d) (ρ.set i (some (SV.exc a d xn.fs)))
      { nx := fun ρ' => P.nx (ρ'.set i none), rt := P.rt, bk := fun ρ' => P.bk (ρ'.set i none), ct := fun ρ' => P.ct (ρ'.set i none) } (fun _ => False) else wHs K r xn ρ P E
def rdES (K : PySem.W.Frag) (W : WX) (w : EW) : TE := fun σ H Q => rdE K (WE W σ) w σ H Q
/-- x = e, then the rest, in a try: e's value has no lists within -/
def wTryA (K : PySem.W.Frag) (i : Nat) (we : EW) (wr : SW) (hs : List Clv) : SW := fun ρ P E =>
  we (seeS ρ) (fun tv _ => flatT tv = true ∧ ∃ sv ρ3, sto ρ tv = some (sv, ρ3) ∧ wr (ρ3.set i (some sv)) P (fun _ => False)) (fun xn => wHs K hs xn ρ P E)
/-- e, then the rest -/
def wTryE (K : PySem.W.Frag) (we : EW) (wr : SW) (hs : List Clv) : SW := fun ρ P E =>
  we (seeS ρ) (fun tv _ => flatT tv = true ∧ wr ρ P (fun _ => False)) (fun xn => wHs K hs xn ρ P E)
def rdC (K : PySem.W.Frag) (hs : List Clv) : List (Value × Nat × (Addr → Value → Option Addr → TS)) := hs.map fun p => (p.1, p.2.1, fun a cls d => rdS K E0 (p.2.2 a cls d))
section
variable {X : Cx} {xk : XK}
theorem hs_ok {K : PySem.W.Frag} {G0 : Gh} {H0 : Hp} {S : (Addr → Prop) → Hp → Prop} {P : Po} {D : Ends} {Ev : QX} {xn : Xn} {c : Value} {d : Option Addr} (xl : XL K G0 H0 Ev xk) (l : Lk K G0 H0 S P D) (sb : Stb K S) :
    ∀ {hs : List Clv} {G : Gh} {ρ : SE} {σ : St} {H : Hp}, Rep K G0 H0 G ρ σ H → S G.F H → XR K H xn c d → wHs K hs xn ρ P Ev → wManyA K (fun cls d _ H => xk cls d H) D (rdC K hs) c d σ H
  | [], G, ρ, σ, H, R, sg, xr, hw => xl xn G.D H c d (Ext.low (F' := G.F) R.ext) xr hw
  | (cc, i, ws) :: r, G, ρ, σ, H, R, sg, xr, hw => by
    obtain ⟨b, hb, hw⟩ := hw
    obtain ⟨ec, dd, vs, ed, hdd, rf⟩ := id xr
    subst ec
    subst ed
    refine ⟨b, hb, fun e a na => ?_, fun e => ?_⟩
    · subst e
      rw [if_pos rfl] at hw
      have hw := hw a dd
      have R1 : Rep K G0 H0 G (ρ.set i (some (SV.exc a dd xn.fs))) (σ.set i (some (.ref a))) H := R.set (sv := .exc a dd xn.fs) (v := .ref a) ⟨rfl, vs, hdd, rf⟩ fun _ _ z => nomatch z
      refine ⟨G0, H0, G, _, _, _, S, R1, e0_xl, hw, ⟨fun ρ1 G1 σ1 H1 R2 s2 q => l.nx _ G1 _ H1 (R2.del i) s2 q, l.rt, fun ρ1 G1 σ1 H1 R2 s2 q => l.bk _ G1 _ H1 (R2.del i) s2 q, fun ρ1 G1 σ1 H1 R2 s2 q => l.ct _ G1 _ H1 (R2.del i) s2 q⟩, sb, sg⟩
    · subst e
      rw [if_neg Bool.false_ne_true] at hw
      exact hs_ok xl l sb R sg xr hw
/-- behind the first statement's expression -/
theorem try_core {K : PySem.W.Frag} {G0 G : Gh} {H0 H : Hp} {S : (Addr → Prop) → Hp → Prop} {P : Po} {D : Ends} {Ev : QX} {ρ : SE} {σ : St} {we : EW} {hs : List Clv} {Qv : TV → Prop} {Q : VK} (R : Rep K G0 H0 G ρ σ H) (xl : XL K G0 H0 Ev xk) (l : Lk K G0 H0 S P D) (sb : Stb K S) (sg : S G.F H)
    (hw : we (seeS ρ) (fun tv _ => flatT tv = true ∧ Qv tv) (fun xn => wHs K hs xn ρ P Ev))
    (hq : ∀ G' H' tv v, Rep K G0 H0 G' ρ σ H' → Keep K G.F H G'.F H' → RT K H G' ρ σ H' tv v → Qv tv → Q v H') : rdES K (wManyA K (fun cls d _ H => xk cls d H) D (rdC K hs)) we σ H Q := by
  refine ⟨_, H, _, seeS ρ, _, _, R.see, fun xn D' H' c d ex xr ev => ?_, hw, fun tv ρ2 G2 H2 v R2 E2 rt ⟨fl, q⟩ => ?_⟩
  · have b : Ext G H { F := G.F, D := D' } H' := (Ext.borrow (G' := { F := (G.see H (valsOf σ)).F, D := D' }) ex R.ext.self rfl fun a f => .inl f)
    obtain ⟨R', E'⟩ := R.call b
    exact hs_ok xl l sb R' (sb _ _ _ _ (E'.keeps R) sg) xr ev
  · have b : Ext G H { F := G.F, D := G2.D } H2 := R2.ext.borrow R.ext.self rfl fun a f => .inl f
    obtain ⟨R', E'⟩ := R.call b
    refine hq _ H2 tv v R' (E'.keeps R) ?_ q
    have noF : ∀ a, H a = none → ¬ G.F a := fun a h f => by
      obtain ⟨o, z⟩ := R.ext.ft a f
      rw [h] at z
      cases z
    cases tv with
    | d x => exact Rp.flat fl rt
    | fresh xs =>
      obtain ⟨a, vs, rfl, h1, h2, h3, h4, h5, h6⟩ := rt
      refine ⟨a, vs, rfl, h1, h2.flat fl, noF a h6, h4, fun z => ?_, h6⟩
      obtain ⟨ws, q, _⟩ := R.own_some z
      rw [h6] at q
      cases q
    | bor i => cases fl
    | deal k => exact rt
    | scr ns => exact rt
    | obj C fs =>
      obtain ⟨a, dx, vs, rfl, h1, h2⟩ := rt
      exact ⟨a, dx, vs, rfl, h1, h2.flat fl⟩
theorem vs_tryA {st : Stmt} {i : Nat} {we : EW} {wr : SW} {hs : List Clv} (h : PS X st (fun D σ H => tSeq (tAsg (rdES X.K (wManyA X.K (fun cls d _ H => xk cls d H) D (rdC X.K hs)) we) (gName i)) (rdS X.K E0 wr) D σ H)) : VS X xk st (wTryA X.K i we wr hs) :=
  h.imp fun D σ H ⟨G0, H0, G, ρ, P, Ev, S, R, xl, hw, l, sb, sg⟩ => try_core R xl l sb sg hw fun G1 H1 tv v R1 k1 rt ⟨sv, ρ3, e1, q⟩ => by
    obtain ⟨G2, R2, k2⟩ := sto_ok (i := i) R1 (fun a h => R.ext.none0 h) rt e1
    exact ⟨G0, H0, G2, _, P, _, S, R2, e0_xl, q, l, sb, sb _ _ _ _ (k1.trans k2) sg⟩
theorem vs_tryE {st : Stmt} {we : EW} {wr : SW} {hs : List Clv} (h : PS X st (fun D σ H => tSeq (tDrop (rdES X.K (wManyA X.K (fun cls d _ H => xk cls d H) D (rdC X.K hs)) we)) (rdS X.K E0 wr) D σ H)) : VS X xk st (wTryE X.K we wr hs) :=
  h.imp fun D σ H ⟨G0, H0, G, ρ, P, Ev, S, R, xl, hw, l, sb, sg⟩ => try_core (Qv := fun _ => wr ρ P (fun _ => False)) R xl l sb sg hw fun G1 H1 tv v R1 k1 rt q =>
    ⟨G0, H0, G1, ρ, P, _, S, R1, e0_xl, q, l, sb, sb _ _ _ _ k1 sg⟩
/-- a call that may raise, in a try -/
def wCallS (f : VSp) (wA : AW) : EW := fun ρ Q E => wA ρ (fun tvs ρ1 => ∃ svs, argsS ρ1 tvs = some svs ∧ f svs (fun tv => flatT tv = true ∧ Q tv ρ1) E) (fun _ => False)
theorem callS_core {K : PySem.W.Frag} {W : WX} {sp : VSp} {wA : AW} {σ : St} {H : Hp} {Q : VK} (h : rdES K W (wCallS sp wA) σ H Q) : tCallS (spV K sp) (WE W) (rdA K E0 wA) σ H Q := by
  obtain ⟨G0, H0, G, ρ, Qv, Ev, R, xl, hw, q⟩ := h
  refine ⟨G0, H0, G, ρ, _, _, R, e0_xl, hw, fun tvs ρ1 G1 H1 vs R1 E1 rts q1 => ?_⟩
  obtain ⟨svs, ea, hs⟩ := q1
  have sx := see_ext R1.ext vs
  refine ⟨G1.see H1 vs, svs, _, Ev, sx, argsS_ok R1 rts (fun v hv => hv) ea, hs, fun xn D' H' c d ex xr ev => xl xn D' H' c d ?_ xr ev, fun tv G' H' v ex rt qv => ?_⟩
  · exact (R1.ext.trans (ex.borrow R1.ext.self rfl fun a f => .inl f)).low
  · obtain ⟨fl, qv⟩ := qv
    have b : Ext G1 H1 { F := G1.F, D := G'.D } H' := ex.borrow R1.ext.self rfl fun a f => .inl f
    obtain ⟨R2, E2⟩ := R1.call b
    have rt2 : RT K H1 { F := G1.F, D := G'.D } [] [] H' tv v := rt.lessF fl fun a h f => by
      obtain ⟨o, z⟩ := R1.ext.ft a f
      rw [h] at z
      cases z
    exact q tv ρ1 _ H' v R2 (E1.trans E2) (rt2.out R1 fun a h => E1.none h) qv
theorem ve_callS {W : WX} {e : Expr} {sp : VSp} {wA : AW} (h : PE X e (tCallS (spV X.K sp) (WE W) (rdA X.K E0 wA))) : PE X e (rdES X.K W (wCallS sp wA)) := h.imp fun _ _ _ q => callS_core q

/-! ### e.f, isinstance(e, C), of the held exception -/
def wXf (a : Addr) (cls : Value) (d : Option Addr) (C : Addr) (f : Str) (i : Nat) : EW := fun ρ Q _ => ∃ dd fs x, ρ[i]? = some (some (SV.exc a dd fs)) ∧ cls = .ref C ∧ d = some dd ∧ fs.lookup f = some x ∧ Q (.d x) ρ
theorem RFs.look {K : PySem.W.Frag} {F : Addr → Prop} {H : Hp} {f : Str} : ∀ {vs : List (Str × V)} {fs : List (Str × PyData)} {x : PyData}, RFs K F H vs fs → fs.lookup f = some x → ∃ v, vs.lookup f = some v ∧ Rp K F H v x
  | _, _, _, .nil, e => by cases e
  | p :: vs, q :: fs, x, .cons h r, e => by
    obtain ⟨n, v⟩ := p
    obtain ⟨m, y⟩ := q
    obtain ⟨e1, rv⟩ := h
    have e1' : n = m := e1
    subst e1'
    rw [List.lookup_cons] at e
    rw [List.lookup_cons]
    split at e
    · rename_i hh
      cases e
      exact ⟨v, rfl, rv⟩
    · rename_i hh
      exact RFs.look r e
theorem Rp.ofLow {K : PySem.W.Frag} {F : Addr → Prop} {H : Hp} {v : V} {x : PyData} (r : Rp K (fun _ => False) H v x) : Rp K F H v x := r.keep ⟨fun _ h => h.elim, fun _ _ h _ => h.elim, fun _ _ h => h⟩
theorem ve_xf {a C : Addr} {cls : Value} {d : Option Addr} {f : Str} {i : Nat} {e : Expr} (h : PE X e (tXf a cls d C f (tVar i))) : VE X xk e (wXf a cls d C f i) := h.imp fun σ H Q ⟨G0, H0, G, ρ, Qv, Ev, R, xl, hw, q⟩ => by
  obtain ⟨dd, fs, x, e1, e2, e3, e4, q1⟩ := hw
  obtain ⟨v, ev, e5, vs, hd, rf⟩ := R.slot i _ e1
  obtain ⟨u, eu, ru⟩ := rf.look e4
  exact ⟨v, ev, e5, e2, dd, vs, u, e3, hd, eu, q (.d x) _ _ _ _ R .refl (show Rp _ _ _ _ _ from ru.ofLow) q1⟩
end
end VL
set_option Elab.async false
set_option linter.all false
set_option maxRecDepth 100000
/-! VL13: kinds of held exceptions and of values, arguments given away, bodies of defs, comprehensions, stores into own lists. -/
namespace PySem.W
open PySem PySem.Spec PySem.Calls PyProof.Rows
section
variable {prog : Program} {w : World} {A : Around} {E : Value → Shared → Prop} {s : Shared} {K : Frag} {x D : Addr} {ox : Obj}
theorem vl_findObj_data {C : Addr} {od : Option Obj} {name : Str} {a g : Value} (hc : (clsIn K C).isSome = true) (ha : findIn K (.ref C) name = some (some a)) (hg : specialIn K a "__get__" = some (some g)) (ht : takesIn K a = some true) : findObj K C od name = some (.bind g a) := by
  obtain ⟨cd, hc⟩ := Option.isSome_iff_exists.mp hc
  unfold findObj
  rw [hc, Option.bind_some, ha, Option.bind_some]
  simp [hg, ht]
theorem vl_kin {od : Option Obj} {Q : Option Value → Shared → Prop} (hga : findIn K (.ref D) "__getattribute__" = some (some (.builtin "BaseException.__getattribute__"))) (hgt : findIn K (.ref D) "__getattr__" = some none) (hsub : subIn K (.ref D) (.type "BaseException") = some true)
    (hdct : hasDictIn K D = true) (ha : findIn K (.ref D) "__class__" = some (some (.builtin "object.__class__")))
    (hn : specialIn K (.builtin "object.__class__") "__get__" = some (some (.builtin "getset_descriptor.__get__"))) (htk : takesIn K (.builtin "object.__class__") = some true) (hm : mroIn K D (.type "object") = some true)
    (X : K.In s.heap) (I : InstAt s.heap x ox D od) (h : Q (some (.ref D)) { s with toks := s.toks + 1 }) : wpAny (model prog w) A (getAttr? (.ref x) "__class__") Q E s := by
  have hf : findObj K D od "__class__" = some (.bind (.builtin "getset_descriptor.__get__") (.builtin "object.__class__")) := vl_findObj_data (by obtain ⟨cd, hc, _⟩ := any_some hdct; rw [hc]; rfl) ha hn htk
  obtain ⟨hp, g, d, t, os⟩ := s
  have L0 := I.type (M := model prog w)
  have L1 := looks_findIn (M := model prog w) X hga
  have L2 := looks_findIn (M := model prog w) X hgt
  have L3 := looks_find (M := model prog w) X I hf
  have sub : Looks (model prog w) hp (isInstance (.ref x) (.type "BaseException")) true := L0.andThen (looks_subIn X hsub)
  have hx0 : (false && onTheHeap (Value.builtin "BaseException.__getattribute__")) = false := rfl
  have hx2 : (Value.builtin "BaseException.__getattribute__" == Value.builtin "object.__getattribute__") = false := by decide +kernel
  have hx1 : (onTheHeap (Value.ref D) && Value.builtin "BaseException.__getattribute__" == Value.builtin "object.__getattribute__") = false := by rw [hx2]; rfl
  unfold getAttr? getAttrBy? getAttrBy
  refine wpAny_bind (wpAny_mkText (wpAny_bind (wpAny_attempt (wpAny_holding (wpAny_bind (L0.at (wpAny_bind (L1.at ?_))))))))
  show wpAny _ _ (if (onTheHeap (Value.ref D) && Value.builtin "BaseException.__getattribute__" == Value.builtin "object.__getattribute__") = true then _ else _) _ _ _
  rw [hx1, if_neg Bool.false_ne_true]
  unfold getAttrByItsOwn hookBefore
  refine wpAny_bind ?_
  rw [if_pos (show onTheHeap (Value.ref D) = true from rfl)]
  refine L2.at ?_
  refine wpAny_bind (wpAny_attempt (wpAny_holding ?_))
  unfold callGetattribute
  rw [hx0, if_neg Bool.false_ne_true]
  unfold boundAndCalled
  rw [PySem.F.excAttr_ValueError.ga.bind (.ref x)]
  refine wpAny_bind (wpAny_pure ?_)
  show wpAny _ _ (call (.builtin "BaseException.__getattribute__") [.ref x, .str "__class__" t]) _ _ _
  refine wpAny_call (codeAny_call_builtin PySem.F.excAttr_ValueError.ga.plain PySem.F.entry_bexc_ga ?_)
  refine @check_slot (model prog w) _ _ ⟨hp, g, d, t + 1, os⟩ "BaseException.__getattribute__" "BaseException" "__getattribute__" (.ref x) [.str "__class__" t] [] _ (by decide +kernel) (by decide +kernel) sub (PySem.F.args_bexc_ga (.ref x) (.str "__class__" t)) ?_
  unfold Builtin.«object.__getattribute__»
  refine wpAny_bind (wpAny_of_eq (a := ((Value.ref x : Value), [Value.str "__class__" t])) (by first | rfl | (simp only [slotArgs]; rfl)) ?_)
  refine wpAny_bind (wpAny_pure (wpAny_bind (L0.at (wpAny_bind (L3.at ?_)))))
  show wpAny _ _ (holding [Value.builtin "object.__class__"] (call (.builtin "getset_descriptor.__get__") [.builtin "object.__class__", .ref x, .ref D]) >>= ret) _ _ _
  refine wpAny_bind (wpAny_holding (wpAny_call (class_get (s := ⟨hp, g, d, t + 1, os⟩) (ox := ox) (od := od) X I hm ?_)))
  refine wpAny_pure ?_
  show wpAny _ _ (handedOut (.ref D)) _ _ _
  rw [handedOut_of (v := .ref D) rfl]
  first
    | exact wpAny_pure (wpAny_pure h)
    | exact wpAny_pure h
    | exact wpAny_pure (wpAny_bind (wpAny_pure (wpAny_pure h)))
theorem vl_kitx {od : Option Obj} (hga : findIn K (.ref D) "__getattribute__" = some (some (.builtin "BaseException.__getattribute__"))) (hgt : findIn K (.ref D) "__getattr__" = some none) (hsub : subIn K (.ref D) (.type "BaseException") = some true) (hdct : hasDictIn K D = true) (ha : findIn K (.ref D) "__class__" = some (some (.builtin "object.__class__")))
    (hn : specialIn K (.builtin "object.__class__") "__get__" = some (some (.builtin "getset_descriptor.__get__"))) (htk : takesIn K (.builtin "object.__class__") = some true) (hm : mroIn K D (.type "object") = some true) :
    KitX K (.ref x) (.ref D) (fun h => InstAt h x ox D od) where
  ty := fun _ _ _ I => I.type
  it := fun _ _ X _ => by
    obtain ⟨cdD, hcD, _⟩ := any_some hdct
    unfold clsIn at hcD
    split at hcD
    · rename_i c' d' cd' sl' ho
      intro A' Q' E' s' k q
      unfold isType loadHead
      exact wpAny_bind (wpAny_loadPart (k _ _ (X _ _ ho)) (wpAny_pure q))
    · cases hcD
  ne := fun h tp dd its n sl X htp => by
    obtain ⟨cdD, hcD, _⟩ := any_some hdct
    refine Bool.eq_false_iff.mpr fun q => ?_
    have e : D = tp := Value.ref.inj (beq_iff_eq.mp q)
    subst e
    unfold clsIn at hcD
    split at hcD
    · rename_i c' d' cd' sl' ho
      have z := (X _ _ ho).symm.trans htp
      cases z
    · cases hcD
  ca := fun X I k => vl_kin hga hgt hsub hdct ha hn htk hm X I k
end
end PySem.W
namespace L2
open PySem PySem.Spec PyProof.Rows
/-- isinstance(e, c), e the exception that the suite holds, with a dict -/
def rIsE2 (K : PySem.W.Frag) (D a : Addr) (d : Option Addr) : List V → Hp → VK → Prop := fun xs H Q => ∃ (c : V) (cv : Value) (b : Bool) (dd : Addr) (fs : List (Str × V)), xs = [.ref a, c] ∧ (∀ u, RelV c u → u = cv) ∧ d = some dd ∧ H dd = some (.xd fs) ∧ PySem.W.kitOne K (.ref D) cv = some b ∧ Q (.bl b) H
theorem call_isE2 {X : Cx} {a D : Addr} {cls : Value} {d : Option Addr} {oe : Obj} {pn : List (Addr × Obj)} (C : ExcC X.K D) (hz : Zc cls d oe) (hf : ∃ vs, oe.data = .fields vs) : CallR (X.suite a ((a, oe) :: pn)) (.builtin "isinstance") (fun xs H Q => cls = .ref D ∧ rIsE2 X.K D a d xs H Q) := by
  intro pins s σ H xs us Q I r h
  obtain ⟨ecl, c, cv, b, dd, fs, rfl, hcv, ed, ea, e, q⟩ := h
  subst ecl
  subst ed
  cases r with
  | cons rx rr =>
    cases rr with
    | cons rt rr =>
      cases rr
      cases rx
      have ec := hcv _ rt
      subst ec
      obtain ⟨hget, _⟩ := I.pin (a, oe) (List.mem_append.mpr (.inl List.mem_cons_self))
      obtain ⟨vs, hv⟩ := hf
      have hx : ObjOk X.prog X.w H s.heap dd (.xd fs) := I.hok dd _ ea
      obtain ⟨mA, hns, hr⟩ := hx
      obtain ⟨od, ho, hl⟩ := lookIn_ns hns
      have J : PySem.W.InstAt s.heap a oe D (some od) := by
        obtain ⟨oc, od', oda, osl⟩ := oe
        obtain ⟨h1, h2⟩ := hz
        dsimp only at h1 h2 hv
        subst h1 h2 hv
        exact ⟨hget, rfl, rfl, ho⟩
      exact PySem.W.kia_one (PySem.W.vl_kitx C.hg C.hk C.hs C.hd C.ha C.hn C.ht C.hm) I.kIn J e (fun z => nomatch z) fun tk => ⟨.bl b, H, I.kept (t' := tk) fun _ _ z => z, rfl, q⟩
end L2
namespace VL
open PySem PySem.Spec PyProof.Rows L2
section
variable {X : Cx} {xk : XK} {e : Expr} {we : EW}
/-- isinstance(e, c) of the held exception in slot i -/
def wIsE (K : PySem.W.Frag) (a : Addr) (cls : Value) (d : Option Addr) (D : Addr) (cv : Value) (i : Nat) : EW := fun ρ Q _ => ∃ dd fs b, ρ[i]? = some (some (SV.exc a dd fs)) ∧ cls = .ref D ∧ d = some dd ∧ PySem.W.kitOne K (.ref D) cv = some b ∧ Q (.d (.bool b)) ρ
theorem ve_isE {a D : Addr} {cls : Value} {d : Option Addr} {i : Nat} {c : V} {cv : Value} (hc : ∀ u, RelV c u → u = cv) (h : PE X e (tCB (fun xs H Q => cls = .ref D ∧ rIsE2 X.K D a d xs H Q) (tCons (tVar i) (tCons (tC c) tNil)))) : VE X xk e (wIsE X.K a cls d D cv i) := h.imp fun σ H Q ⟨G0, H0, G, ρ, Qv, Ev, R, xl, hw, q⟩ => by
  obtain ⟨dd, fs, b, e1, e2, e3, e4, q1⟩ := hw
  obtain ⟨v, ev, e5, vs, hd, rf⟩ := R.slot i _ e1
  subst e5
  exact ⟨_, ev, e2, c, cv, b, dd, vs, rfl, hc, e3, hd, e4, q (.d (.bool b)) _ _ _ _ R .refl (show Rp _ _ _ _ _ from .bl b) q1⟩
/-- isinstance(x, (list, tuple, ..)) of data -/
def wIsiT (Ts : List String) (we : EW) : EW := fun ρ Q E => we ρ (fun tv ρ1 => ∃ x k, res ρ1 tv = some x ∧ (Ts.foldr (fun T (r : Option Bool) => match kitB (tyD x) T with
  | some true => some true
  | some false => r
  | none => none) (some false)) = some k ∧ Q (.d (.bool k)) ρ1) E
theorem kitAnyT {K : PySem.W.Frag} {t : String} : ∀ {Ts : List String} {k : Bool}, (Ts.foldr (fun T (r : Option Bool) => match kitB t T with
  | some true => some true
  | some false => r
  | none => none) (some false)) = some k → PySem.W.kitAny K (.type t) (Ts.map Value.type) = some k
  | [], k, h => by cases h; rfl
  | T :: Ts, k, h => by
    rw [List.foldr_cons] at h
    rw [List.map_cons]
    unfold PySem.W.kitAny
    split at h
    · rename_i e
      cases h
      rw [kit_ty e]
    · rename_i e
      rw [kit_ty e]
      exact kitAnyT h
    · cases h
theorem tyX_grow {K : PySem.W.Frag} {F : Addr → Prop} {H H' : Hp} {v : V} {x : PyData} (r : Rq K F H v x) (g : Grow H H') : TyX K H' v (.type (tyD x)) := by
  cases x with
  | none => cases r.none; exact .base .non
  | bool b => cases r.bool; exact .base (.bl b)
  | int i => cases r.int; exact .base (.int i)
  | str y => cases r.str; exact .base (.str y)
  | list xs => obtain ⟨a, vs, rfl, h1, _⟩ := r; exact .base (.lst (g.s _ _ h1))
  | tuple xs =>
    obtain ⟨a, vs, rfl, h1, _⟩ := r.tup
    rcases h1 with (h1 | ⟨o, h1⟩) | ⟨o, its, n, h1, h2, _⟩
    · exact .base (.tup (g.s _ _ h1))
    · exact .fTuple (g.s _ _ h1)
    · exact .kTuple h1 h2
  | dict kvs =>
    have r' : Rp K F H v (.dict kvs) := r
    cases r'
def tTys : List String → TA
  | [] => tNil
  | T :: Ts => tCons (tC (.ty T)) (tTys Ts)
theorem tys_run {Ts : List String} {σ : St} {H : Hp} : ∀ {Q : List V → Hp → Prop}, Q (Ts.map V.ty) H → tTys Ts σ H Q := by
  induction Ts with
  | nil => intro Q q; exact q
  | cons T Ts ih => intro Q q; exact ih (Q := fun xs H1 => Q (V.ty T :: xs) H1) q
theorem cls_tys : ∀ (Ts : List String), Paired ClsV (Ts.map V.ty) (Ts.map Value.type)
  | [] => .nil
  | T :: Ts => .cons (.ty T) (cls_tys Ts)
theorem ve_isiT {Ts : List String} (hz : Ts.length ≤ sizeLine) (h : PE X e (tCB (rIsiT X.K) (tCons (rdE X.K xk we) (tCons (tTup (tTys Ts)) tNil)))) : VE X xk e (wIsiT Ts we) := h.imp fun σ H Q ⟨G0, H0, G, ρ, Qv, Ev, R, xl, hw, q⟩ =>
  ⟨G0, H0, G, ρ, _, Ev, R, xl, hw, fun tv ρ1 G1 H1 v R1 E1 rt ⟨x, k, er, ek, q1⟩ => by
    refine tys_run ⟨by rw [List.length_map]; exact hz, fun p hp => ?_⟩
    have gr : Grow H1 (upd H1 p (.tup (Ts.map V.ty))) := .upd hp
    exact ⟨v, p, _, .type (tyD x), _, k, rfl, upd_same, cls_tys Ts, tyX_grow (rt.rq R1 er) gr, kitAnyT ek, q (.d (.bool k)) ρ1 G1 _ _ (R1.grow gr) (E1.trans gr.evo) (show Rp _ _ _ _ _ from .bl _) q1⟩⟩
end
end VL
set_option Elab.async false
set_option linter.all false
set_option maxRecDepth 100000
/-! VL14: bodies of defs, comprehensions, arguments given away, stores into own lists. -/
namespace VL
open PySem PySem.Spec PyProof.Rows L2

/-! ### targets read off -/
mutual
def tgG (K : PySem.W.Frag) : Tg → TG
  | .nm i => gName i
  | .tp ts => gTup K ts.length (tgGs K ts)
def tgGs (K : PySem.W.Frag) : List Tg → TGs
  | [] => gNil
  | t :: ts => gCons (tgG K t) (tgGs K ts)
end
def GRs (K : PySem.W.Frag) (g : TGs) (ts : List Tg) : Prop := ∀ (G0 : Gh) (H0 : Hp) (G : Gh) (ρ : SE) (σ : St) (H : Hp) (vs : List V) (xs : List PyData) (ρ' : SE) (Q : St → Hp → Prop), Rep K G0 H0 G ρ σ H → RpAll K G.F H vs xs → Tg.puts ts xs ρ = some ρ' →
    (∀ σ', Rep K G0 H0 G ρ' σ' H → (∀ j, j ∉ Tg.slotss ts → σ'[j]? = σ[j]?) → Q σ' H) → g vs σ H Q
theorem puts_length {ρ' : SE} : ∀ (ts : List Tg) (xs : List PyData) (ρ : SE), Tg.puts ts xs ρ = some ρ' → xs.length = ts.length
  | [], [], _, _ => rfl
  | [], _ :: _, _, h => by unfold Tg.puts at h; cases h
  | _ :: _, [], _, h => by unfold Tg.puts at h; cases h
  | t :: ts, x :: xs, ρ, h => by
    unfold Tg.puts at h
    split at h
    · rw [List.length_cons, List.length_cons, puts_length ts xs _ h]
    · cases h
mutual
theorem gr_all {K : PySem.W.Frag} : ∀ (t : Tg), GR K (tgG K t) t
  | .nm i => gr_name
  | .tp ts => ⟨fun G0 H0 G ρ σ H v x ρ' Q R r e q => by
    cases x with
    | tuple xs =>
      have e' : Tg.puts ts xs ρ = some ρ' := by unfold Tg.put at e; exact e
      cases r with
      | @tup a vs _ h1 h2 =>
        refine ⟨a, vs, rfl, h1, by rw [h2.length]; exact puts_length ts xs ρ e', grs_all ts G0 H0 G ρ σ H vs xs ρ' Q R h2 e' fun σ' R' s' => q σ' R' fun j hj => s' j (by
          have : j ∉ Tg.slots (.tp ts) := hj
          unfold Tg.slots at this
          exact this)⟩
    | none => unfold Tg.put at e; cases e
    | bool b => unfold Tg.put at e; cases e
    | int b => unfold Tg.put at e; cases e
    | str b => unfold Tg.put at e; cases e
    | list b => unfold Tg.put at e; cases e
    | dict b => unfold Tg.put at e; cases e⟩
theorem grs_all {K : PySem.W.Frag} : ∀ (ts : List Tg), GRs K (tgGs K ts) ts
  | [] => fun G0 H0 G ρ σ H vs xs ρ' Q R r e q => by
    cases r with
    | nil =>
      unfold Tg.puts at e
      cases e
      exact ⟨rfl, q σ R fun _ _ => rfl⟩
    | cons _ _ => unfold Tg.puts at e; cases e
  | t :: ts => fun G0 H0 G ρ σ H vs xs ρ' Q R r e q => by
    cases r with
    | nil => unfold Tg.puts at e; cases e
    | @cons v vs x xs r rs =>
      unfold Tg.puts at e
      split at e
      · rename_i ρ1 e1
        refine ⟨v, vs, rfl, (gr_all t).run G0 H0 G ρ σ H v x ρ1 _ R r e1 fun σ1 R1 s1 => grs_all ts G0 H0 G ρ1 σ1 H vs xs ρ' _ R1 rs e fun σ2 R2 s2 => q σ2 R2 fun j hj => ?_⟩
        have hj' : j ∉ t.slots ++ Tg.slotss ts := hj
        rw [List.mem_append, not_or] at hj'
        rw [s2 j hj'.2, s1 j hj'.1]
      · cases e
end
theorem vg_of {X : Cx} {tg : Expr} {t : Tg} (h : PG X tg (tgG X.K t)) : VG X tg t := ⟨_, h, fun G0 H0 G ρ σ H v x ρ' Q R r e q => (gr_all t).run G0 H0 G ρ σ H v x ρ' Q R r e q⟩

/-! ### comprehensions -/
section
variable {X : Cx} {xk : XK} {wi : IW} {t : Tg} {bt : BW} {we : EW}
theorem ve_lc {elt tg iter : Expr} {ifs : List Expr} {scope : Scope} {own : List (Str × Nat)} {pos : Pos} (hc : X.calm = true) (hN : X.N.Nodup) (hi : VI X xk tg iter wi) (ok : BlkOk X.N X.env.scope scope own) (hv : ∀ j ∈ t.slots, j ∈ own.map (·.2))
    (hg : ∀ (s : Shared) (H : Hp) (C : Addr) (cl : List (Str × Addr)) (fp : List Addr), PG (X.blk s H scope (compEnvC scope cl C X.env) fp) tg (tgG X.K t))
    (ht : ∀ (s : Shared) (H : Hp) (C : Addr) (cl : List (Str × Addr)) (fp : List Addr), VTs (X.blk s H scope (compEnvC scope cl C X.env) fp) E0 ifs bt)
    (he : ∀ (s : Shared) (H : Hp) (C : Addr) (cl : List (Str × Addr)) (fp : List Addr), VE (X.blk s H scope (compEnvC scope cl C X.env) fp) E0 elt we) (hs : ∀ x, foldedSetIterable iter X.env x = pure x := by intro _; rfl) :
    VE X xk (.ListComp elt [⟨tg, iter, ifs, 0⟩] scope pos) (wLc t (own.map (·.2)) wi bt we) := (pe_lc (wi := rdI X.K xk wi) (tt := rdB X.K E0 bt) (te := rdE X.K E0 we) hc hN hi ok hg (fun s H C cl fp => ht s H C cl fp) (fun s H C cl fp => he s H C cl fp) hs).imp fun _ _ _ h => lc_core (gr_all t) hv h
theorem vs_setLc {i : Nat} {y : Str} {py : Pos} {elt tg iter : Expr} {ifs : List Expr} {scope : Scope} {own : List (Str × Nat)} {pos spos : Pos} (hc : X.calm = true) (hN : X.N.Nodup) (hy : X.N[i]? = some y) (hyl : X.env.scope.names.lookup y = some .local)
    (hsw : swapsWith (.ListComp elt [⟨tg, iter, ifs, 0⟩] scope pos) (some (.Name y py)) spos.line X.env = pure true) (hi : VI X xk tg iter wi) (ok : BlkOk X.N X.env.scope scope own) (hv : ∀ j ∈ t.slots, j ∈ own.map (·.2))
    (hg : ∀ (s : Shared) (H : Hp) (C : Addr) (cl : List (Str × Addr)) (fp : List Addr), PG (X.blk s H scope (compEnvC scope cl C X.env) fp) tg (tgG X.K t))
    (ht : ∀ (s : Shared) (H : Hp) (C : Addr) (cl : List (Str × Addr)) (fp : List Addr), VTs (X.blk s H scope (compEnvC scope cl C X.env) fp) E0 ifs bt)
    (he : ∀ (s : Shared) (H : Hp) (C : Addr) (cl : List (Str × Addr)) (fp : List Addr), VE (X.blk s H scope (compEnvC scope cl C X.env) fp) E0 elt we) (hs : ∀ x, foldedSetIterable iter X.env x = pure x := by intro _; rfl) :
    VS X xk (.Assign [.Name y py] (.ListComp elt [⟨tg, iter, ifs, 0⟩] scope pos) spos) (wSet i (wLc t (own.map (·.2)) wi bt we)) :=
  vs_set ((ps_setLc (wi := rdI X.K xk wi) (tt := rdB X.K E0 bt) (te := rdE X.K E0 we) hc hN hy hyl hsw hi ok hg (fun s H C cl fp => ht s H C cl fp) (fun s H C cl fp => he s H C cl fp) hs).imp fun D σ H h => lc_core (gr_all t) hv h)
end

/-! ### defs by their bodies -/
def startS (n : Nat) (svs : List SV) : SE := svs.map some ++ List.replicate (n - svs.length) none
/-- what a body keeps -/
def bodyV (n m : Nat) (w : SW) : VSp := fun svs Q E => svs.length = m ∧ w (startS n svs) { nx := fun _ => Q (.d .none), rt := Q } E
theorem spV_imp {K : PySem.W.Frag} {sp sp' : VSp} (h : ∀ svs Q E, sp' svs Q E → sp svs Q E) : ∀ vs H Q E, spV K sp' vs H Q E → spV K sp vs H Q E := fun vs H Q E ⟨G0, svs, Qv, Ev, a, b, c, d⟩ => ⟨G0, svs, Qv, Ev, a, b, h _ _ _ c, d⟩
theorem paired_get {α β : Type} {R : α → β → Prop} : ∀ {xs : List α} {ys : List β} {i : Nat} {x : α}, Paired R xs ys → xs[i]? = some x → ∃ y, ys[i]? = some y ∧ R x y
  | _, _, _, _, .nil, h => by simp at h
  | _, _, 0, _, .cons h r, e => by simp at e; subst e; exact ⟨_, rfl, h⟩
  | _, _, i + 1, _, .cons h r, e => by
    obtain ⟨x, e1, e2⟩ := paired_get (i := i) r (by simpa using e)
    exact ⟨x, by simpa using e1, e2⟩
theorem start_rep {K : PySem.W.Frag} {G0 : Gh} {H : Hp} {N : List Str} {svs : List SV} {vs : List V} (e : Ext G0 H G0 H) (p : Paired (fun sv v => RS K G0 H sv v ∧ sv.free) svs vs) : Rep K G0 H G0 (startS N.length svs) (L2.start N vs) H := by
  have hl := p.length
  have own : ∀ (i : Nat) (xs : List PyData), (startS N.length svs)[i]? ≠ some (some (SV.own xs)) := fun i xs z => by
    unfold startS at z
    by_cases hi : i < svs.length
    · rw [List.getElem?_append_left (by rw [List.length_map]; exact hi), List.getElem?_map] at z
      cases q : svs[i]? with
      | none => rw [q] at z; cases z
      | some sv =>
        rw [q] at z
        have z' : sv = SV.own xs := by simpa using z
        obtain ⟨v, hv, r, f⟩ := paired_get p q
        rw [z'] at f
        exact f
    · rw [List.getElem?_append_right (by rw [List.length_map]; omega)] at z
      have := List.mem_of_getElem? z
      rw [List.mem_replicate] at this
      cases this.2
  refine ⟨e, ?_, fun i sv h => ?_, fun i j xs ys a h _ _ _ => absurd h (own i xs), fun a ⟨i, xs, h, _⟩ => absurd h (own i xs)⟩
  · unfold startS L2.start
    rw [List.length_append, List.length_append, List.length_map, List.length_map, List.length_replicate, List.length_replicate, hl]
  · unfold startS at h
    unfold L2.start
    by_cases hi : i < svs.length
    · rw [List.getElem?_append_left (by rw [List.length_map]; exact hi), List.getElem?_map] at h
      cases q : svs[i]? with
      | none => rw [q] at h; cases h
      | some sv' =>
        rw [q] at h
        have h' : sv' = sv := by simpa using h
        subst h'
        obtain ⟨v, hv, r, f⟩ := paired_get p q
        refine ⟨v, ?_, r⟩
        rw [List.getElem?_append_left (by rw [List.length_map, ← hl]; exact hi), List.getElem?_map, hv]
        rfl
    · rw [List.getElem?_append_right (by rw [List.length_map]; omega)] at h
      have := List.mem_of_getElem? h
      rw [List.mem_replicate] at this
      cases this.2
section
variable {P : Program} {w : World} {K : PySem.W.Frag} {mg : Str → Option Value} {base : Heap}
theorem pass0V {X : Cx} {xk : XK} : ∀ σ, PassesAt CX0 X σ xk := fun _ _ _ _ _ _ _ h => h.elim
theorem passLV {X : Cx} : ∀ σ, PassesAt (L2.CX X.prog X.w) X σ E0 := fun _ _ _ _ _ _ _ h => by
  obtain ⟨_, _, _, _, _, _, _, _, _, _, _, _, z⟩ := h
  exact z.elim
theorem passXV {X : Cx} {E : XK} (tk : Takes X (fun cls d _ H => E cls d H)) : ∀ σ, PassesAt (L2.CX X.prog X.w) X σ E := fun σ => passAt tk σ
theorem spV_len {K : PySem.W.Frag} {n m : Nat} {wb : SW} : ∀ vs H Q E, spV K (bodyV n m wb) vs H Q E → vs.length = m := fun vs H Q E ⟨G0, svs, Qv, Ev, a, b, c, d⟩ => b.length.symm.trans c.1
theorem body_run {N : List Str} {m : Nat} {wb : SW} {vs : List V} {H : Hp} {Q : VK} {E : XK} (h : spV K (bodyV N.length m wb) vs H Q E) : rdS K E wb { nx := fun _ H' => Q .non H', rt := Q } (L2.start N vs) H := by
  obtain ⟨G0, svs, Qv, Ev, ext, p, ⟨hl, hw⟩, xl, k⟩ := h
  exact ⟨G0, H, G0, startS N.length svs, _, Ev, fun _ _ => True, start_rep ext p, xl, hw, ⟨fun ρ G σ H' R _ q => k (.d .none) G H' .non R.ext (show Rp _ _ _ _ _ from .non) q, fun tv G H' v e rt q => k tv G H' v e rt q, fun _ _ _ _ _ _ z => z.elim, fun _ _ _ _ _ _ z => z.elim⟩, fun _ _ _ _ _ _ => trivial, trivial⟩
/-- a def that lets no exception out -/
theorem fn_okV {x qual : Str} {st : Stmt} {f : Addr} {fd : FuncData} {N ps : List Str} {k : Nat} {wb : SW} (F : Fun K x qual st f fd) (S : FnScope N ps (defScope st))
    (hbody : ∀ (cdv : Value) (A : Around) (outer : List Env) (s : Shared) (H : Hp) (E : XK), RoomG k (A.deeper (envOfC qual (defScope st) s.heap.objs.size f cdv)) →
      VSs (cxOf CX0 P w K mg base N qual (defScope st) f cdv A outer s H E).nox E (defBody st) wb) : FnG P w K mg base CX0 (k + 1) f fd ps (spV K (bodyV N.length ps.length wb)) :=
  F.okG S spV_len fun cdv A outer s H vs Q E hr h => ⟨_, hbody cdv A outer s H E hr, body_run h⟩
/-- a def that may raise -/
theorem fn_okXV {x qual : Str} {st : Stmt} {f : Addr} {fd : FuncData} {N ps : List Str} {k : Nat} {wb : SW} (F : Fun K x qual st f fd) (S : FnScope N ps (defScope st))
    (hbody : ∀ (cdv : Value) (A : Around) (outer : List Env) (s : Shared) (H : Hp) (E : XK), RoomG k (A.deeper (envOfC qual (defScope st) s.heap.objs.size f cdv)) →
      VSs (cxOf (L2.CX P w) P w K mg base N qual (defScope st) f cdv A outer s H E) E (defBody st) wb) : FnG P w K mg base (L2.CX P w) (k + 1) f fd ps (spV K (bodyV N.length ps.length wb)) :=
  F.okXG S spV_len fun cdv A outer s H vs Q E hr h => ⟨_, hbody cdv A outer s H E hr, body_run h⟩
theorem fn_spec {CX : CXT} {k : Nat} {f : Addr} {fd : FuncData} {ps : List Str} {sp sp' : VSp} (F : FnG P w K mg base CX k f fd ps (spV K sp)) (h : ∀ svs Q E, sp' svs Q E → sp svs Q E) : FnG P w K mg base CX k f fd ps (spV K sp') := F.imp (spV_imp h)
end

/-! ### arguments given away -/
def gv1 (ρ : SE) : TV → Option (SV × SE)
  | .deal k => some (SV.deal k, ρ)
  | .scr ns => some (SV.scr ns, ρ)
  | .obj C fs => some (SV.obj C fs, ρ)
  | tv => match frz ρ tv with
    | some (x, ρ1) => some (SV.d x, ρ1)
    | none => none
def gvAll : SE → List TV → Option (List SV × SE)
  | ρ, [] => some ([], ρ)
  | ρ, tv :: r => match gv1 ρ tv with
    | some (sv, ρ1) => match gvAll ρ1 r with
      | some (svs, ρ2) => some (sv :: svs, ρ2)
      | none => none
    | none => none
section
variable {K : PySem.W.Frag} {G0 G G' G'' Gs : Gh} {H0 H H' H'' Hs : Hp} {ρ ρ' ρ'' ρs : SE} {σ : St}
theorem gvAll_ok : ∀ {tvs : List TV} {vs : List V} {G : Gh} {ρ ρ' : SE} {svs : List SV}, Rep K G0 H0 G ρ σ H → (∀ a, Hs a = none → H0 a = none) → Evo ρs σ Gs Hs ρ G H → RTs K Hs G ρ σ H tvs vs → gvAll ρ tvs = some (svs, ρ') →
    ∃ G', Rep K G0 H0 G' ρ' σ H ∧ Evo ρs σ Gs Hs ρ' G' H ∧ Paired (fun sv v => RS K G' H sv v ∧ sv.free) svs vs ∧ Keep K G.F H G'.F H ∧ G'.D = G.D
  | _, _, G, ρ, _, _, R, rs, E, .nil, h => by
    cases h
    exact ⟨G, R, E, .nil, .refl, rfl⟩
  | _, _, G, ρ, ρ', _, R, rs, E, .cons (tv := tv) (tvs := tvs) (v := v) (vs := vs) r t d, h => by
    unfold gvAll at h
    split at h
    · rename_i sv ρ1 e1
      split at h
      · rename_i svs ρ2 e2
        cases h
        have dat : ∀ x G1, Frz K G0 H0 Hs G ρ σ H v x G1 ρ1 → RTs K Hs G1 ρ1 σ H tvs vs → sv = SV.d x → ∃ G', Rep K G0 H0 G' ρ' σ H ∧ Evo ρs σ Gs Hs ρ' G' H ∧ Paired (fun sv v => RS K G' H sv v ∧ sv.free) (sv :: svs) (v :: vs) ∧ Keep K G.F H G'.F H ∧ G'.D = G.D := fun x G1 f t1 es => by
          subst es
          obtain ⟨G2, R2, E2, p2, k2, d2⟩ := gvAll_ok f.rep rs (f.evo E) t1 e2
          have rr : Rp K G2.F H v x := f.is.keep k2
          exact ⟨G2, R2, E2, .cons ⟨rr, trivial⟩ p2, f.keep.trans k2, d2.trans f.d⟩
        have same : ρ1 = ρ → RS K G H sv v → sv.free → (∀ G', Keep K G.F H G'.F H → G'.D = G.D → RS K G' H sv v) → ∃ G', Rep K G0 H0 G' ρ' σ H ∧ Evo ρs σ Gs Hs ρ' G' H ∧ Paired (fun sv v => RS K G' H sv v ∧ sv.free) (sv :: svs) (v :: vs) ∧ Keep K G.F H G'.F H ∧ G'.D = G.D := fun e0 _ fr kk => by
          subst e0
          obtain ⟨G2, R2, E2, p2, k2, d2⟩ := gvAll_ok R rs E t e2
          exact ⟨G2, R2, E2, .cons ⟨kk G2 k2 d2, fr⟩ p2, k2, d2⟩
        cases tv with
        | d y =>
          cases e1
          exact dat y G (Frz.triv R r) t rfl
        | fresh zs =>
          have e1' : (match frz ρ (.fresh zs) with
            | some (x, ρ1) => some (SV.d x, ρ1)
            | none => none) = some (sv, ρ1) := e1
          split at e1'
          · rename_i x ρ3 e3
            cases e1'
            obtain ⟨G1, f⟩ := frz_ok R rs r e3
            exact dat x G1 f (t.frz f (d zs rfl)) rfl
          · cases e1'
        | bor i =>
          have e1' : (match frz ρ (.bor i) with
            | some (x, ρ1) => some (SV.d x, ρ1)
            | none => none) = some (sv, ρ1) := e1
          split at e1'
          · rename_i x ρ3 e3
            cases e1'
            have e3' : frzS ρ i = some (x, ρ1) := e3
            have r' : σ[i]? = some (some v) := r
            unfold frzS at e3'
            split at e3'
            · rename_i xs' ee
              obtain ⟨G1, f⟩ := frz_ok R rs r e3
              refine dat x G1 f (t.frz f fun j ws ew q => ?_) rfl
              obtain ⟨u, eu, b, zs, rfl, h1, _, h3, h4, h5, h6⟩ := t.get ew
              rw [q] at eu
              cases eu
              exact h5 ⟨i, xs', ee, r'⟩
            · rename_i y ee
              cases e3'
              obtain ⟨v', e4, rr⟩ := R.slot i _ ee
              rw [r'] at e4
              cases e4
              exact dat x G (Frz.triv R rr) t rfl
            · cases e3'
          · cases e1'
        | deal k =>
          cases e1
          obtain ⟨a, ea, hd⟩ := r
          exact same rfl ⟨a, ea, hd⟩ trivial fun G' k' d' => ⟨a, ea, by rw [d']; exact hd⟩
        | scr ns =>
          cases e1
          obtain ⟨a, ea, hd⟩ := r
          exact same rfl ⟨a, ea, hd⟩ trivial fun G' k' d' => ⟨a, ea, hd⟩
        | obj C fs =>
          cases e1
          obtain ⟨a, dx, ws, ea, h1, h2⟩ := r
          exact same rfl ⟨a, dx, ws, ea, h1, h2⟩ trivial fun G' k' d' => ⟨a, dx, ws, ea, h1, h2.keep k'⟩
      · cases h
    · cases h
end
section
variable {X : Cx} {xk : XK} {CX : CXT} {k : Nat} {f : Addr} {fd : FuncData} {ps : List Str} {sp : VSp} {x : Str} {p pos : Pos} {e : Expr} {es : List Expr} {wA : AW}
/-- a call that keeps its lists for good -/
def wCallG (f : VSp) (wA : AW) : EW := fun ρ Q E => wA ρ (fun tvs ρ1 => ∃ svs ρ2, gvAll ρ1 tvs = some (svs, ρ2) ∧ f svs (fun tv => Q tv ρ2) E) E
theorem callG_core {K : PySem.W.Frag} {σ : St} {H : Hp} {Q : VK} (h : rdE K xk (wCallG sp wA) σ H Q) : tCallS (spV K sp) (fun _ => xk) (rdA K xk wA) σ H Q := by
  obtain ⟨G0, H0, G, ρ, Qv, Ev, R, xl, hw, q⟩ := h
  refine ⟨G0, H0, G, ρ, _, Ev, R, xl, hw, fun tvs ρ1 G1 H1 vs R1 E1 rts q1 => ?_⟩
  obtain ⟨svs, ρ2, eg, hs⟩ := q1
  obtain ⟨G2, R2, E2, p2, k2, d2⟩ := gvAll_ok R1 (fun a h => R.ext.none0 h) E1 rts eg
  refine ⟨G2, svs, _, Ev, R2.ext.self, p2, hs, fun xn D' H' c d ex xr ev => xl xn D' H' c d (R2.ext.trans ex).low xr ev, fun tv G' H' v ex rt qv => ?_⟩
  obtain ⟨R3, E3⟩ := R2.call ex
  exact q tv ρ2 G' H' v R3 (E2.trans E3) (rt.out R2 fun a h => E2.none h) qv
theorem ve_callG (h : PE X e (tCallS (spV X.K sp) (fun _ => xk) (rdA X.K xk wA))) : VE X xk e (wCallG sp wA) := h.imp fun _ _ _ q => callG_core q

/-! ### x[i] = v, x a name's own list -/
def wSetIx (i : Nat) (wi we : EW) : SW := fun ρ P E => we ρ (fun tv ρ1 => ∃ y ρ2 ys, frz ρ1 tv = some (y, ρ2) ∧ ownAt ρ2 i = some ys ∧ wi ρ2 (fun ti ρ3 => ∃ (k : Int) (xs : List PyData) (j : Nat), res ρ3 ti = some (.int k) ∧ ownAt ρ3 i = some xs ∧ ixN xs.length k = some j ∧ P.nx (ρ3.set i (some (SV.own (xs.set j y))))) E) E
theorem vs_setIx {st : Stmt} {i : Nat} {wi we : EW} (h : PS X st (tAsg (rdE X.K xk we) (gSub (tVar i) (rdE X.K xk wi) rSetL))) : VS X xk st (wSetIx i wi we) := h.imp fun D σ H ⟨G0, H0, G, ρ, P, Ev, S, R, xl, hw, l, sb, sg⟩ =>
  ⟨G0, H0, G, ρ, _, Ev, R, xl, hw, fun tv ρ1 G1 H1 v R1 E1 rt ⟨y, ρ2, ys, ef, eo2, q1⟩ => by
    obtain ⟨G2, f⟩ := frz_ok R1 (fun a h => R.ext.none0 h) rt ef
    obtain ⟨o, eo, _⟩ := f.rep.slot i _ (ownAt_some eo2)
    refine ⟨o, eo, G0, H0, G2, ρ2, _, Ev, f.rep, xl, q1, fun ti ρ3 G3 H3 iv R3 E3 ri q3 => ?_⟩
    obtain ⟨k, xs, j, er, ew, ej, q3⟩ := q3
    cases (ri.rq R3 er).int
    obtain ⟨v', e1, a, vs, rfl, h1, h2, _⟩ := R3.slot i _ (ownAt_some ew)
    rw [eo] at e1
    cases e1
    have rv : Rp X.K G3.F H3 v y := f.is.keep (E3.keeps f.rep)
    obtain ⟨R4, E4⟩ := R3.mut (vs := vs) (ownAt_some ew) eo (h2.set rv j)
    exact ⟨a, vs, k, j, rfl, rfl, h1, by rw [h2.length]; exact ej, l.nx _ G3 σ _ R4 (sb _ _ _ _ ((((E1.keeps R).trans f.keep).trans (E3.keeps f.rep)).trans (E4.keeps R3)) sg) q3⟩⟩
end
end VL
set_option Elab.async false
set_option linter.all false
set_option maxRecDepth 100000
/-! VL15: objects: fields, making. -/
namespace L2
open PySem PySem.Spec PyProof.Rows
theorem wp_app {M : Model} {Γ} {env : Env} {l2 : List Stmt} {Q} {E} : ∀ {l1 : List Stmt} {p} {s : Shared},
    Sem.wp M Γ (execs l1 env) (fun f p' s' => match f with | .next => Sem.wp M Γ (execs l2 env) Q E p' s' | f => Q f p' s') E p s → Sem.wp M Γ (execs (l1 ++ l2) env) Q E p s
  | [], p, s, h => h
  | st :: rest, p, s, h => by
    rw [List.cons_append, execs_cons, Sem.wp_bind']
    rw [execs_cons, Sem.wp_bind'] at h
    refine Sem.wp_mono M Γ _ (fun f p' s' h' => ?_) (fun _ _ _ h' => h') _ _ h
    cases f with
    | next => exact wp_app (l1 := rest) h'
    | ret v => exact h'
    | brk => exact h'
    | cont => exact h'
section
variable {X : Cx}
theorem pss_app {l1 l2 : List Stmt} {t1 t2 : TS} (h1 : PSs X l1 t1) (h2 : PSs X l2 t2) : PSs X (l1 ++ l2) (tSeq t1 t2) := by
  refine ⟨fun pins s σ H D I h => ?_⟩
  intro Γ p hΓ
  refine wp_app (Sem.wp_mono _ Γ _ (fun f p' s' q => ?_) (fun _ _ _ h' => h') _ _ (h1.run pins s σ H { D with nx := t2 D } I h Γ p hΓ))
  cases f with
  | next =>
    obtain ⟨σ', H', I', q⟩ := q
    exact h2.run pins s' σ' H' D I' q Γ p' hΓ
  | ret v => exact q
  | brk => exact q
  | cont => exact q
/-- e.f = v as a target -/
def gFld (K : PySem.W.Frag) (ta : TE) (f : Str) : TG := fun y σ H Q => ta σ H fun x H2 => ∃ a C dx fs, x = .ref a ∧ H2 a = some (.ins C dx fs) ∧ Cls K C ∧ NoAttr K C f ∧ fs.length < 1000 ∧ Q σ (upd H2 a (.ins C dx (putF f y fs)))
theorem pg_fld {o : Expr} {f : Str} {pos : Pos} {ta : TE} (ho : PE X o ta) : PG X (.Attribute o f pos) (gFld X.K ta f) := by
  refine ⟨fun pins s σ H v u Q I r h => ?_⟩
  rw [assign_Attribute]
  refine wpAny_bind (wpAny_holding (thn (ho.run pins s σ H _ I h) fun ov s1 ⟨x, H1, I1, r1, a, C, dx, fs, ex, ea, c, n, l, q⟩ => ?_))
  subst ex
  obtain rfl : ov = Value.ref a := r1
  refine wpAny_bind (wpAny_standAt (wpAny_bind (wpAny_holding ?_)))
  exact setattr_ok I1 ea c n l r fun s3 I3 => wpAny_release ⟨σ, _, I3, q⟩
end
end L2
namespace VL
open PySem PySem.Spec PyProof.Rows L2
section
variable {X : Cx} {xk : XK} {e : Expr} {we : EW}
/-- e.f of an object -/
def wFld (K : PySem.W.Frag) (f : Str) (we : EW) : EW := fun ρ Q E => we ρ (fun tv ρ1 => ∃ C fs x, tv = .obj C fs ∧ Cls K C ∧ NoAttr K C f ∧ fs.lookup f = some x ∧ Q (.d x) ρ1) E
theorem ve_fld {f : Str} {pos : Pos} (he : VE X xk e we) (hb : attributeBase e f X.env (eval e X.env) = eval e X.env := by rfl) : VE X xk (.Attribute e f pos) (wFld X.K f we) := (pe_fld he hb).imp fun σ H Q ⟨G0, H0, G, ρ, Qv, Ev, R, xl, hw, q⟩ =>
  ⟨G0, H0, G, ρ, _, Ev, R, xl, hw, fun tv ρ1 G1 H1 v R1 E1 rt q1 => by
    obtain ⟨C, fs, x, etv, c, n, l, q1⟩ := q1
    subst etv
    obtain ⟨a, dx, vs, ev, h1, rf⟩ := rt
    subst ev
    obtain ⟨u, eu, ru⟩ := rf.look l
    exact ⟨a, C, dx, vs, u, rfl, h1, c, n, eu, q (.d x) ρ1 G1 H1 u R1 E1 (show Rp _ _ _ _ _ from ru) q1⟩⟩

/-! ### making an object -/
abbrev ISp := List SV → (List (Str × PyData) → Prop) → QX → Prop
/-- what an __init__ keeps: self at a is new since H1; what it is in the end -/
def spI (K : PySem.W.Frag) (C : Addr) (f : ISp) : Sp := fun vs H Q E => ∃ (a dx : Addr) (G1 : Gh) (H1 : Hp) (svs : List SV) (rest : List V) (Qf : List (Str × PyData) → Prop) (Ev : QX), vs = .ref a :: rest ∧ H = upd (upd H1 dx (.own a)) a (.ins C dx []) ∧ H1 a = none ∧ H1 dx = none ∧ dx ≠ a ∧
  Ext G1 H1 G1 H1 ∧ Paired (fun sv v => RS K G1 H1 sv v ∧ sv.free) svs rest ∧ f svs Qf Ev ∧ XL K G1 H1 Ev E ∧
  ∀ fs vs' G' H' dx', Ext G1 H1 G' H' → H' a = some (.ins C dx' vs') → RFs K G'.F H' vs' fs → Qf fs → Q .non H'
def flatFs (fs : List (Str × PyData)) : Bool := fs.all fun p => nolist p.2
def wMake (C : Addr) (f : ISp) (wA : AW) : EW := fun ρ Q E => wA ρ (fun tvs ρ1 => ∃ svs, argsS ρ1 tvs = some svs ∧ f svs (fun fs => flatFs fs = true ∧ Q (.obj C fs) ρ1) E) E
/-- .. in a try -/
def wMakeS (C : Addr) (f : ISp) (wA : AW) : EW := fun ρ Q E => wA ρ (fun tvs ρ1 => ∃ svs, argsS ρ1 tvs = some svs ∧ f svs (fun fs => flatFs fs = true ∧ Q (.obj C fs) ρ1) E) (fun _ => False)
theorem make_core {K : PySem.W.Frag} {C : Addr} {f : ISp} {xk xk2 : XK} {wA : AW} {σ : St} {H : Hp} {Q : VK} {G0 : Gh} {H0 : Hp} {G : Gh} {ρ : SE} {Qv : QE} {Ev E2 : QX} (R : Rep K G0 H0 G ρ σ H) (xl : XL K G0 H0 Ev xk) (x2 : XL K G0 H0 E2 xk2)
    (hw : wA ρ (fun tvs ρ1 => ∃ svs, argsS ρ1 tvs = some svs ∧ f svs (fun fs => flatFs fs = true ∧ Qv (.obj C fs) ρ1) Ev) E2)
    (q : ∀ tv ρ' G' H' v, Rep K G0 H0 G' ρ' σ H' → Evo ρ σ G H ρ' G' H' → RT K H G' ρ' σ H' tv v → Qv tv ρ' → Q v H') : tMakeG C (spI K C f) (fun _ => xk) (rdA K xk2 wA) σ H Q := by
  refine ⟨G0, H0, G, ρ, _, E2, R, x2, hw, fun tvs ρ1 G1 H1 vs R1 E1 rts q1 => ?_⟩
  obtain ⟨svs, ea, hs⟩ := q1
  intro a dx ha hdx hne
  have sx := see_ext R1.ext vs
  refine ⟨a, dx, G1.see H1 vs, H1, svs, vs, _, Ev, rfl, rfl, ha, hdx, hne, sx, argsS_ok R1 rts (fun v hv => hv) ea, hs, fun xn D' H' c d ex xr ev => xl xn D' H' c d ?_ xr ev, fun fs vs' G' H' dx' ex hi rf ⟨fl, qv⟩ => ⟨rfl, ?_⟩⟩
  · exact (R1.ext.trans (ex.borrow R1.ext.self rfl fun a f => .inl f)).low
  · have b : Ext G1 H1 { F := G1.F, D := G'.D } H' := ex.borrow R1.ext.self rfl fun a f => .inl f
    obtain ⟨R2, E2'⟩ := R1.call b
    exact q (.obj C fs) ρ1 _ H' (.ref a) R2 (E1.trans E2') ⟨a, dx', vs', rfl, hi, rf.flat fl⟩ qv
theorem ve_make {C : Addr} {f : ISp} {wA : AW} (h : PE X e (tMakeG C (spI X.K C f) (fun _ => xk) (rdA X.K xk wA))) : VE X xk e (wMake C f wA) := h.imp fun σ H Q ⟨G0, H0, G, ρ, Qv, Ev, R, xl, hw, q⟩ => make_core R xl xl hw q
end
end VL
set_option Elab.async false
set_option linter.all false
set_option maxRecDepth 100000
set_option maxHeartbeats 1000000
/-! VL16: objects called, their length, their ==. -/
namespace PySem.W
open PySem PySem.Spec PySem.Calls PyProof.Rows
section
variable {M : Model} {A : Around} {E : Value → Shared → Prop} {s : Shared} {K : Frag} {env : Env} {pos : Pos} {x C : Addr} {first : List Value} {Q : Value → Shared → Prop}
def vlo_P (K : Frag) (x C : Addr) (h : Heap) : Prop := K.In h ∧ ∃ ox od, InstAt h x ox C od ∧ ox.data = .plain
theorem vlo_callWith_of {args : List (Bool × Sem Value)} {keywords : List (Option Str × Sem Value)} (hplain : (args.any (·.1) || keywords.any (·.1.isNone)) = false)
    (h : wpAny M A (evalArgs (.ref x) true args keywords) (fun a s₁ => vlo_P K x C s₁.heap ∧ wpAny M A (call (.ref x) (first ++ a.pos) a.kw) Q E s₁) E s) : wpAny M A (callWith pos (.ref x) first args keywords) Q E s := by
  unfold callWith
  refine wpAny_bind (wpAny_holding (wpAny_mono h (fun a s₁ h₁ => wpAny_bind (wpAny_standAt ?_)) fun _ _ y => y))
  obtain ⟨⟨_, ox, od, I, hd⟩, h₂⟩ := h₁
  have L := kco_keeper (M := M) I hd
  simp only [hplain]
  refine wpAny_bind (L.here ?_)
  have tail : ∀ {t : Sem Value}, wpAny M A t Q E s₁ → wpAny M A (t >>= fun r => holding [r] point >>= fun _ => pure r) Q E s₁ :=
    fun ht => wpAny_bind (wpAny_mono ht (fun r s₂ hr => wpAny_bind (wpAny_holding (wpAny_point (wpAny_pure hr)))) fun _ _ y => y)
  exact tail (wpAny_operateT h₂)
end
end PySem.W
namespace L2
open PySem PySem.Spec PyProof.Rows
section
variable {X : Cx} {CX : CXT} {k : Nat} {f C : Addr} {fd : FuncData} {ps : List Str} {sp : Sp} {E : St → XK} {x : Str} {p pos : Pos} {e o : Expr} {es : List Expr} {te : TE} {t : TA}
/-- o(e, ..), o an object of the class C -/
def tCallO (C : Addr) (sp : Sp) (E : St → XK) (te : TE) (t : TA) : TE := fun σ H Q => te σ H fun x H1 => ∃ a, x = .ref a ∧ t σ H1 fun vs H2 => (∃ dx fs, H2 a = some (.ins C dx fs)) ∧ sp (.ref a :: vs) H2 Q (E σ)
theorem pe_callO (F : FnG X.prog X.w X.K X.mg X.base CX k f fd ps sp) (hr : RoomG k X.A) (hs : PySem.W.findIn X.K (.ref C) "__call__" = some (some (.ref f))) (hf : PySem.W.isFn X.K (.ref f) = true) (hfn : PySem.W.fnIn X.K f = true) (hb : Binds X.K fd ps []) (hx : ∀ σ, PassesAt CX X σ (E σ))
    (ho : PE X (.Name x p) te) (ha : PA X (e :: es) t) (he : starEach (e :: es) X.env = (false, eval e X.env) :: starEach es X.env := by rfl) (hpl : (backTo pos (starEach es X.env)).any (·.1) = false := by rfl) :
    PE X (.Call (.Name x p) (e :: es) [] pos) (tCallO C sp E te t) := by
  refine ⟨fun pins s σ H Q I h => ?_⟩
  refine wpAny_Call_Name_kw (thn (ho.run pins s σ H _ I h) fun u s1 ⟨y, H1, I1, r1, a, ey, q1⟩ => ?_)
  subst ey
  obtain rfl : u = Value.ref a := r1
  have hA := ha.run pos pins s1 σ H1 _ I1 q1
  show wpAny _ _ (callWith pos (.ref a) [] (backTo pos (starEach (e :: es) X.env)) []) _ _ _
  rw [he] at hA ⊢
  refine PySem.W.vlo_callWith_of (K := X.K) (C := C) (by show ((false || (backTo pos (starEach es X.env)).any (·.1)) || false) = false; rw [hpl]; rfl) (Calls.evalArgs_plain ?_)
  refine thn hA fun us s2 ⟨vs, H2, I2, r2, ⟨dx, fs, h2⟩, q2⟩ => ?_
  obtain ⟨mA, O, _, _, _, _⟩ := ins_get I2.hok h2
  obtain ⟨od, J, _⟩ := O.look
  refine ⟨⟨I2.kIn, _, od, J, rfl⟩, wpAny_call (PySem.W.kco_code I2.kIn J rfl hs hf hfn ?_)⟩
  have r3 : Vals (V.ref a :: vs) (Value.ref a :: us) := .cons rfl r2
  refine codeAny_mono (run_G (us := .ref a :: us) F hr I2.env0 (binds_all hb F.len I2.kIn r3 q2) (hx σ) I2 r3 q2) fun r s' hq => ?_
  cases r with
  | error e => exact hq
  | ok fl =>
    cases fl with
    | ret u => exact hq
    | next => exact False.elim hq
    | brk => exact False.elim hq
    | cont => exact False.elim hq
/-- len(o) of an object of the class C -/
theorem len_own {A : Around} {E : Value → Shared → Prop} {prog : Program} {w : World} {s : Shared} {K : PySem.W.Frag} {x f : Addr} {ox : Obj} {od : Option Obj} {Q : Value → Shared → Prop} (X : K.In s.heap) (I : PySem.W.InstAt s.heap x ox C od) (hs : PySem.W.findIn K (.ref C) "__len__" = some (some (.ref f))) (hf : PySem.W.isFn K (.ref f) = true)
    (h : wpAny (model prog w) A.in1 (call (.ref f) [.ref x]) (fun v s' => ∃ (n : Nat) (t : Tok), v = .int (n : Int) t ∧ (n : Int) < 2 ^ 63 ∧ ∀ t' tk, Q (.int (n : Int) t') { s' with toks := tk }) E s) : wpAny (model prog w) A (call (.builtin "len") [.ref x]) Q E s := by
  refine Calls.call_function_entry (b := Builtin.«len») (by decide +kernel) (by decide +kernel) (entryFor_of_tree (by kernel_rfl)) (by unfold argsOk; kernel_rfl) ?_
  unfold Builtin.«len»
  refine wpAny_bind (m := oneArg "len" _) (wpAny_pure ?_)
  refine wpAny_bind (m := callSpecial? (.ref x) (PySem.Str.ofString "__len__")) (PySem.W.special_fn X I hs (beq_iff_eq.mp hf) (wpAny_mono h (fun v s' hv => ?_) fun _ _ y => y))
  obtain ⟨n, t, rfl, hn, hq⟩ := hv
  refine wpAny_bind (wpAny_holding (wpAny_pure ?_))
  refine wpAny_bind (wpAny_letGo ?_)
  show wpAny _ _ (if ((n : Nat) : Int) < 0 then _ else _) _ _ _
  rw [if_neg (by omega)]
  show wpAny _ _ (if ((n : Nat) : Int) ≥ 2 ^ 63 then _ else _) _ _ _
  rw [if_neg (by omega)]
  exact wpAny_bind (wpAny_mkInt (wpAny_pure ⟨_, rfl, hq _ _⟩))

/-- .. at another depth -/
theorem run_selfA {A : Around} {pins : List (Addr × Obj)} {σ : St} {H : Hp} {s : Shared} {Q : VK} {us : List Value} {vs : List V} {a : Addr} {E : XK} (F : FnG X.prog X.w X.K X.mg X.base CX k f fd ps sp) (hr : RoomG k A) (he : Env0 X.prog X.w X.K X.mg X.base A X.stack s H) (hb : Binds X.K fd ps []) (hx : PassesAt CX X σ E)
    (I : Inv X pins σ H s) (r : Vals vs us) (h : sp (.ref a :: vs) H Q E) : wpAny (model X.prog X.w) A (call (.ref f) (.ref a :: us)) (EP X pins σ Q) X.xe s := by
  have r2 : Vals (V.ref a :: vs) (Value.ref a :: us) := .cons rfl r
  exact call_G (E := fun _ => E) F hr he (binds_all hb F.len I.kIn r2 h) hx I r2 h
theorem call_lenO {E : XK} (F : FnG X.prog X.w X.K X.mg X.base CX k f fd ps sp) (hr : RoomG (k + 1) X.A) (hs : PySem.W.findIn X.K (.ref C) "__len__" = some (some (.ref f))) (hf : PySem.W.isFn X.K (.ref f) = true) (hb : Binds X.K fd ps []) (hx : ∀ σ, PassesAt CX X σ E) :
    CallR X (.builtin "len") (fun xs H Q => ∃ a dx fs, xs = [.ref a] ∧ H a = some (.ins C dx fs) ∧ sp [.ref a] H (fun v H' => ∃ n : Nat, v = .int (n : Int) ∧ (n : Int) < 2 ^ 63 ∧ Q v H') E) := by
  intro pins s σ H xs us Q I r h
  obtain ⟨a, dx, fs, rfl, ha, hsp⟩ := h
  obtain ⟨u, rfl, ru⟩ := vals1 r
  obtain rfl : u = Value.ref a := ru
  obtain ⟨mA, O, _, _, _, _⟩ := ins_get I.hok ha
  obtain ⟨od, J, _⟩ := O.look
  refine len_own (C := C) I.kIn J hs hf ?_
  refine thn (run_selfA (us := []) (vs := []) F hr.in1 I.env0.in1 hb (hx σ) I .nil hsp) fun v s' hv => ?_
  obtain ⟨z, H', I', rz, n, ez, hn, q⟩ := hv
  subst ez
  obtain ⟨t, rfl⟩ := rz
  exact ⟨n, t, rfl, hn, fun t' tk => ⟨.int n, H', I'.tok tk, ⟨t', rfl⟩, q⟩⟩
/-- o == x -/
theorem op_eqO {E : XK} (F : FnG X.prog X.w X.K X.mg X.base CX k f fd ps sp) (hr : RoomG k X.A) (hs : PySem.W.findIn X.K (.ref C) "__eq__" = some (some (.ref f))) (hf : PySem.W.isFn X.K (.ref f) = true) (hb : Binds X.K fd ps []) (hx : ∀ σ, PassesAt CX X σ E) :
    OpR X (compareOp .Eq) (fun x y H Q => ∃ a dx fs tb, x = .ref a ∧ H a = some (.ins C dx fs) ∧ TyX X.K H y tb ∧ PySem.W.notFirst X.K C tb = true ∧ sp [.ref a, y] H (fun v H' => ∃ b : Bool, v = .bl b ∧ Q v H') E) := by
  intro pins s σ H x y v u Q I rx ry h
  obtain ⟨a, dx, fs, tb, rfl, ha, ty, hn, hsp⟩ := h
  obtain rfl : v = Value.ref a := rx
  obtain ⟨mA, O, _, _, _, _⟩ := ins_get I.hok ha
  obtain ⟨od, J, _⟩ := O.look
  obtain ⟨m, hF⟩ := I.fr
  obtain ⟨P, Z, p, _⟩ := kit_of I ry ty
  show wpAny (model X.prog X.w) X.A (richCompare .Eq (.ref a) u) (EP X pins σ Q) X.xe s
  refine PySem.W.cmp_K (op := .Eq) (tb := tb) hr.r.units0 hF I.ok.mod.kin J (Z.ty _ _ I.kIn p) hn hs hf ?_
  refine thn (run_selfA (us := [u]) (vs := [y]) F hr I.env0 hb (hx σ) I (.cons ry .nil) hsp) fun v s' hv => ?_
  obtain ⟨z, H', I', rz, b, ez, q⟩ := hv
  subst ez
  obtain rfl := rz
  exact ⟨.bl b, H', I', rfl, q⟩
end
end L2
set_option Elab.async false
set_option linter.all false
set_option maxRecDepth 100000
set_option maxHeartbeats 1000000
/-! VL17: != of objects; objects in the plain layer. -/
namespace PySem.W
open PySem PySem.Spec PySem.Calls PyProof.Rows
section
variable {prog : Program} {w : World} {A : Around} {E : Value → Shared → Prop} {s : Shared} {K : Frag} {h₀ : Heap} {L x C f : Addr} {m : Str → Option Value} {ox : Obj} {od : Option Obj} {b tb : Value}
theorem vl_ifBoundB {name : Str} {id : String} {args : List Value} {T : String} {Q : Option Value → Shared → Prop} (X : K.In s.heap) (I : InstAt s.heap x ox C od) (hs : findIn K (.ref C) name = some (some (.builtin id))) (slot : Slot T name id)
    (h : wpAny (model prog w) A (call (.builtin id) (.ref x :: args)) (fun v => Q (some v)) E s) : wpAny (model prog w) A (callSpecialIfBound? (.ref x) name args) Q E s := by
  simp only [callSpecialIfBound?, bindSpecialIfBound?]
  refine wpAny_holding (wpAny_bind (wpAny_bind (wpAny_bind (I.type.here ((looks_findIn X hs).here ?_)))))
  refine wpAny_bind (wpAny_askSetting (wpAny_ite ?_))
  have fin : wpAny (model prog w) A (call (.builtin id) ([.ref x] ++ args) >>= fun v => pure (some v)) Q E s := wpAny_bind (wpAny_mono h (fun v s' h' => wpAny_pure h') fun _ _ h' => h')
  split
  · exact wpAny_bind (wpAny_of_eq (slot.bind _) (wpAny_pure (by exact fin)))
  · exact wpAny_tryCatch (wpAny_bind (wpAny_of_eq (slot.bind _) (wpAny_pure (by exact fin))))
theorem vl_objNe {Q : Fin → Shared → Prop} (hu : A.units < cLine) (X : K.In s.heap) (I : InstAt s.heap x ox C od) (hs : findIn K (.ref C) "__eq__" = some (some (.ref f))) (hf : isFn K (.ref f) = true)
    (hcall : wpAny (model prog w) A (call (.ref f) [.ref x, b]) (fun v s' => ∃ k, v = .bool k ∧ Q (.done (.ret (.bool (!k)))) s') E s) :
    wpAny (model prog w) A (Builtin.«object.__ne__» ⟨[.ref x, b], []⟩) Q E s := by
  unfold Builtin.«object.__ne__»
  obtain ⟨hh, g, d, t, os⟩ := s
  repeat (first
    | with_reducible refine wpAny_cRoomFor hu ?_
    | (refine wpAny_bind (m := callSpecialIfBound? (.ref x) (Str.ofString "__eq__") [b])
        (ifBound_K X I hs hf (wpAny_mono hcall (fun r s' hr => by
          obtain ⟨k, rfl, hq⟩ := hr
          repeat (first | exact hq | exact wpAny_pure hq | exact wpAny_truthy_bool hq | (refine wpAny_bind (m := truthy (.bool _)) (wpAny_truthy_bool ?_)) | wp_step)) fun _ _ e => e)))
    | wp_step)
theorem vl_ne {Q : Value → Shared → Prop} (hu : A.units + 1 < cLine) (F : Fr h₀ L s.heap m) (X₀ : K.In h₀) (I : InstAt s.heap x ox C od) (hb : Looks (model prog w) s.heap (typeOf b) tb) (hn : notFirst K C tb = true)
    (hne : findIn K (.ref C) "__ne__" = some (some (.builtin "object.__ne__"))) (hm : mroIn K C (.type "object") = some true) (hs : findIn K (.ref C) "__eq__" = some (some (.ref f))) (hf : isFn K (.ref f) = true)
    (h : wpAny (model prog w) A.in1 (call (.ref f) [.ref x, b]) (fun v s' => ∃ k, v = .bool k ∧ Q (.bool (!k)) s') E s) : wpAny (model prog w) A (richCompare .NotEq (.ref x) b) Q E s := by
  have X := X₀.keeps F.keep
  have sub : Looks (model prog w) s.heap (isInstance (.ref x) (.type "object")) true := I.type.andThen (looks_mroIn X hm)
  have one : wpAny (model prog w) A (tryCompare (.ref x) (cmpInfo .NotEq).2.1 b) (fun r s' => ∃ v, r = some v ∧ Q v s') E s := by
    unfold tryCompare
    refine wpAny_bind (vl_ifBoundB X I hne PySem.F.cmp_object.ne (wpAny_call (codeAny_call_builtin PySem.F.cmp_object.ne.plain PySem.F.cmpEntry_ne
      (@check_slot (model prog w) _ _ s "object.__ne__" "object" "__ne__" (.ref x) [b] [] _ PySem.F.cmpKind_ne PySem.F.cmpSplit_ne sub (PySem.F.cmpArgs_ne _ _) (vl_objNe (A := A.in1) (by show A.units + 1 < cLine; exact hu) X I hs hf (wpAny_mono h (fun v s' hv => ?_) fun _ _ e => e))))))
    obtain ⟨k, rfl, hq⟩ := hv
    first | exact ⟨k, rfl, wpAny_pure ⟨_, rfl, hq⟩⟩ | exact ⟨k, rfl, ⟨_, rfl, hq⟩⟩ | exact ⟨k, rfl, wpAny_pure (wpAny_pure ⟨_, rfl, hq⟩)⟩
  unfold richCompare
  simp only [oneThing_ref]
  refine wpAny_holding (wpAny_bind (wpAny_cRoomFor (Nat.lt_of_succ_lt hu) ?_))
  refine wpAny_bind (I.type.here (wpAny_bind (hb.here ?_)))
  split
  · rename_i q
    have e : subIn K tb (.ref C) = some false := by
      rcases Bool.or_eq_true_iff.mp hn with e | e
      · rw [beq_iff_eq.mp e] at q; simp at q
      · exact beq_iff_eq.mp e
    refine wpAny_bind ((looks_subIn X e).here ?_)
    simp only [Bool.false_eq_true, if_false]
    refine wpAny_bind (wpAny_mono one (fun r s' z => ?_) fun _ _ e => e)
    obtain ⟨v, rfl, hq⟩ := z
    exact wpAny_pure hq
  · refine wpAny_bind (wpAny_pure ?_)
    simp only [Bool.false_eq_true, if_false]
    refine wpAny_bind (wpAny_mono one (fun r s' z => ?_) fun _ _ e => e)
    obtain ⟨v, rfl, hq⟩ := z
    exact wpAny_pure hq
end
end PySem.W
namespace L2
open PySem PySem.Spec PyProof.Rows
section
variable {X : Cx} {CX : CXT} {k : Nat} {f C : Addr} {fd : FuncData} {ps : List Str} {sp : Sp}
/-- o != x -/
theorem op_neO {E : XK} (F : FnG X.prog X.w X.K X.mg X.base CX k f fd ps sp) (hr : RoomG (k + 1) X.A) (hs : PySem.W.findIn X.K (.ref C) "__eq__" = some (some (.ref f))) (hf : PySem.W.isFn X.K (.ref f) = true) (hne : PySem.W.findIn X.K (.ref C) "__ne__" = some (some (.builtin "object.__ne__")))
    (hm : PySem.W.mroIn X.K C (.type "object") = some true) (hb : Binds X.K fd ps []) (hx : ∀ σ, PassesAt CX X σ E) :
    OpR X (compareOp .NotEq) (fun x y H Q => ∃ a dx fs tb, x = .ref a ∧ H a = some (.ins C dx fs) ∧ TyX X.K H y tb ∧ PySem.W.notFirst X.K C tb = true ∧ sp [.ref a, y] H (fun v H' => ∃ b : Bool, v = .bl b ∧ Q (.bl (!b)) H') E) := by
  intro pins s σ H x y v u Q I rx ry h
  obtain ⟨a, dx, fs, tb, rfl, ha, ty, hn, hsp⟩ := h
  obtain rfl : v = Value.ref a := rx
  obtain ⟨mA, O, _, _, _, _⟩ := ins_get I.hok ha
  obtain ⟨od, J, _⟩ := O.look
  obtain ⟨m, hF⟩ := I.fr
  obtain ⟨P, Z, p, _⟩ := kit_of I ry ty
  show wpAny (model X.prog X.w) X.A (richCompare .NotEq (.ref a) u) (EP X pins σ Q) X.xe s
  refine PySem.W.vl_ne (tb := tb) (by have := hr.r.un; omega) hF I.ok.mod.kin J (Z.ty _ _ I.kIn p) hn hne hm hs hf ?_
  refine thn (run_selfA (us := [u]) (vs := [y]) F hr.in1 I.env0.in1 hb (hx σ) I (.cons ry .nil) hsp) fun v s' hv => ?_
  obtain ⟨z, H', I', rz, b, ez, q⟩ := hv
  subst ez
  obtain rfl := rz
  exact ⟨b, rfl, .bl (!b), H', I', rfl, q⟩
end
end L2
namespace VL
open PySem PySem.Spec PyProof.Rows L2
section
variable {K : PySem.W.Frag} {G0 G1 : Gh} {H0 H1 Hs : Hp} {ρ1 : SE} {σ : St} {xk : XK} {Ev : QX} {sp : VSp} {svs : List SV} {tvs : List TV} {vs : List V} {Q : VK} {Qv : TV → Prop}
/-- what a callee is asked, from the caller's slots -/
theorem sp_core (R1 : Rep K G0 H0 G1 ρ1 σ H1) (xl : XL K G0 H0 Ev xk) (rts : RTs K Hs G1 ρ1 σ H1 tvs vs) (ea : argsS ρ1 tvs = some svs) (hs : sp svs (fun tv => flatT tv = true ∧ Qv tv) Ev)
    (q : ∀ tv G' H' v, Rep K G0 H0 G' ρ1 σ H' → Evo ρ1 σ G1 H1 ρ1 G' H' → RT K H1 G' ρ1 σ H' tv v → Qv tv → Q v H') : spV K sp vs H1 Q xk := by
  have sx := see_ext R1.ext vs
  refine ⟨G1.see H1 vs, svs, _, Ev, sx, argsS_ok R1 rts (fun v hv => hv) ea, hs, fun xn D' H' c d ex xr ev => xl xn D' H' c d ?_ xr ev, fun tv G' H' v ex rt qv => ?_⟩
  · exact (R1.ext.trans (ex.borrow R1.ext.self rfl fun a f => .inl f)).low
  · obtain ⟨fl, qv⟩ := qv
    have b : Ext G1 H1 { F := G1.F, D := G'.D } H' := ex.borrow R1.ext.self rfl fun a f => .inl f
    obtain ⟨R2, E2⟩ := R1.call b
    have rt2 : RT K H1 { F := G1.F, D := G'.D } [] [] H' tv v := rt.lessF fl fun a h f => by
      obtain ⟨o, z⟩ := R1.ext.ft a f
      rw [h] at z
      cases z
    exact q tv _ H' v R2 E2 (rt2.out R1 fun a h => h) qv
end
section
variable {X : Cx} {xk : XK} {C : Addr} {sp : VSp} {e o a b : Expr} {wo wa wb : EW} {wA : AW}
/-- len(o) -/
def wLenO (C : Addr) (sp : VSp) (wo : EW) : EW := fun ρ Q E => wo ρ (fun tv ρ1 => ∃ fs, tv = .obj C fs ∧ sp [.obj C fs] (fun tv' => flatT tv' = true ∧ ∃ n : Nat, tv' = .d (.int (n : Int)) ∧ (n : Int) < 2 ^ 63 ∧ Q tv' ρ1) E) E
theorem ve_lenO (h : PE X e (tCB (fun xs H Q => ∃ a dx fs, xs = [.ref a] ∧ H a = some (.ins C dx fs) ∧ spV X.K sp [.ref a] H (fun v H' => ∃ n : Nat, v = .int (n : Int) ∧ (n : Int) < 2 ^ 63 ∧ Q v H') xk) (tCons (rdE X.K xk wo) tNil))) : VE X xk e (wLenO C sp wo) :=
  h.imp fun σ H Q ⟨G0, H0, G, ρ, Qv, Ev, R, xl, hw, q⟩ => ⟨G0, H0, G, ρ, _, Ev, R, xl, hw, fun tv ρ1 G1 H1 v R1 E1 rt q1 => by
    obtain ⟨fs, etv, hs⟩ := q1
    subst etv
    obtain ⟨a, dx, vs, ev, h1, rf⟩ := id rt
    subst ev
    refine ⟨a, dx, vs, rfl, h1, sp_core (Qv := fun tv' => ∃ n : Nat, tv' = .d (.int (n : Int)) ∧ (n : Int) < 2 ^ 63 ∧ Qv tv' ρ1) R1 xl (.cons rt .nil fun _ z => nomatch z) rfl hs fun tv' G' H' v' R2 E2 rt2 ⟨n, etv, hn, q2⟩ => ?_⟩
    subst etv
    have rt3 : Rp X.K G'.F H' v' (.int (n : Int)) := rt2
    cases rt3
    exact ⟨n, rfl, hn, q (.d (.int n)) ρ1 G' H' _ R2 (E1.trans E2) (show Rp _ _ _ _ _ from .int _) q2⟩⟩
/-- o(e, ..) -/
def wCallO (C : Addr) (sp : VSp) (wo : EW) (wA : AW) : EW := fun ρ Q E => wo ρ (fun tv ρ1 => ∃ fs, tv = .obj C fs ∧ wA ρ1 (fun tvs ρ2 => ∃ svs, argsS ρ2 tvs = some svs ∧ sp (.obj C fs :: svs) (fun tv' => flatT tv' = true ∧ Q tv' ρ2) E) E) E
/-- .. in a try -/
def wCallOS (C : Addr) (sp : VSp) (wo : EW) (wA : AW) : EW := fun ρ Q E => wo ρ (fun tv ρ1 => ∃ fs, tv = .obj C fs ∧ wA ρ1 (fun tvs ρ2 => ∃ svs, argsS ρ2 tvs = some svs ∧ sp (.obj C fs :: svs) (fun tv' => flatT tv' = true ∧ Q tv' ρ2) E) (fun _ => False)) (fun _ => False)
theorem callO_core {K : PySem.W.Frag} {xk2 : XK} {E : XK} {σ : St} {H : Hp} {Q : VK} {G0 : Gh} {H0 : Hp} {G : Gh} {ρ : SE} {Qv : QE} {Ev E2 : QX} (R : Rep K G0 H0 G ρ σ H) (xl : XL K G0 H0 Ev E) (x2 : XL K G0 H0 E2 xk2)
    (hw : wo ρ (fun tv ρ1 => ∃ fs, tv = .obj C fs ∧ wA ρ1 (fun tvs ρ2 => ∃ svs, argsS ρ2 tvs = some svs ∧ sp (.obj C fs :: svs) (fun tv' => flatT tv' = true ∧ Qv tv' ρ2) Ev) E2) E2)
    (q : ∀ tv ρ' G' H' v, Rep K G0 H0 G' ρ' σ H' → Evo ρ σ G H ρ' G' H' → RT K H G' ρ' σ H' tv v → Qv tv ρ' → Q v H') : rdE K xk2 wo σ H fun x H1 => ∃ a, x = .ref a ∧ rdA K xk2 wA σ H1 fun vs H2 => (∃ dx fs, H2 a = some (.ins C dx fs)) ∧ spV K sp (.ref a :: vs) H2 Q E := by
  refine ⟨G0, H0, G, ρ, _, E2, R, x2, hw, fun tv ρ1 G1 H1 v R1 E1 rt q1 => ?_⟩
  obtain ⟨fs, etv, q1⟩ := q1
  subst etv
  obtain ⟨a, dx, vs, ev, h1, rf⟩ := id rt
  subst ev
  refine ⟨a, rfl, G0, H0, G1, ρ1, _, E2, R1, x2, q1, fun tvs ρ2 G2 H2 us R2 E2' rts q2 => ?_⟩
  obtain ⟨svs, ea, hs⟩ := q2
  have rt' := rt.evo E2' R1
  obtain ⟨a', dx', vs', ev', h2, rf'⟩ := id rt'
  cases ev'
  refine ⟨⟨dx', vs', h2⟩, sp_core (tvs := .obj C fs :: tvs) (svs := .obj C fs :: svs) (Hs := H) (Qv := fun tv' => Qv tv' ρ2) R2 xl (.cons rt' (rts.back fun a h => E1.none h) fun _ z => nomatch z) (by unfold argsS; rw [ea]; rfl) hs fun tv' G' H' v' R3 E3 rt3 q3 => ?_⟩
  exact q tv' ρ2 G' H' v' R3 ((E1.trans E2').trans E3) (rt3.back fun a h => (E1.trans E2').none h) q3
theorem ve_callO (h : PE X e (tCallO C (spV X.K sp) (fun _ => xk) (rdE X.K xk wo) (rdA X.K xk wA))) : VE X xk e (wCallO C sp wo wA) := h.imp fun σ H Q ⟨G0, H0, G, ρ, Qv, Ev, R, xl, hw, q⟩ => callO_core R xl xl hw q
theorem ve_callOS {W : WX} (h : PE X e (tCallO C (spV X.K sp) (WE W) (rdE X.K E0 wo) (rdA X.K E0 wA))) : PE X e (rdES X.K W (wCallOS C sp wo wA)) := h.imp fun σ H Q ⟨G0, H0, G, ρ, Qv, Ev, R, xl, hw, q⟩ => callO_core R xl e0_xl hw q
end
end VL
set_option Elab.async false
set_option linter.all false
set_option maxRecDepth 100000
set_option maxHeartbeats 1000000
/-! VL18: == and != of objects, isinstance of values and objects, keyword calls, makes in a try. -/
namespace VL
open PySem PySem.Spec PyProof.Rows L2
/-- what isinstance and == ask of an own class -/
structure ObjK (K : PySem.W.Frag) (C : Addr) : Prop where
  cl : Cls K C
  ha : PySem.W.findIn K (.ref C) "__class__" = some (some (.builtin "object.__class__"))
  hn : PySem.W.specialIn K (.builtin "object.__class__") "__get__" = some (some (.builtin "getset_descriptor.__get__"))
  htk : PySem.W.takesIn K (.builtin "object.__class__") = some true
  hm : PySem.W.mroIn K C (.type "object") = some true
/-- a value's type -/
def TyT (K : PySem.W.Frag) (ρ : SE) (tv : TV) (t : Value) : Prop := (∃ x, res ρ tv = some x ∧ t = .type (tyD x)) ∨ ∃ C fs, tv = .obj C fs ∧ ObjK K C ∧ t = .ref C
theorem tyT_ok {K : PySem.W.Frag} {G0 G : Gh} {H0 H Hs : Hp} {ρ : SE} {σ : St} {tv : TV} {v : V} {t : Value} (R : Rep K G0 H0 G ρ σ H) (r : RT K Hs G ρ σ H tv v) (h : TyT K ρ tv t) : TyX K H v t := by
  rcases h with ⟨x, e, rfl⟩ | ⟨C, fs, rfl, o, rfl⟩
  · exact tyD_ok (r.rq R e)
  · obtain ⟨a, dx, vs, rfl, h1, _⟩ := r
    exact .base (.ins h1 o.cl o.ha o.hn o.htk o.hm)
section
variable {X : Cx} {xk : XK} {C : Addr} {sp : VSp} {e o a b : Expr} {we wo wa wb : EW} {wA : AW}
/-- o == x, o != x -/
def wEqO (K : PySem.W.Frag) (C : Addr) (sp : VSp) (neg : Bool) (wa wb : EW) : EW := fun ρ Q E => wa ρ (fun ta ρ1 => ∃ fs, ta = .obj C fs ∧ wb ρ1 (fun tb ρ2 => ∃ svs t, argsS ρ2 [tb] = some svs ∧ TyT K ρ2 tb t ∧ PySem.W.notFirst K C t = true ∧
  sp (.obj C fs :: svs) (fun tv => flatT tv = true ∧ ∃ k, tv = .d (.bool k) ∧ Q (.d (.bool (if neg = true then !k else k))) ρ2) E) E) E
def rEqO (K : PySem.W.Frag) (C : Addr) (sp : VSp) (neg : Bool) (E : XK) : R2 := fun x y H Q => ∃ a dx fs tb, x = .ref a ∧ H a = some (.ins C dx fs) ∧ TyX K H y tb ∧ PySem.W.notFirst K C tb = true ∧ spV K sp [.ref a, y] H (fun v H' => ∃ b : Bool, v = .bl b ∧ Q (.bl (if neg = true then !b else b)) H') E
theorem eqO_core {neg : Bool} {σ : St} {H : Hp} {Q : VK} {K : PySem.W.Frag} (h : rdE K xk (wEqO K C sp neg wa wb) σ H Q) : tOp (rEqO K C sp neg xk) (rdE K xk wa) (rdE K xk wb) σ H Q := by
  obtain ⟨G0, H0, G, ρ, Qv, Ev, R, xl, hw, q⟩ := h
  refine ⟨G0, H0, G, ρ, _, Ev, R, xl, hw, fun ta ρ1 G1 H1 v R1 E1 rt q1 => ?_⟩
  obtain ⟨fs, eta, q1⟩ := q1
  subst eta
  refine ⟨G0, H0, G1, ρ1, _, Ev, R1, xl, q1, fun tb ρ2 G2 H2 u R2 E2 ru q2 => ?_⟩
  obtain ⟨svs, t, ea, ty, nf, hs⟩ := q2
  have rt' := rt.evo E2 R1
  obtain ⟨a, dx, vs, ev, h2, rf⟩ := id rt'
  subst ev
  refine ⟨a, dx, vs, t, rfl, h2, tyT_ok R2 ru ty, nf, sp_core (tvs := [.obj C fs, tb]) (svs := .obj C fs :: svs) (Hs := H) (Qv := fun tv => ∃ k, tv = .d (.bool k) ∧ Qv (.d (.bool (if neg = true then !k else k))) ρ2) R2 xl
    (.cons rt' (.cons (ru.back fun a h => E1.none h) .nil fun xs _ j ys ey => by simp at ey) fun _ z => nomatch z) (by unfold argsS; rw [ea]; rfl) hs fun tv' G' H' v' R3 E3 rt3 ⟨k, ek, q3⟩ => ?_⟩
  subst ek
  have rt4 : Rp K G'.F H' v' (.bool k) := rt3
  cases rt4
  exact ⟨k, rfl, q (.d (.bool (if neg = true then !k else k))) ρ2 G' H' _ R3 ((E1.trans E2).trans E3) (show Rp _ _ _ _ _ from .bl _) q3⟩
theorem ve_eqO {neg : Bool} (h : PE X e (tOp (rEqO X.K C sp neg xk) (rdE X.K xk wa) (rdE X.K xk wb))) : VE X xk e (wEqO X.K C sp neg wa wb) := h.imp fun _ _ _ q => eqO_core q
theorem vt_eqO {neg : Bool} (h : PT X e (tTest (tOp (rEqO X.K C sp neg xk) (rdE X.K xk wa) (rdE X.K xk wb)))) : VT X xk e (wTst (wEqO X.K C sp neg wa wb)) := h.imp fun _ _ _ h => tst_core (fun _ _ _ q => eqO_core q) h
/-- isinstance(x, c) of any value: c the class as a value -/
def wIsC (K : PySem.W.Frag) (cv : Value) (we : EW) : EW := fun ρ Q E => we ρ (fun tv ρ1 => ∃ t k, TyT K ρ1 tv t ∧ PySem.W.kitOne K t cv = some k ∧ Q (.d (.bool k)) ρ1) E
theorem ve_isC {c : V} {cv : Value} (hc : ClsV c cv) (h : PE X e (tCB (rIsi X.K) (tCons (rdE X.K xk we) (tCons (tC c) tNil)))) : VE X xk e (wIsC X.K cv we) := h.imp fun σ H Q ⟨G0, H0, G, ρ, Qv, Ev, R, xl, hw, q⟩ =>
  ⟨G0, H0, G, ρ, _, Ev, R, xl, hw, fun tv ρ1 G1 H1 v R1 E1 rt ⟨t, k, ty, ek, q1⟩ =>
    ⟨v, c, t, cv, k, rfl, hc, tyT_ok R1 rt ty, ek, q (.d (.bool k)) ρ1 G1 H1 _ R1 E1 (show Rp _ _ _ _ _ from .bl _) q1⟩⟩
end
end VL
namespace VL
open PySem PySem.Spec PyProof.Rows L2
section
variable {X : Cx} {C : Addr} {f : ISp} {wA : AW} {e : Expr}
theorem ve_makeS {W : WX} (h : PE X e (tMakeG C (spI X.K C f) (WE W) (rdA X.K E0 wA))) : PE X e (rdES X.K W (wMakeS C f wA)) := h.imp fun σ H Q ⟨G0, H0, G, ρ, Qv, Ev, R, xl, hw, q⟩ => make_core R xl e0_xl hw q
end
end VL
set_option Elab.async false
set_option linter.all false
set_option maxRecDepth 100000
set_option maxHeartbeats 1000000
/-! VL19: zip of lists and tuples, mixed. -/
namespace ZM
open PySem
open PySem.Sem (wp)
def SqA : Bool → Heap → Addr → Array Value → Prop
  | true, h, l, xs => h.IsTuple l xs
  | false, h, l, xs => h.IsList l xs
def SqI : Bool → Heap → Addr → Addr → Nat → Prop
  | true, h, it, l, i => h.IsTupleIter it l i
  | false, h, it, l, i => h.IsListIter it l i
theorem SqA.extBut {b : Bool} {h h' : Heap} {a c : Addr} {xs : Array Value} (x : SqA b h a xs) (hs : Heap.ExtBut c h h') (n : a ≠ c) : SqA b h' a xs := by
  cases b
  · exact Heap.IsList.extBut x hs n
  · exact Heap.IsTuple.extBut x hs n
theorem SqA.push {b : Bool} {h : Heap} {a : Addr} {xs : Array Value} (x : SqA b h a xs) (o : Obj) : SqA b (h.push o) a xs := by
  cases b
  · exact Heap.IsList.push x o
  · exact Heap.IsTuple.push x o
theorem SqI.extBut {b : Bool} {h h' : Heap} {it l c : Addr} {i : Nat} (x : SqI b h it l i) (hs : Heap.ExtBut c h h') (n : it ≠ c) : SqI b h' it l i := by
  cases b
  · exact Heap.IsListIter.extBut x hs n
  · exact Heap.IsTupleIter.extBut x hs n
theorem SqI.at {b : Bool} {h h' : Heap} {it l : Addr} {i : Nat} (x : SqI b h it l i) (e : ∀ o, h.get? it = some o → h'.get? it = some o) : SqI b h' it l i := by
  cases b
  · exact Heap.IsListIter.at x e
  · exact Heap.IsTupleIter.at x e
theorem SqI.lt {b : Bool} {h : Heap} {it l : Addr} {i : Nat} (x : SqI b h it l i) : it < h.objs.size := by
  cases b
  · obtain ⟨_, e, _⟩ := (show h.IsListIter it l i from x); exact Heap.lt_size e
  · obtain ⟨_, e, _⟩ := (show h.IsTupleIter it l i from x); exact Heap.lt_size e
theorem SqI.there {b : Bool} {h : Heap} {it l : Addr} {i : Nat} (x : SqI b h it l i) : ∃ o, h.get? it = some o ∧ o.data = .fields #[.ref l, .int i 0] := by
  cases b
  · obtain ⟨o, e, _, d⟩ := (show h.IsListIter it l i from x); exact ⟨o, e, d⟩
  · obtain ⟨o, e, _, d⟩ := (show h.IsTupleIter it l i from x); exact ⟨o, e, d⟩
section
variable {prog : Program} {w : World} {A : Around} {E : Value → Shared → Prop} {s : Shared}
theorem nextOf_sq_item {b : Bool} {it l : Addr} {i : Nat} {items : Array Value} {x : Value} {Q : Value → Shared → Prop} (hit : SqI b s.heap it l i) (hl : SqA b s.heap l items) (hx : items[i]? = some x)
    (hQ : ∀ h', SqI b h' it l (i + 1) → Heap.SameBut it s.heap h' → Q x { s with heap := h' }) : wpAny (model prog w) A (Builtin.SmallTypes.nextOf (.ref it)) Q E s := by
  cases b
  · exact wpAny_nextOf_list_item hit hl hx hQ
  · exact wpAny_nextOf_tuple_item hit hl hx hQ
theorem nextOf_sq_end {b : Bool} {it l : Addr} {i : Nat} {items : Array Value} {Q : Value → Shared → Prop} (hh : A.handled = none) (hit : SqI b s.heap it l i) (hl : SqA b s.heap l items) (hx : items[i]? = none)
    (hE : ∀ h' e, Heap.ExtBut it s.heap h' → (∃ o, h'.get? e = some o ∧ o.cls = .type "StopIteration") → E (.ref e) { s with heap := h' }) : wpAny (model prog w) A (Builtin.SmallTypes.nextOf (.ref it)) Q E s := by
  cases b
  · exact wpAny_nextOf_list_end hh hit hl hx hE
  · exact wpAny_nextOf_tuple_end hh hit hl hx hE
theorem zipS_item {c1 c2 : Bool} {z TI TO i1 i2 l1 l2 : Addr} {k1 k2 : Nat} {xs ys : Array Value} {x y a b : Value} {Q : Value → Shared → Prop} (D : ZipApart z TI TO i1 i2 l1 l2)
    (hz : IsZip s.heap z TI TO .none) (hTI : IsPair s.heap TI (.ref i1) (.ref i2)) (hTO : IsPair s.heap TO a b)
    (h1 : SqI c1 s.heap i1 l1 k1) (h2 : SqI c2 s.heap i2 l2 k2) (hl1 : SqA c1 s.heap l1 xs) (hl2 : SqA c2 s.heap l2 ys) (hx : xs[k1]? = some x) (hy : ys[k2]? = some y)
    (hQ : ∀ h', IsZip h' z TI TO (rawInt s.heap.objs.size) → IsPair h' TO x y → SqI c1 h' i1 l1 (k1 + 1) → SqI c2 h' i2 l2 (k2 + 1) → IsPair h' s.heap.objs.size x y → h'.objs.size = s.heap.objs.size + 1 →
      (∀ c o, c ≠ z → c ≠ TO → c ≠ i1 → c ≠ i2 → s.heap.get? c = some o → h'.get? c = some o) → Q (.ref s.heap.objs.size) { s with heap := h' }) :
    wpAny (model prog w) A (Builtin.«zip.__next__» ⟨[.ref z], []⟩) (fun fin s' => ∃ v, fin = .done (.ret v) ∧ Q v s') E s := by
  show wpAny _ _ (field (.ref z) 2 >>= _) _ _ _
  refine wpAny_bind (wpAny_field hz rfl (x := .bool false) rfl ?_)
  show wpAny _ _ (field (.ref z) 3 >>= _) _ _ _
  refine wpAny_bind (wpAny_field hz rfl (x := .ref TI) rfl ?_)
  refine wpAny_bind (wpAny_seqItems hTI rfl ?_)
  show wpAny _ _ (Builtin.SmallTypes.ownedTupleIsFree (.ref z) >>= _) _ _ _
  refine wpAny_bind ?_
  unfold Builtin.SmallTypes.ownedTupleIsFree
  refine wpAny_bind (wpAny_field hz rfl (x := .none) rfl (wpAny_pure ?_))
  simp only [if_true]
  refine wpAny_bind (wpAny_rule ?_)
  refine wpAny_bind (wpAny_field hz rfl (x := .ref TO) rfl ?_)
  refine wpAny_bind (wpAny_setField_rec hz (by simp) fun h₁ hz₁ hs₁ => ?_)
  replace hz₁ : IsZip h₁ z TI TO .ellipsis := hz₁
  refine wpAny_bind ?_
  simp only [List.zipIdx_cons, List.zipIdx_nil, List.forIn_cons, List.forIn_nil]

  refine wpAny_bind (wpAny_bind (wpAny_onRaise ?_))
  show wpAny _ _ (Builtin.SmallTypes.nextOf (.ref i1) >>= _) _ _ _
  refine wpAny_bind (nextOf_sq_item (h1.extBut hs₁.extBut D.i1z) (hl1.extBut hs₁.extBut D.l1z) hx fun h₂ h1₂ hs₂ => wpAny_pure ?_)
  have hTO₂ : IsPair h₂ TO a b := hs₂.extBut _ _ D.TOi1 (hs₁.extBut _ _ D.TOz hTO)
  refine wpAny_bind (wpAny_seqItems hTO₂ rfl ?_)
  refine wpAny_bind (wpAny_updateSeq_pair hTO₂ fun h₃ hTO₃ hs₃ => ?_)
  replace hTO₃ : IsPair h₃ TO x b := hTO₃
  refine wpAny_bind (wpAny_letGo (wpAny_pure ?_))

  refine wpAny_bind (wpAny_bind (wpAny_onRaise ?_))
  show wpAny _ _ (Builtin.SmallTypes.nextOf (.ref i2) >>= _) _ _ _
  refine wpAny_bind (nextOf_sq_item (((h2.extBut hs₁.extBut D.i2z).extBut hs₂.extBut D.i12.symm).extBut hs₃.extBut D.TOi2.symm)
    (((hl2.extBut hs₁.extBut D.l2z).extBut hs₂.extBut D.l2i1).extBut hs₃.extBut D.l2TO) hy fun h₄ h2₄ hs₄ => wpAny_pure ?_)
  have hTO₄ : IsPair h₄ TO x b := hs₄.extBut _ _ D.TOi2 hTO₃
  refine wpAny_bind (wpAny_seqItems hTO₄ rfl ?_)
  refine wpAny_bind (wpAny_updateSeq_pair hTO₄ fun h₅ hTO₅ hs₅ => ?_)
  replace hTO₅ : IsPair h₅ TO x y := hTO₅
  refine wpAny_bind (wpAny_letGo (wpAny_pure (wpAny_pure ?_)))

  refine wpAny_bind (wpAny_seqItems hTO₅ rfl ?_)
  refine wpAny_bind (wpAny_newTuple ?_)
  have hsz : h₅.objs.size = s.heap.objs.size := by rw [hs₅.1, hs₄.1, hs₃.1, hs₂.1, hs₁.1]
  have hz₅ : IsZip h₅ z TI TO .ellipsis := hs₅.extBut _ _ D.TOz.symm (hs₄.extBut _ _ D.i2z.symm (hs₃.extBut _ _ D.TOz.symm (hs₂.extBut _ _ D.i1z.symm hz₁)))
  have hk₅ : ∀ c o, c ≠ z → c ≠ TO → c ≠ i1 → c ≠ i2 → s.heap.get? c = some o → h₅.get? c = some o := fun c o n1 n2 n3 n4 e =>
    hs₅.extBut _ _ n2 (hs₄.extBut _ _ n4 (hs₃.extBut _ _ n2 (hs₂.extBut _ _ n3 (hs₁.extBut _ _ n1 e))))
  have h1₅ : SqI c1 h₅ i1 l1 (k1 + 1) := ((h1₂.extBut hs₃.extBut D.TOi1.symm).extBut hs₄.extBut D.i12).extBut hs₅.extBut D.TOi1.symm
  have h2₅ : SqI c2 h₅ i2 l2 (k2 + 1) := h2₄.extBut hs₅.extBut D.TOi2.symm
  have hzlt : z < h₅.objs.size := Heap.lt_size hz₅
  have hTOlt : TO < h₅.objs.size := Heap.lt_size hTO₅
  have hi1lt : i1 < h₅.objs.size := by exact h1₅.lt
  have hi2lt : i2 < h₅.objs.size := by exact h2₅.lt
  show wpAny _ _ (Builtin.SmallTypes.ownedTupleHandOut (.ref z) (.ref h₅.objs.size) >>= _) _ _ _
  refine wpAny_bind ?_
  unfold Builtin.SmallTypes.ownedTupleHandOut
  have hz₆ : IsZip (h₅.push { cls := .type "tuple", data := .seq #[x, y] }) z TI TO .ellipsis := Heap.get?_push_of_some _ hz₅
  refine wpAny_bind (wpAny_setField_rec hz₆ (by simp) fun h₇ hz₇ hs₇ => ?_)
  replace hz₇ : IsZip h₇ z TI TO (rawInt h₅.objs.size) := hz₇
  refine wpAny_setField_rec hz₇ (by simp) fun h₈ hz₈ hs₈ => ?_
  replace hz₈ : IsZip h₈ z TI TO (rawInt h₅.objs.size) := hz₈
  have up : ∀ c o, c ≠ z → h₅.get? c = some o → h₈.get? c = some o := fun c o n1 e => hs₈.extBut _ _ n1 (hs₇.extBut _ _ n1 (Heap.get?_push_of_some _ e))
  have hT₈ : IsPair h₈ h₅.objs.size x y := hs₈.extBut _ _ (Nat.ne_of_gt hzlt) (hs₇.extBut _ _ (Nat.ne_of_gt hzlt) (Heap.get?_push_size _ rfl))
  have hz8 : h₈.objs.size = h₅.objs.size + 1 := by rw [hs₈.1, hs₇.1, Heap.size_push]
  rw [hsz] at hz₈ hT₈ hz8
  refine wpAny_pure ⟨_, rfl, ?_⟩
  show Q (.ref h₅.objs.size) _
  rw [hsz]
  exact hQ h₈ hz₈ (up _ _ D.TOz hTO₅) (h1₅.at fun o e => up _ o D.i1z e) (h2₅.at fun o e => up _ o D.i2z e) hT₈ hz8 fun c o n1 n2 n3 n4 e => up c o n1 (hk₅ c o n1 n2 n3 n4 e)

theorem zipS_end {c1 c2 : Bool} {z TI TO i1 i2 l1 l2 : Addr} {k1 k2 : Nat} {xs ys : Array Value} {a b : Value} {Q : Fin → Shared → Prop} (hh : A.handled = none) (D : ZipApart z TI TO i1 i2 l1 l2)
    (hz : IsZip s.heap z TI TO .none) (hTI : IsPair s.heap TI (.ref i1) (.ref i2)) (hTO : IsPair s.heap TO a b)
    (h1 : SqI c1 s.heap i1 l1 k1) (h2 : SqI c2 s.heap i2 l2 k2) (hl1 : SqA c1 s.heap l1 xs) (hl2 : SqA c2 s.heap l2 ys) (hend : xs[k1]? = none ∨ ys[k2]? = none)
    (hE : ∀ h' e, (∀ c o, c ≠ z → c ≠ TO → c ≠ i1 → c ≠ i2 → s.heap.get? c = some o → h'.get? c = some o) → (∃ o, h'.get? e = some o ∧ o.cls = .type "StopIteration") → E (.ref e) { s with heap := h' }) :
    wpAny (model prog w) A (Builtin.«zip.__next__» ⟨[.ref z], []⟩) Q E s := by
  show wpAny _ _ (field (.ref z) 2 >>= _) _ _ _
  refine wpAny_bind (wpAny_field hz rfl (x := .bool false) rfl ?_)
  show wpAny _ _ (field (.ref z) 3 >>= _) _ _ _
  refine wpAny_bind (wpAny_field hz rfl (x := .ref TI) rfl ?_)
  refine wpAny_bind (wpAny_seqItems hTI rfl ?_)
  show wpAny _ _ (Builtin.SmallTypes.ownedTupleIsFree (.ref z) >>= _) _ _ _
  refine wpAny_bind ?_
  unfold Builtin.SmallTypes.ownedTupleIsFree
  refine wpAny_bind (wpAny_field hz rfl (x := .none) rfl (wpAny_pure ?_))
  simp only [if_true]
  refine wpAny_bind (wpAny_rule ?_)
  refine wpAny_bind (wpAny_field hz rfl (x := .ref TO) rfl ?_)
  refine wpAny_bind (wpAny_setField_rec hz (by simp) fun h₁ hz₁ hs₁ => ?_)
  replace hz₁ : IsZip h₁ z TI TO .ellipsis := hz₁
  refine wpAny_bind ?_
  simp only [List.zipIdx_cons, List.zipIdx_nil, List.forIn_cons, List.forIn_nil]
  refine wpAny_bind (wpAny_bind (wpAny_onRaise ?_))
  show wpAny _ _ (Builtin.SmallTypes.nextOf (.ref i1) >>= _) _ _ _
  cases hx : xs[k1]? with
  | none =>
    refine wpAny_bind (nextOf_sq_end hh (h1.extBut hs₁.extBut D.i1z) (hl1.extBut hs₁.extBut D.l1z) hx fun h₂ e hs₂ he => ?_)
    obtain ⟨oe, hoe, hce⟩ := he
    have hz₂ : IsZip h₂ z TI TO .ellipsis := hs₂ _ _ D.i1z.symm hz₁
    have hez : e ≠ z := fun x => by subst x; rw [hz₂] at hoe; cases hoe; simp at hce
    refine wpAny_setField_rec hz₂ (by simp) fun h₃ _ hs₃ => hE h₃ e (fun c o n1 _ n3 _ x => hs₃.extBut _ _ n1 (hs₂ _ _ n3 (hs₁.extBut _ _ n1 x))) ⟨oe, hs₃.extBut _ _ hez hoe, hce⟩
  | some x =>
    have hy : ys[k2]? = none := by rcases hend with h | h; rw [hx] at h; cases h; exact h
    refine wpAny_bind (nextOf_sq_item (h1.extBut hs₁.extBut D.i1z) (hl1.extBut hs₁.extBut D.l1z) hx fun h₂ h1₂ hs₂ => wpAny_pure ?_)
    have hTO₂ : IsPair h₂ TO a b := hs₂.extBut _ _ D.TOi1 (hs₁.extBut _ _ D.TOz hTO)
    refine wpAny_bind (wpAny_seqItems hTO₂ rfl ?_)
    refine wpAny_bind (wpAny_updateSeq_pair hTO₂ fun h₃ hTO₃ hs₃ => ?_)
    refine wpAny_bind (wpAny_letGo (wpAny_pure ?_))
    refine wpAny_bind (wpAny_bind (wpAny_onRaise ?_))
    show wpAny _ _ (Builtin.SmallTypes.nextOf (.ref i2) >>= _) _ _ _
    refine wpAny_bind (nextOf_sq_end hh (((h2.extBut hs₁.extBut D.i2z).extBut hs₂.extBut D.i12.symm).extBut hs₃.extBut D.TOi2.symm)
      (((hl2.extBut hs₁.extBut D.l2z).extBut hs₂.extBut D.l2i1).extBut hs₃.extBut D.l2TO) hy fun h₄ e hs₄ he => ?_)
    obtain ⟨oe, hoe, hce⟩ := he
    have hz₄ : IsZip h₄ z TI TO .ellipsis := hs₄ _ _ D.i2z.symm (hs₃.extBut _ _ D.TOz.symm (hs₂.extBut _ _ D.i1z.symm hz₁))
    have hez : e ≠ z := fun x => by subst x; rw [hz₄] at hoe; cases hoe; simp at hce
    refine wpAny_setField_rec hz₄ (by simp) fun h₅ _ hs₅ => hE h₅ e (fun c o n1 n2 n3 n4 x => hs₅.extBut _ _ n1 (hs₄ _ _ n4 (hs₃.extBut _ _ n2 (hs₂.extBut _ _ n3 (hs₁.extBut _ _ n1 x))))) ⟨oe, hs₅.extBut _ _ hez hoe, hce⟩

theorem pyNext_zipS_item {c1 c2 : Bool} {z TI TO i1 i2 l1 l2 : Addr} {k1 k2 : Nat} {xs ys : Array Value} {x y a b : Value} {Q : Option Value → Shared → Prop} (D : ZipApart z TI TO i1 i2 l1 l2)
    (hz : IsZip s.heap z TI TO .none) (hTI : IsPair s.heap TI (.ref i1) (.ref i2)) (hTO : IsPair s.heap TO a b)
    (h1 : SqI c1 s.heap i1 l1 k1) (h2 : SqI c2 s.heap i2 l2 k2) (hl1 : SqA c1 s.heap l1 xs) (hl2 : SqA c2 s.heap l2 ys) (hx : xs[k1]? = some x) (hy : ys[k2]? = some y)
    (hQ : ∀ h', IsZip h' z TI TO (rawInt s.heap.objs.size) → IsPair h' TO x y → SqI c1 h' i1 l1 (k1 + 1) → SqI c2 h' i2 l2 (k2 + 1) → IsPair h' s.heap.objs.size x y → h'.objs.size = s.heap.objs.size + 1 →
      (∀ c o, c ≠ z → c ≠ TO → c ≠ i1 → c ≠ i2 → s.heap.get? c = some o → h'.get? c = some o) → Q (some (.ref s.heap.objs.size)) { s with heap := h' }) :
    wpAny (model prog w) A (pyNext (.ref z)) Q E s := by
  have hT : s.TypeIs (.ref z) "zip" := ⟨_, hz, rfl⟩
  unfold pyNext
  exact wpAny_bind (wpAny_attempt (wpAny_callSpecial?_slot (name := Str.ofString "__next__") hT F.slot_zip_next
    (wpAny_call_entry F.slot_zip_next hT F.entry_zip_next
      (zipS_item D hz hTI hTO h1 h2 hl1 hl2 hx hy fun h' a1 a2 a3 a4 a5 a6 a7 => wpAny_pure (hQ h' a1 a2 a3 a4 a5 a6 a7)) (F.args_zip_next_1 _))))

theorem pyNext_zipS_end {c1 c2 : Bool} {z TI TO i1 i2 l1 l2 : Addr} {k1 k2 : Nat} {xs ys : Array Value} {a b : Value} {Q : Option Value → Shared → Prop} (hh : A.handled = none) (D : ZipApart z TI TO i1 i2 l1 l2)
    (hz : IsZip s.heap z TI TO .none) (hTI : IsPair s.heap TI (.ref i1) (.ref i2)) (hTO : IsPair s.heap TO a b)
    (h1 : SqI c1 s.heap i1 l1 k1) (h2 : SqI c2 s.heap i2 l2 k2) (hl1 : SqA c1 s.heap l1 xs) (hl2 : SqA c2 s.heap l2 ys) (hend : xs[k1]? = none ∨ ys[k2]? = none)
    (hQ : ∀ h', (∀ c o, c ≠ z → c ≠ TO → c ≠ i1 → c ≠ i2 → s.heap.get? c = some o → h'.get? c = some o) → Q none { s with heap := h' }) : wpAny (model prog w) A (pyNext (.ref z)) Q E s := by
  have hT : s.TypeIs (.ref z) "zip" := ⟨_, hz, rfl⟩
  unfold pyNext
  refine wpAny_bind (wpAny_attempt (wpAny_callSpecial?_slot (name := Str.ofString "__next__") hT F.slot_zip_next
    (wpAny_call_entry F.slot_zip_next hT F.entry_zip_next (zipS_end hh D hz hTI hTO h1 h2 hl1 hl2 hend fun h' e hk he => ?_) (F.args_zip_next_1 _))))
  obtain ⟨o, ho, hc⟩ := he
  refine wpAny_bind (wpAny_isInstance (T := "StopIteration") (b := true) ⟨o, ho, hc⟩ isSubtype_stop ?_)
  exact wpAny_pure (hQ _ hk)
end

abbrev itT : Bool → String
  | true => "tuple_iterator"
  | false => "list_iterator"
theorem sqI_mk {b : Bool} {h : Heap} {it l : Addr} (e : h.get? it = some { cls := .type (itT b), data := .fields #[.ref l, .int 0 0] }) : SqI b h it l 0 := by
  cases b
  · exact ⟨_, e, rfl, rfl⟩
  · exact ⟨_, e, rfl, rfl⟩
abbrev zipSH1 (c1 : Bool) (h : Heap) (l1 : Addr) : Heap := h.push { cls := .type (itT c1), data := .fields #[.ref l1, .int 0 0] }
abbrev zipSH2 (c1 c2 : Bool) (h : Heap) (l1 l2 : Addr) : Heap := (zipSH1 c1 h l1).push { cls := .type (itT c2), data := .fields #[.ref l2, .int 0 0] }
abbrev zipSH3 (c1 c2 : Bool) (h : Heap) (l1 l2 : Addr) : Heap := (zipSH2 c1 c2 h l1 l2).push { cls := .type "tuple", data := .seq #[.ref h.objs.size, .ref (zipSH1 c1 h l1).objs.size] }
abbrev zipSH4 (c1 c2 : Bool) (h : Heap) (l1 l2 : Addr) : Heap := (zipSH3 c1 c2 h l1 l2).push { cls := .type "tuple", data := .seq #[.none, .none] }
abbrev zipSH5 (c1 c2 : Bool) (h : Heap) (l1 l2 : Addr) : Heap := (zipSH4 c1 c2 h l1 l2).push { cls := .type "zip", data := .fields #[.none, .bool false, .bool false, .ref (zipSH2 c1 c2 h l1 l2).objs.size, .ref (zipSH3 c1 c2 h l1 l2).objs.size] }

theorem meets_zipS_new (c1 c2 : Bool) (l1 l2 : Addr) (xs ys : Array Value) :
    Meets (Builtin.«zip.__new__» ⟨[.type "zip", .ref l1, .ref l2], []⟩) (fun _ R s => SqA c1 s.heap l1 xs ∧ SqA c2 s.heap l2 ys ∧
      R (.ok (.ret (.ref (zipSH4 c1 c2 s.heap l1 l2).objs.size))) { s with heap := zipSH5 c1 c2 s.heap l1 l2 }) :=
  .of_wp fun prog w A R s h => by
    obtain ⟨hp, g, d, tk, os⟩ := s; obtain ⟨hl1, hl2, h⟩ := h
    have hsub := sub_zip
    cases c1 <;> cases c2
    · have hL1 : Heap.IsList (Shared.heap ⟨hp, g, d, tk, os⟩) l1 xs := hl1
      have hL2 : Heap.IsList (Shared.heap ⟨hp.push { cls := .type "list_iterator", data := .fields #[.ref l1, .int 0 0] }, g, d, tk, os⟩) l2 ys := Heap.IsList.push hl2 _
      wp_walk using wpAny_pyIter_list hL1, wpAny_pyIter_list hL2
      exact ⟨_, rfl, h⟩
    · have hL1 : Heap.IsList (Shared.heap ⟨hp, g, d, tk, os⟩) l1 xs := hl1
      have hL2 : Heap.IsTuple (Shared.heap ⟨hp.push { cls := .type "list_iterator", data := .fields #[.ref l1, .int 0 0] }, g, d, tk, os⟩) l2 ys := Heap.IsTuple.push hl2 _
      wp_walk using wpAny_pyIter_list hL1, wpAny_pyIter_tuple hL2
      exact ⟨_, rfl, h⟩
    · have hL1 : Heap.IsTuple (Shared.heap ⟨hp, g, d, tk, os⟩) l1 xs := hl1
      have hL2 : Heap.IsList (Shared.heap ⟨hp.push { cls := .type "tuple_iterator", data := .fields #[.ref l1, .int 0 0] }, g, d, tk, os⟩) l2 ys := Heap.IsList.push hl2 _
      wp_walk using wpAny_pyIter_tuple hL1, wpAny_pyIter_list hL2
      exact ⟨_, rfl, h⟩
    · have hL1 : Heap.IsTuple (Shared.heap ⟨hp, g, d, tk, os⟩) l1 xs := hl1
      have hL2 : Heap.IsTuple (Shared.heap ⟨hp.push { cls := .type "tuple_iterator", data := .fields #[.ref l1, .int 0 0] }, g, d, tk, os⟩) l2 ys := Heap.IsTuple.push hl2 _
      wp_walk using wpAny_pyIter_tuple hL1, wpAny_pyIter_tuple hL2
      exact ⟨_, rfl, h⟩

section
variable {prog : Program} {w : World} {A : Around} {E : Value → Shared → Prop} {s : Shared}

theorem call_zipS {c1 c2 : Bool} {l1 l2 : Addr} {xs ys : Array Value} {Q : Value → Shared → Prop} (hl1 : SqA c1 s.heap l1 xs) (hl2 : SqA c2 s.heap l2 ys)
    (h : ∀ h', IsZip h' (s.heap.objs.size + 4) (s.heap.objs.size + 2) (s.heap.objs.size + 3) .none → IsPair h' (s.heap.objs.size + 2) (.ref s.heap.objs.size) (.ref (s.heap.objs.size + 1)) →
      IsPair h' (s.heap.objs.size + 3) .none .none → SqI c1 h' s.heap.objs.size l1 0 → SqI c2 h' (s.heap.objs.size + 1) l2 0 → h'.objs.size = s.heap.objs.size + 5 →
      (∀ c o, s.heap.get? c = some o → h'.get? c = some o) → Q (.ref (s.heap.objs.size + 4)) { s with heap := h' }) :
    wpAny (model prog w) A (call (.type "zip") [.ref l1, .ref l2]) Q E s := by
  refine callType_new F.called_zip (by decide) (F.typeCall_zip_2 _ _) (F.newCall_zip_2 _ _) (fun obj => F.args_object_init_3 obj _ _) F.entry_zip_new
    (meets_zipS_new c1 c2 l1 l2 xs ys) ⟨hl1, hl2, ?_⟩
  have z1 : (zipSH1 c1 s.heap l1).objs.size = s.heap.objs.size + 1 := Heap.size_push ..
  have z2 : (zipSH2 c1 c2 s.heap l1 l2).objs.size = s.heap.objs.size + 2 := by rw [Heap.size_push, z1]
  have z3 : (zipSH3 c1 c2 s.heap l1 l2).objs.size = s.heap.objs.size + 3 := by rw [Heap.size_push, z2]
  have z4 : (zipSH4 c1 c2 s.heap l1 l2).objs.size = s.heap.objs.size + 4 := by rw [Heap.size_push, z3]
  have z5 : (zipSH5 c1 c2 s.heap l1 l2).objs.size = s.heap.objs.size + 5 := by rw [Heap.size_push, z4]
  have g5 : (zipSH5 c1 c2 s.heap l1 l2).get? (zipSH4 c1 c2 s.heap l1 l2).objs.size = some _ := Heap.get?_push_size _ rfl
  have g4 : (zipSH5 c1 c2 s.heap l1 l2).get? (zipSH3 c1 c2 s.heap l1 l2).objs.size = some _ := Heap.get?_push_of_some _ (Heap.get?_push_size _ rfl)
  have g3 : (zipSH5 c1 c2 s.heap l1 l2).get? (zipSH2 c1 c2 s.heap l1 l2).objs.size = some _ := Heap.get?_push_of_some _ (Heap.get?_push_of_some _ (Heap.get?_push_size _ rfl))
  have g2 : (zipSH5 c1 c2 s.heap l1 l2).get? (zipSH1 c1 s.heap l1).objs.size = some _ := Heap.get?_push_of_some _ (Heap.get?_push_of_some _ (Heap.get?_push_of_some _ (Heap.get?_push_size _ rfl)))
  have g1 : (zipSH5 c1 c2 s.heap l1 l2).get? s.heap.objs.size = some _ := Heap.get?_push_of_some _ (Heap.get?_push_of_some _ (Heap.get?_push_of_some _ (Heap.get?_push_of_some _ (Heap.get?_push_size _ rfl))))
  show _ ∧ _
  rw [z2, z3, z4] at g5
  rw [z1, z2] at g3
  rw [z3] at g4
  rw [z1] at g2
  rw [z4]
  exact ⟨⟨_, g5, rfl⟩, h _ g5 g3 g4 (sqI_mk g1) (sqI_mk g2) z5 fun c o x =>
    Heap.get?_push_of_some _ (Heap.get?_push_of_some _ (Heap.get?_push_of_some _ (Heap.get?_push_of_some _ (Heap.get?_push_of_some _ x))))⟩
end
end ZM
set_option Elab.async false
set_option linter.all false
set_option maxRecDepth 100000
set_option maxHeartbeats 1000000
/-! VL20: zip, reversed as iterables. -/
namespace ZM
open PySem PySem.Spec PyProof.Rows L2
def SqX (K : PySem.W.Frag) : Bool → Hp → Addr → List V → Prop
  | true, H, a, xs => SqT K H a xs
  | false, H, a, xs => SqL K H a xs
section
variable {X : Cx} {pins : List (Addr × Obj)} {σ : L2.St} {H : Hp} {s : Shared} {a : Addr} {xs ys : List V} {c : Bool}
theorem sqx_at (I : Inv X pins σ H s) (h : SqX X.K c H a xs) : ∃ its : List Value, Vals xs its ∧ SqA c s.heap a its.toArray ∧ a < s.heap.objs.size := by
  cases c
  · obtain ⟨its, rv, p, _⟩ := I.list (show SqL X.K H a xs from h)
    exact ⟨its, rv, p.isList, p.lt⟩
  · obtain ⟨its, rv, p, _⟩ := I.tuple (show SqT X.K H a xs from h)
    obtain ⟨o, ho, _⟩ := id p
    exact ⟨its, rv, p, Heap.lt_size ho⟩
theorem sqx_inj (I : Inv X pins σ H s) (h : SqX X.K c H a xs) (h' : SqX X.K c H a ys) : ys = xs := by
  cases c
  · exact I.list_inj h' h
  · exact I.tuple_inj h' h
end
def ItzS (K : PySem.W.Frag) (c1 c2 : Bool) (a b : Addr) : It :=
  ⟨fun i H => ∃ (xs ys : List V) (x y : V), SqX K c1 H a xs ∧ SqX K c2 H b ys ∧ xs[i]? = some x ∧ ys[i]? = some y,
    fun i H v H' => ∃ T x y, v = .ref T ∧ H T = none ∧ H' = upd H T (.tup [x, y]) ∧ (∀ xs, SqX K c1 H a xs → xs[i]? = some x) ∧ ∀ ys, SqX K c2 H b ys → ys[i]? = some y,
    fun i H => ∃ xs ys : List V, SqX K c1 H a xs ∧ SqX K c2 H b ys ∧ (xs.length ≤ i ∨ ys.length ≤ i)⟩
theorem turn_zipS {P : Program} {w : World} {K : PySem.W.Frag} {c1 c2 : Bool} {elts : List Expr} {kk : Nat} {tpos : Pos} {a b z TI TO i1 i2 : Addr} (D : ZipApart z TI TO i1 i2 a b) :
    Turn P w K (.Tuple elts kk tpos) (ItzS K c1 c2 a b) [z, TI, TO, i1, i2] z (fun i h => IsZip h z TI TO .none ∧ IsPair h TI (.ref i1) (.ref i2) ∧ (∃ x y, IsPair h TO x y) ∧ SqI c1 h i1 a i ∧ SqI c2 h i2 b i) where
  mem := by simp
  obj := fun i h st c hc => by
    obtain ⟨hz, hTI, ⟨x, y, hTO⟩, h1, h2⟩ := st
    obtain ⟨o1, e1, d1⟩ := h1.there
    obtain ⟨o2, e2, d2⟩ := h2.there
    have e' : c = z ∨ c = TI ∨ c = TO ∨ c = i1 ∨ c = i2 := by simpa using hc
    rcases e' with q | q | q | q | q
    · rw [q]; exact ⟨_, hz, fun v q => nomatch q⟩
    · rw [q]; exact ⟨_, hTI, fun v q => nomatch q⟩
    · rw [q]; exact ⟨_, hTO, fun v q => nomatch q⟩
    · rw [q]; exact ⟨o1, e1, fun v q => by rw [d1] at q; cases q⟩
    · rw [q]; exact ⟨o2, e2, fun v q => by rw [d2] at q; cases q⟩
  keep := fun i h h' st k => by
    obtain ⟨hz, hTI, ⟨x, y, hTO⟩, h1, h2⟩ := st
    exact ⟨k z (by simp) _ hz, k TI (by simp) _ hTI, ⟨x, y, k TO (by simp) _ hTO⟩, h1.at fun o q => k i1 (by simp) o q, h2.at fun o q => k i2 (by simp) o q⟩
  item := by
    intro X hP hw hK hc i pins s σ H E I hf st hg
    subst hP hw hK
    obtain ⟨hz, hTI, ⟨x0, y0, hTO⟩, h1, h2⟩ := st
    obtain ⟨xs, ys, x, y, hqx, hqy, hx, hy⟩ := hg
    obtain ⟨its, rv, p, _⟩ := sqx_at I hqx
    obtain ⟨its2, rv2, p2, _⟩ := sqx_at I hqy
    obtain ⟨u, hu, ru⟩ := rv.get hx
    obtain ⟨u2, hu2, ru2⟩ := rv2.get hy
    have hzl : z < s.heap.objs.size := Heap.lt_size hz
    refine pyNext_zipS_item D hz hTI hTO h1 h2 p p2 (x := u) (y := u2) (by simpa using hu) (by simpa using hu2) fun h' z' TO' h1' h2' hT hsz hk => ?_
    refine ⟨_, rfl, wpAny_letOwnedTupleGo_zip (s := { s with heap := h' }) z' fun h'' z'' sb => ?_⟩
    have hT2 : h''.get? s.heap.objs.size = some { cls := .type "tuple", data := .seq #[u, u2] } := (sb.2 _ (Nat.ne_of_gt hzl)).trans hT
    have new : ObjOk X.prog X.w (upd H s.heap.objs.size (.tup [x, y])) h'' s.heap.objs.size (.tup [x, y]) :=
      ⟨by show 2 ≤ sizeLine; decide, [u, u2], .cons ru (.cons ru2 .nil), ⟨_, hT2, rfl, _, rfl⟩⟩
    have I1 : Inv X pins σ (upd H s.heap.objs.size (.tup [x, y])) { s with heap := h'' } :=
      I.turnedNew (t' := s.toks) (ch := [z, TI, TO, i1, i2]) (fun c o hb q => (sb.2 c (fun q' => hb (by simp [q']))).trans (hk c o (fun q' => hb (by simp [q'])) (fun q' => hb (by simp [q'])) (fun q' => hb (by simp [q'])) (fun q' => hb (by simp [q'])) q)) hf (Nat.le_refl _) new
    refine ⟨.ref s.heap.objs.size, _, I1, rfl, ⟨_, x, y, rfl, I.hok.fresh (Nat.le_refl _), rfl, fun l hl => by rw [sqx_inj I hqx hl]; exact hx, fun l hl => by rw [sqx_inj I hqy hl]; exact hy⟩, ⟨z'', ?_, ⟨u, u2, ?_⟩, ?_, ?_⟩, fun c hcm => ?_⟩
    · exact (sb.2 _ D.TIz).trans (hk _ _ D.TIz D.TITO D.TIi1 D.TIi2 hTI)
    · exact (sb.2 _ D.TOz).trans TO'
    · exact h1'.at fun o q => (sb.2 _ D.i1z).trans q
    · exact h2'.at fun o q => (sb.2 _ D.i2z).trans q
    · have hlt : c < s.heap.objs.size := by
        have e' : c = z ∨ c = TI ∨ c = TO ∨ c = i1 ∨ c = i2 := by simpa using hcm
        rcases e' with q | q | q | q | q
        · rw [q]; exact hzl
        · rw [q]; exact Heap.lt_size hTI
        · rw [q]; exact Heap.lt_size hTO
        · rw [q]; exact h1.lt
        · rw [q]; exact h2.lt
      rw [upd_ne (Nat.ne_of_lt hlt)]
      exact (hf c hcm).1
  done := by
    intro X hP hw hK hc i pins s σ H E I hf st hg
    subst hP hw hK
    obtain ⟨hz, hTI, ⟨x0, y0, hTO⟩, h1, h2⟩ := st
    obtain ⟨xs, ys, hqx, hqy, hend⟩ := hg
    obtain ⟨its, rv, p, _⟩ := sqx_at I hqx
    obtain ⟨its2, rv2, p2, _⟩ := sqx_at I hqy
    have l1 := rv.length
    have l2 := rv2.length
    have he : its.toArray[i]? = none ∨ its2.toArray[i]? = none := by
      rcases hend with q | q
      · exact .inl (by simp; omega)
      · exact .inr (by simp; omega)
    exact pyNext_zipS_end (I.ok.hd hc) D hz hTI hTO h1 h2 p p2 he fun h' hk => ⟨rfl, I.turnedL (t' := s.toks) (ch := [z, TI, TO, i1, i2]) (fun c o hb q =>
      hk c o (fun q' => hb (by simp [q'])) (fun q' => hb (by simp [q'])) (fun q' => hb (by simp [q'])) (fun q' => hb (by simp [q'])) q) hf⟩
  self := fun A i s Q E st h => wpAny_pyIter_zip st.1 h
def iZipS (K : PySem.W.Frag) (ta : TA) : TI := fun σ H R => ta σ H fun vs H1 => ∃ a b xs ys c1 c2, vs = [.ref a, .ref b] ∧ SqX K c1 H1 a xs ∧ SqX K c2 H1 b ys ∧ R (ItzS K c1 c2 a b) H1
theorem pi_zipS {X : Cx} {e e2 : Expr} {ta : TA} {p pos tpos : Pos} {elts : List Expr} {kk : Nat} (hg : Gl X "zip") (hm : X.mg "zip" = none) (ha : PA X [e, e2] ta)
    (hs : starEach [e, e2] X.env = (false, eval e X.env) :: starEach [e2] X.env := by rfl) (hpl : (backTo pos (starEach [e2] X.env)).any (·.1) = false := by rfl) :
    PI X (.Tuple elts kk tpos) (.Call (.Name "zip" p) [e, e2] [] pos) (iZipS X.K ta) := by
  refine ⟨fun pins s σ H R I h => ?_⟩
  refine Call_ (ld_blt I hg hm PyProof.Rows.boot_zip (PyProof.Rows.callWith_type1 (thn (ha.run pos pins s σ H _ I h) fun us s1 ⟨vs, H1, I1, r1, q1⟩ => ?_) hs hpl))
  obtain ⟨a, b, xs, ys, c1, c2, ex, hqx, hqy, q⟩ := q1
  subst ex
  cases r1 with
  | cons r rr =>
    cases rr with
    | cons r' rr =>
      cases rr
      cases r
      cases r'
      have fresh5 : ∀ c, c ∈ [s1.heap.objs.size + 4, s1.heap.objs.size + 2, s1.heap.objs.size + 3, s1.heap.objs.size, s1.heap.objs.size + 1] → FpOk X pins H1 c := fun c hcm => by
        have e' : c = s1.heap.objs.size + 4 ∨ c = s1.heap.objs.size + 2 ∨ c = s1.heap.objs.size + 3 ∨ c = s1.heap.objs.size ∨ c = s1.heap.objs.size + 1 := by simpa using hcm
        have hle : s1.heap.objs.size ≤ c := by
          rcases e' with z | z | z | z | z
          · rw [z]; exact Nat.le_add_right _ _
          · rw [z]; exact Nat.le_add_right _ _
          · rw [z]; exact Nat.le_add_right _ _
          · rw [z]; exact Nat.le_refl _
          · rw [z]; exact Nat.le_add_right _ _
        exact I1.fpOk hle (I1.hok.fresh hle)
      obtain ⟨its, rv, p1, lt1⟩ := sqx_at I1 hqx
      obtain ⟨its2, rv2, p2, lt2⟩ := sqx_at I1 hqy
      refine call_zipS p1 p2 fun h' hz hTI hTO h1 h2 hsz hk => wpAny_pyIter_zip hz ?_
      have I2 : Inv X pins σ H1 { s1 with heap := h' } := I1.kept (t' := s1.toks) hk
      exact ⟨s1.heap.objs.size + 4, [s1.heap.objs.size + 4, s1.heap.objs.size + 2, s1.heap.objs.size + 3, s1.heap.objs.size, s1.heap.objs.size + 1], _, _, H1, rfl, I2, turn_zipS (PySem.W.ktu_apart s1.heap.objs.size a b lt1 lt2), ⟨hz, hTI, ⟨_, _, hTO⟩, h1, h2⟩, fresh5, q⟩
end ZM
set_option Elab.async false
set_option linter.all false
set_option maxRecDepth 100000
set_option maxHeartbeats 1000000
/-! VL21: zip, reversed, tuple(reversed(..)), [::-1], repr; calls with keywords. -/
namespace VL
open PySem PySem.Spec PyProof.Rows L2
/-! ### zip -/
def zipD (xs ys : List PyData) : List PyData := (xs.zip ys).map fun p => .tuple [p.1, p.2]
theorem zipD_len (xs ys : List PyData) : (zipD xs ys).length = min xs.length ys.length := by simp [zipD]
theorem zipD_get {xs ys : List PyData} {i : Nat} {x y : PyData} (h1 : xs[i]? = some x) (h2 : ys[i]? = some y) : (zipD xs ys)[i]? = some (.tuple [x, y]) := by
  unfold zipD
  have e : (xs.zip ys)[i]? = some (x, y) := List.getElem?_zip_eq_some.mpr ⟨h1, h2⟩
  rw [List.getElem?_map, e]
  rfl
def kindD : PyData → Option (Bool × List PyData)
  | .list xs => some (false, xs)
  | .tuple xs => some (true, xs)
  | _ => none
theorem kind_rp {K : PySem.W.Frag} {F : Addr → Prop} {H : Hp} {v : V} {x : PyData} {c : Bool} {xs : List PyData} (r : Rp K F H v x) (h : kindD x = some (c, xs)) : ∃ a vs, v = .ref a ∧ RpAll K F H vs xs ∧ ∀ F' H', Keep K F H F' H' → ZM.SqX K c H' a vs ∧ RpAll K F' H' vs xs := by
  cases r with
  | lst f hh rr => cases h; exact ⟨_, _, rfl, rr, fun F' H' k => ⟨.inl (.inl (k.l _ _ f hh)), rr.keep k⟩⟩
  | tup hh rr => cases h; exact ⟨_, _, rfl, rr, fun F' H' k => ⟨k.t _ _ hh, rr.keep k⟩⟩
  | non => cases h
  | bl b => cases h
  | int i => cases h
  | str x => cases h
section
variable {X : Cx} {xk : XK} {tg e a b : Expr} {we wa wb : EW} {wA : AW}
def wZip (wA : AW) : IW := fun ρ Q E => wA ρ (fun tvs ρ1 => ∃ x y ρ2 c1 c2 xs ys, frzAll ρ1 tvs = some ([x, y], ρ2) ∧ kindD x = some (c1, xs) ∧ kindD y = some (c2, ys) ∧ Q (zipD xs ys) ρ2) E
theorem vi_zip (h : PI X tg e (ZM.iZipS X.K (rdA X.K xk wA))) : VI X xk tg e (wZip wA) := h.imp fun σ H Q ⟨G0, H0, G, ρ, Qv, Ev, R, xl, hw, q⟩ => ⟨G0, H0, G, ρ, _, Ev, R, xl, hw, fun tvs ρ1 G1 H1 vs R1 E1 rts q1 => by
  obtain ⟨x, y, ρ2, c1, c2, xs, ys, ef, k1, k2, q1⟩ := q1
  obtain ⟨G2, R2, E2, p2, kk⟩ := frzAll_ok R1 (fun a h => R.ext.none0 h) E1 rts ef
  cases p2 with
  | cons r1 p3 =>
    cases p3 with
    | cons r2 p4 =>
      cases p4
      obtain ⟨a, us, ea, ra, ka⟩ := kind_rp r1 k1
      obtain ⟨b, ws, eb, rb, kb⟩ := kind_rp r2 k2
      subst ea
      subst eb
      refine ⟨a, b, us, ws, c1, c2, rfl, (ka _ _ .refl).1, (kb _ _ .refl).1, q _ ρ2 G2 H1 _ R2 E2 (fun F' H' k => ?_) q1⟩
      obtain ⟨qa, sa⟩ := ka F' H' k
      obtain ⟨qb, sb⟩ := kb F' H' k
      rw [zipD_len]
      refine ⟨fun i hi => ?_, fun i hi => ⟨us, ws, qa, qb, by rw [sa.length, sb.length]; omega⟩, fun i v H'' yy hi => ?_⟩
      · have h1 : i < us.length := by rw [sa.length]; omega
        have h2 : i < ws.length := by rw [sb.length]; omega
        exact ⟨us, ws, us[i], ws[i], qa, qb, List.getElem?_eq_getElem h1, List.getElem?_eq_getElem h2⟩
      · obtain ⟨T, u, w, ev, hn, eH, f1, f2⟩ := yy
        subst ev
        subst eH
        obtain ⟨d1, e1, s1⟩ := sa.get (f1 us qa)
        obtain ⟨d2, e2, s2⟩ := sb.get (f2 ws qb)
        have g : Grow H' (upd H' T (.tup [u, w])) := .upd hn
        exact ⟨_, zipD_get e1 e2, g, .tup (.inl (.inl upd_same)) (.cons (s1.keep g.keep) (.cons (s2.keep g.keep) .nil))⟩⟩
/-! ### reversed -/
def wRev (we : EW) : IW := fun ρ Q E => we ρ (fun tv ρ1 => ∃ x ρ2 xs, frz ρ1 tv = some (x, ρ2) ∧ (x = .list xs ∨ x = .tuple xs) ∧ Q xs.reverse ρ2) E
theorem rev_get {α : Type} {xs : List α} {i : Nat} {x : α} (h : xs[xs.length - 1 - i]? = some x) (hi : i < xs.length) : xs.reverse[i]? = some x := by
  rw [List.getElem?_reverse hi]
  exact h
theorem vi_rev (h : PI X tg e (RT.iRevA X.K (rdE X.K xk we))) : VI X xk tg e (wRev we) := h.imp fun σ H Q ⟨G0, H0, G, ρ, Qv, Ev, R, xl, hw, q⟩ => ⟨G0, H0, G, ρ, _, Ev, R, xl, hw, fun tv ρ1 G1 H1 v R1 E1 rt ⟨x, ρ2, xs, ef, ex, q1⟩ => by
  obtain ⟨G2, f⟩ := frz_ok R1 (fun a h => R.ext.none0 h) rt ef
  have is := f.is
  rcases ex with rfl | rfl
  · cases is with
    | @lst a vs _ g h r =>
      refine ⟨a, vs, rfl, .inl ⟨.inl (.inl h), q _ ρ2 G2 H1 _ f.rep (f.evo E1) (fun F' H' k => ?_) q1⟩⟩
      have h' : SqL X.K H' a vs := .inl (.inl (k.l _ _ g h))
      have r' := r.keep k
      have hl := r'.length
      rw [List.length_reverse]
      refine ⟨fun i hi => ⟨by omega, vs, vs[vs.length - 1 - i]'(by omega), h', List.getElem?_eq_getElem _⟩, fun i hi => by show vs.length ≤ i; omega, fun i x H'' y hi => ?_⟩
      obtain ⟨rfl, y⟩ := y
      obtain ⟨d, e1, e2⟩ := r'.get (y vs h')
      exact ⟨d, rev_get (by rw [← hl]; exact e1) hi, .refl, e2⟩
  · cases is with
    | @tup a vs _ h r =>
      refine ⟨a, vs, rfl, .inr ⟨h, q _ ρ2 G2 H1 _ f.rep (f.evo E1) (fun F' H' k => ?_) q1⟩⟩
      have h' : SqT X.K H' a vs := k.t _ _ h
      have r' := r.keep k
      have hl := r'.length
      rw [List.length_reverse]
      refine ⟨fun i hi => ⟨by omega, vs, vs[vs.length - 1 - i]'(by omega), h', List.getElem?_eq_getElem _⟩, fun i hi => by show vs.length ≤ i; omega, fun i x H'' y hi => ?_⟩
      obtain ⟨rfl, y⟩ := y
      obtain ⟨d, e1, e2⟩ := r'.get (y vs h')
      exact ⟨d, rev_get (by rw [← hl]; exact e1) hi, .refl, e2⟩⟩
/-- tuple(reversed(l)) of a list -/
def wTupRev (we : EW) : EW := fun ρ Q E => we ρ (fun tv ρ1 => ∃ xs, res ρ1 tv = some (.list xs) ∧ Q (.d (.tuple xs.reverse)) ρ1) E
theorem ve_tupRev (h : PE X e (RT.tTupRev X.K (rdE X.K xk we))) : VE X xk e (wTupRev we) := h.imp fun σ H Q ⟨G0, H0, G, ρ, Qv, Ev, R, xl, hw, q⟩ => ⟨G0, H0, G, ρ, _, Ev, R, xl, hw, fun tv ρ1 G1 H1 v R1 E1 rt ⟨xs, er, q1⟩ => by
  obtain ⟨a, vs, rfl, h1, h2⟩ := rt.rq R1 er
  refine ⟨a, vs, rfl, .inl (.inl h1), fun p hp => ?_⟩
  have g : Grow H1 (upd H1 p (.tup vs.reverse)) := .upd hp
  exact q (.d (.tuple xs.reverse)) ρ1 G1 _ _ (R1.grow g) (E1.trans g.evo) (show Rp _ _ _ _ _ from .tup (.inl (.inl upd_same)) (h2.reverse.keep g.keep)) q1⟩
/-- l[::-1] of a list -/
def wRevL (we : EW) : EW := fun ρ Q E => we ρ (fun tv ρ1 => ∃ xs, res ρ1 tv = some (.list xs) ∧ Q (.fresh xs.reverse) ρ1) E
theorem ve_revL (h : PE X e (tRevL X.K (rdE X.K xk we))) : VE X xk e (wRevL we) := h.imp fun σ H Q ⟨G0, H0, G, ρ, Qv, Ev, R, xl, hw, q⟩ => ⟨G0, H0, G, ρ, _, Ev, R, xl, hw, fun tv ρ1 G1 H1 v R1 E1 rt ⟨xs, er, q1⟩ => by
  obtain ⟨a, vs, rfl, h1, h2⟩ := rt.rq R1 er
  refine ⟨a, vs, rfl, .inl (.inl h1), fun p hp => ?_⟩
  have g : Grow H1 (upd H1 p (.lst vs.reverse)) := .upd hp
  have nr : NR X.K G1.F H1 (upd H1 p (.lst vs.reverse)) (.fresh xs.reverse) (.ref p) := ⟨p, _, rfl, hp, upd_same, h2.reverse.keep g.keep⟩
  exact q (.fresh xs.reverse) ρ1 G1 _ _ (R1.grow g) (E1.trans g.evo) (nr.rt R1 fun a h => E1.none h) q1⟩
end
/-! ### repr -/
mutual
theorem Dp.nodict {K : PySem.W.Frag} {F : Addr → Prop} {H : Hp} : ∀ {v : V} {x : PyData}, Rp K F H v x → x.hasDict = false
  | _, _, .non => by simp [PyData.hasDict]
  | _, _, .bl b => by simp [PyData.hasDict]
  | _, _, .int i => by simp [PyData.hasDict]
  | _, _, .str x => by simp [PyData.hasDict]
  | _, _, .lst _ _ r => by simpa [PyData.hasDict] using Dp.nodictAll r
  | _, _, .tup _ r => by simpa [PyData.hasDict] using Dp.nodictAll r
theorem Dp.nodictAll {K : PySem.W.Frag} {F : Addr → Prop} {H : Hp} : ∀ {vs : List V} {xs : List PyData}, RpAll K F H vs xs → PyData.hasDictAll xs = false
  | _, _, .nil => by simp [PyData.hasDictAll]
  | _, _, .cons h r => by simp [PyData.hasDictAll, Dp.nodict h, Dp.nodictAll r]
end
theorem rq_nodict {K : PySem.W.Frag} {F : Addr → Prop} {H : Hp} {v : V} {x : PyData} (r : Rq K F H v x) : x.hasDict = false := by
  cases x with
  | list xs => obtain ⟨a, vs, rfl, h1, h2⟩ := r; simpa [PyData.hasDict] using Dp.nodictAll h2
  | none => exact Dp.nodict (show Rp K F H v .none from r)
  | bool b => exact Dp.nodict (show Rp K F H v (.bool b) from r)
  | int b => exact Dp.nodict (show Rp K F H v (.int b) from r)
  | str b => exact Dp.nodict (show Rp K F H v (.str b) from r)
  | tuple b => exact Dp.nodict (show Rp K F H v (.tuple b) from r)
  | dict b =>
    have r' : Rp K F H v (.dict b) := r
    cases r'
def dRepr : DCall := fun xs R => match xs with
  | [x] => x.showable = true ∧ x.depth ≤ 60 ∧ x.shown.length ≤ sizeLine ∧ R (.d (.str x.shown))
  | _ => False
theorem call_reprV {X : Cx} (hg : X.A.guards = some []) (hu : X.A.units + 200 < cLine) : CallV X (.builtin "repr") dRepr := by
  intro pins s σ H xs us Q I r h
  obtain ⟨F, ds, R, rs, hd, q⟩ := h
  match ds, rs, hd with
  | [x], .cons rx .nil, ⟨h1, h2, h3, hR⟩ =>
    obtain ⟨u, rfl, ru⟩ := vals1 r
    have fin : ∀ (h' : Heap) (t : Tok) (tk : Nat), (∀ b o, s.heap.get? b = some o → h'.get? b = some o) → EP X pins σ Q (.str x.shown t) { s with heap := h', toks := tk } := fun h' t tk hk =>
      ⟨.str x.shown, H, I.kept (t' := tk) hk, ⟨t, rfl⟩, q _ _ _ hR .refl (show Rp _ _ _ _ _ from .str _)⟩
    have nd := rq_nodict rx
    cases x with
    | none => cases rx.none; cases ru; exact PySem.P.repr_of_none (fin s.heap _ _ fun _ _ z => z)
    | bool b => cases rx.bool; cases ru; exact PySem.P.repr_of_bool (fin s.heap _ _ fun _ _ z => z)
    | int i =>
      cases rx.int
      obtain ⟨t, rfl⟩ := ru
      exact PySem.P.repr_of_int (by simpa [PyData.showable] using h1) (fin s.heap _ _ fun _ _ z => z)
    | str y =>
      cases rx.str
      obtain ⟨t, rfl⟩ := ru
      exact PySem.P.repr_of_str (fin s.heap _ _ fun _ _ z => z) h3
    | list xs =>
      obtain ⟨as, rd⟩ := Dp.reads I _ _ _ rx.dp ru
      obtain ⟨a, vs, rfl, _, _⟩ := rx
      cases ru
      exact repr_of_reads' rd h1 (fun z => by rw [nd] at z; cases z) hg (by omega) (fun _ _ z => z) (fun h' t tk hk => fin h' t tk hk) h3
    | tuple xs =>
      obtain ⟨as, rd⟩ := Dp.reads I _ _ _ rx.dp ru
      obtain ⟨a, vs, rfl, _, _⟩ := rx.tup
      cases ru
      exact repr_of_reads' rd h1 (fun z => by rw [nd] at z; cases z) hg (by omega) (fun _ _ z => z) (fun h' t tk hk => fin h' t tk hk) h3
    | dict kvs =>
      have r' : Rp X.K F H _ (.dict kvs) := rx
      cases r'
end VL
set_option Elab.async false
set_option linter.all false
set_option maxRecDepth 100000
set_option maxHeartbeats 1000000
/-! VL22: calls with keywords. -/
namespace VL
open PySem PySem.Spec PyProof.Rows L2
def pick (perm : List Nat) {α : Type} (xs : List α) : List α := perm.filterMap fun i => xs[i]?
theorem paired_get2 {α β : Type} {R : α → β → Prop} : ∀ {xs : List α} {ys : List β} {i : Nat}, Paired R xs ys → (xs[i]? = none ∧ ys[i]? = none) ∨ ∃ x y, xs[i]? = some x ∧ ys[i]? = some y ∧ R x y
  | _, _, _, .nil => .inl ⟨by simp, by simp⟩
  | _, _, 0, .cons h r => .inr ⟨_, _, rfl, rfl, h⟩
  | _, _, i + 1, .cons h r => by
    rcases paired_get2 (i := i) r with ⟨h1, h2⟩ | ⟨x, y, h1, h2, h3⟩
    · exact .inl ⟨by simpa using h1, by simpa using h2⟩
    · exact .inr ⟨x, y, by simpa using h1, by simpa using h2, h3⟩
theorem paired_pick {α β : Type} {R : α → β → Prop} {xs : List α} {ys : List β} (h : Paired R xs ys) : ∀ perm : List Nat, Paired R (pick perm xs) (pick perm ys)
  | [] => .nil
  | i :: r => by
    unfold pick
    rcases paired_get2 (i := i) h with ⟨h1, h2⟩ | ⟨x, y, h1, h2, h3⟩
    · rw [List.filterMap_cons_none h1, List.filterMap_cons_none h2]
      exact paired_pick h r
    · rw [List.filterMap_cons_some h1, List.filterMap_cons_some h2]
      exact .cons h3 (paired_pick h r)
theorem paired_app {α β : Type} {R : α → β → Prop} : ∀ {xs xs' : List α} {ys ys' : List β}, Paired R xs ys → Paired R xs' ys' → Paired R (xs ++ xs') (ys ++ ys')
  | _, _, _, _, .nil, s => s
  | _, _, _, _, .cons h r, s => .cons h (paired_app r s)
/-- how keywords bind, by places -/
theorem kbinds_pick {K : PySem.W.Frag} {fd : FuncData} {ps ks : List Str} {n : Nat} {perm : List Nat}
    (h : ∀ us ws : List Value, us.length = n → ws.length = ks.length → bindArgs fd ⟨us, ks.zip ws⟩ = pure (ps.zip (pick perm (us ++ ws)))) :
    ∀ (s : Shared) (us ws : List Value), us.length = n → ws.length = ks.length → BindsTo s fd ⟨us, ks.zip ws⟩ (ps.zip (pick perm (us ++ ws))) := fun s us ws h1 h2 => .of_eq (h us ws h1 h2)
section
variable {K : PySem.W.Frag} {G0 G1 : Gh} {H0 H1 Hs : Hp} {ρ1 : SE} {σ : St} {xk : XK} {Ev : QX} {sp : VSp} {svs : List SV} {tvs : List TV} {vs us : List V} {Q : VK} {Qv : TV → Prop}
theorem RTs.paired : ∀ {tvs : List TV} {vs : List V}, RTs K Hs G1 ρ1 σ H1 tvs vs → Paired (fun tv v => RT K Hs G1 ρ1 σ H1 tv v) tvs vs
  | _, _, .nil => .nil
  | _, _, .cons r t _ => .cons r (RTs.paired t)
theorem argsS_okP (R : Rep K G0 H0 G1 ρ1 σ H1) : ∀ {tvs : List TV} {vs : List V} {svs : List SV}, Paired (fun tv v => RT K Hs G1 ρ1 σ H1 tv v) tvs vs → (∀ v ∈ vs, v ∈ us) → argsS ρ1 tvs = some svs → Paired (fun sv v => RS K (G1.see H1 us) H1 sv v ∧ sv.free) svs vs
  | _, _, _, .nil, _, h => by cases h; exact .nil
  | _, _, _, .cons r t, hu, h => by
    unfold argsS at h
    split at h
    · rename_i x xs e1 e2
      cases h
      exact .cons (argS_ok R r (hu _ List.mem_cons_self) e1) (argsS_okP R t (fun v hv => hu v (List.mem_cons_of_mem _ hv)) e2)
    · cases h
theorem sp_coreP (R1 : Rep K G0 H0 G1 ρ1 σ H1) (xl : XL K G0 H0 Ev xk) (rts : Paired (fun tv v => RT K Hs G1 ρ1 σ H1 tv v) tvs vs) (ea : argsS ρ1 tvs = some svs) (hs : sp svs (fun tv => flatT tv = true ∧ Qv tv) Ev)
    (q : ∀ tv G' H' v, Rep K G0 H0 G' ρ1 σ H' → Evo ρ1 σ G1 H1 ρ1 G' H' → RT K H1 G' ρ1 σ H' tv v → Qv tv → Q v H') : spV K sp vs H1 Q xk := by
  have sx := see_ext R1.ext vs
  refine ⟨G1.see H1 vs, svs, _, Ev, sx, argsS_okP R1 rts (fun v hv => hv) ea, hs, fun xn D' H' c d ex xr ev => xl xn D' H' c d ?_ xr ev, fun tv G' H' v ex rt qv => ?_⟩
  · exact (R1.ext.trans (ex.borrow R1.ext.self rfl fun a f => .inl f)).low
  · obtain ⟨fl, qv⟩ := qv
    have b : Ext G1 H1 { F := G1.F, D := G'.D } H' := ex.borrow R1.ext.self rfl fun a f => .inl f
    obtain ⟨R2, E2⟩ := R1.call b
    have rt2 : RT K H1 { F := G1.F, D := G'.D } [] [] H' tv v := rt.lessF fl fun a h f => by
      obtain ⟨o, z⟩ := R1.ext.ft a f
      rw [h] at z
      cases z
    exact q tv _ H' v R2 E2 (rt2.out R1 fun a h => h) qv
end
section
variable {X : Cx} {xk : XK} {e : Expr} {we : EW} {wA wK : AW} {kws : List Keyword} {sp : VSp} {C : Addr} {f : ISp}
theorem _root_.L2.PK.imp {X : Cx} {e : List Keyword} {t t' : TA} (h : PK X e t) (k : ∀ σ H Q, t' σ H Q → t σ H Q) : PK X e t' := ⟨fun pos pins s σ H Q I q => h.run pos pins s σ H Q I (k _ _ _ q)⟩
def VK (X : Cx) (xk : XK) (kws : List Keyword) (w : AW) : Prop := PK X kws (rdA X.K xk w)
theorem vk_nil : VK X xk [] wNil := pk_nil.imp fun σ H Q ⟨G0, H0, G, ρ, Qv, Ev, R, xl, hw, q⟩ => q [] _ _ _ _ R .refl .nil hw
theorem vk_cons {nm : Option Str} {kpos : Pos} (h1 : VE X xk e we) (h2 : VK X xk kws wA) : VK X xk (⟨nm, e, kpos⟩ :: kws) (wCons we wA) :=
  (pk_cons h1 h2).imp fun σ H Q ⟨G0, H0, G, ρ, Qv, Ev, R, xl, hw, q⟩ => ⟨G0, H0, G, ρ, _, Ev, R, xl, hw, fun tv ρ1 G1 H1 v R1 E1 rt q1 =>
    ⟨G0, H0, G1, ρ1, _, Ev, R1, xl, q1, fun tvs ρ2 G2 H2 vs R2 E2 rts q2 => q (tv :: tvs) ρ2 G2 H2 (v :: vs) R2 (E1.trans E2) (.cons (rt.evo E2 R1) (rts.back fun a h => E1.none h) (fun xs ex j ys ey eq => by
      subst ex
      obtain ⟨a, ws, rfl, h1, _⟩ := rt
      obtain ⟨u, eu, b, zs, rfl, _, _, _, _, _, h6⟩ := rts.get ey
      rw [eq] at eu
      cases eu
      rw [h1] at h6
      cases h6)) q2⟩⟩
/-- f(e, .., k = v, ..): perm, the places of the parameters' values among the given ones -/
def wCallK (sp : VSp) (perm : List Nat) (wA wK : AW) : EW := fun ρ Q E => wA ρ (fun tvs ρ1 => wK ρ1 (fun zts ρ2 => ∃ svs, argsS ρ2 (pick perm (tvs ++ zts)) = some svs ∧ sp svs (fun tv => flatT tv = true ∧ Q tv ρ2) E) E) E
theorem rtsEvo {K : PySem.W.Frag} {G0 G G' : Gh} {H0 H H' Hs : Hp} {ρ ρ' : SE} {σ : St} {tvs : List TV} {vs : List V} (E : Evo ρ σ G H ρ' G' H') (R : Rep K G0 H0 G ρ σ H) (h : Paired (fun tv v => RT K Hs G ρ σ H tv v) tvs vs) : Paired (fun tv v => RT K Hs G' ρ' σ H' tv v) tvs vs := Paired.mapP h fun _ _ r => r.evo E R
theorem callK_core {K : PySem.W.Frag} {perm : List Nat} {σ : St} {H : Hp} {Q : L2.VK} (h : rdE K xk (wCallK sp perm wA wK) σ H Q) : tCallKG (spV K sp) (fun vs zs => pick perm (vs ++ zs)) (fun _ => xk) (rdA K xk wA) (rdA K xk wK) σ H Q := by
  obtain ⟨G0, H0, G, ρ, Qv, Ev, R, xl, hw, q⟩ := h
  refine ⟨G0, H0, G, ρ, _, Ev, R, xl, hw, fun tvs ρ1 G1 H1 vs R1 E1 rts q1 => ⟨G0, H0, G1, ρ1, _, Ev, R1, xl, q1, fun zts ρ2 G2 H2 zs R2 E2 rzs q2 => ?_⟩⟩
  obtain ⟨svs, ea, hs⟩ := q2
  have p1 : Paired (fun tv v => RT K H G2 ρ2 σ H2 tv v) tvs vs := rtsEvo E2 R1 rts.paired
  have p2 : Paired (fun tv v => RT K H G2 ρ2 σ H2 tv v) zts zs := (rzs.back fun a h => E1.none h).paired
  refine sp_coreP (Hs := H) (Qv := fun tv => Qv tv ρ2) R2 xl (paired_pick (paired_app p1 p2) perm) ea hs fun tv G' H' v R3 E3 rt q3 => ?_
  exact q tv ρ2 G' H' v R3 ((E1.trans E2).trans E3) (rt.back fun a h => (E1.trans E2).none h) q3
theorem ve_callK {perm : List Nat} (h : PE X e (tCallKG (spV X.K sp) (fun vs zs => pick perm (vs ++ zs)) (fun _ => xk) (rdA X.K xk wA) (rdA X.K xk wK))) : VE X xk e (wCallK sp perm wA wK) := h.imp fun _ _ _ q => callK_core q
theorem ve_callK0 {perm : List Nat} (h : PE X e (tCallKG (spV X.K sp) (fun vs zs => pick perm (vs ++ zs)) (fun _ => xk) tNil (rdA X.K xk wK))) : VE X xk e (wCallK sp perm wNil wK) := h.imp fun σ H Q q => by
  have z := callK_core q
  obtain ⟨G0, H0, G, ρ, Qv, Ev, R, xl, hw, q2⟩ := z
  exact q2 [] ρ G H [] R .refl .nil hw
/-- C(k = v, ..) -/
def wMakeK (C : Addr) (f : ISp) (perm : List Nat) (wK : AW) : EW := fun ρ Q E => wK ρ (fun tvs ρ1 => ∃ svs, argsS ρ1 (pick perm tvs) = some svs ∧ f svs (fun fs => flatFs fs = true ∧ Q (.obj C fs) ρ1) E) E
theorem ve_makeK {perm : List Nat} (h : PE X e (tMakeKG C (spI X.K C f) (fun zs => pick perm zs) (fun _ => xk) (rdA X.K xk wK))) : VE X xk e (wMakeK C f perm wK) := h.imp fun σ H Q ⟨G0, H0, G, ρ, Qv, Ev, R, xl, hw, q⟩ => by
  refine ⟨G0, H0, G, ρ, _, Ev, R, xl, hw, fun tvs ρ1 G1 H1 vs0 R1 E1 rts q1 => ?_⟩
  obtain ⟨svs, ea, hs⟩ := q1
  have p1 := paired_pick rts.paired perm
  intro a dx ha hdx hne
  have sx := see_ext R1.ext (pick perm vs0)
  refine ⟨a, dx, G1.see H1 (pick perm vs0), H1, svs, pick perm vs0, _, Ev, rfl, rfl, ha, hdx, hne, sx, argsS_okP R1 p1 (fun v hv => hv) ea, hs, fun xn D' H' c d ex xr ev => xl xn D' H' c d ?_ xr ev, fun fs vs' G' H' dx' ex hi rf ⟨fl, qv⟩ => ⟨rfl, ?_⟩⟩
  · exact (R1.ext.trans (ex.borrow R1.ext.self rfl fun a f => .inl f)).low
  · have b : Ext G1 H1 { F := G1.F, D := G'.D } H' := ex.borrow R1.ext.self rfl fun a f => .inl f
    obtain ⟨R2, E2'⟩ := R1.call b
    exact q (.obj C fs) ρ1 _ H' (.ref a) R2 (E1.trans E2') ⟨a, dx', vs', rfl, hi, rf.flat fl⟩ qv
end
end VL
set_option Elab.async false
set_option linter.all false
set_option maxRecDepth 100000
set_option maxHeartbeats 1000000
/-! VL23: draw handles of three numbers; the script read. -/
namespace VL
open PySem PySem.Spec PyProof.Rows L2
section
variable {K : PySem.W.Frag} {G0 G G' : Gh} {H0 H H' : Hp} {ρ ρ' : SE} {σ : St}
theorem Rep.drawn {a : Addr} {i j k : Int} (R : Rep K G0 H0 G ρ σ H) (hd : G.D a = 1) : Rep K G0 H0 G ρ σ (upd H a (.lst [V.int i, V.int j, V.int k])) ∧ Evo ρ σ G H ρ G (upd H a (.lst [V.int i, V.int j, V.int k])) ∧ Keep K G.F H G.F (upd H a (.lst [V.int i, V.int j, V.int k])) := by
  obtain ⟨h1, _, _, _⟩ := R.ext.di a
  obtain ⟨i0, j0, k0, ha⟩ := h1 hd
  have nf : ¬ G.F a := fun f => by
    have := R.ext.fd a f
    rw [hd] at this
    cases this
  have no : ¬ Own ρ σ a := fun o => by
    obtain ⟨_, _, _, z⟩ := R.own_some o
    rw [hd] at z
    cases z
  have k' : Keep K G.F H G.F (upd H a (.lst [V.int i, V.int j, V.int k])) := ⟨fun _ h => h, fun b zs f h => by
      have nb : b ≠ a := fun z => nf (by rw [← z]; exact f)
      rw [upd_ne nb]; exact h, fun b zs h => by
      rcases h with (h | ⟨o, h⟩) | h
      · exact .inl (.inl (by rw [upd_ne (ne_of h ha (fun z => nomatch z))]; exact h))
      · exact .inl (.inr ⟨o, by rw [upd_ne (ne_of h ha (fun z => nomatch z))]; exact h⟩)
      · exact .inr h⟩
  refine ⟨⟨⟨fun b => ?_, R.ext.fd, fun b f => ?_, fun b o q1 q2 => ?_, R.ext.fsub, R.ext.fnew, R.ext.dsub, R.ext.dnew⟩, R.len, fun n sv q => ?_, R.inj, R.new⟩, ⟨fun b o q n z => ?_, fun b o q => ?_, fun _ f => f, fun _ f => .inl f, fun _ _ => rfl, fun _ h => .inl h, fun _ o => o, rfl⟩, k'⟩
  · by_cases hb : b = a
    · subst hb
      refine ⟨fun _ => ⟨i, j, k, upd_same⟩, fun z => ?_, fun z => ?_, ?_⟩
      · rw [hd] at z; cases z
      · rw [hd] at z; cases z
      · rw [hd]; decide
    · obtain ⟨g1, g2, g3, g4⟩ := R.ext.di b
      rw [upd_ne hb]
      exact ⟨g1, g2, g3, g4⟩
  · obtain ⟨o, q⟩ := R.ext.ft b f
    exact ⟨o, by rw [upd_ne fun z => nf (by rw [← z]; exact f)]; exact q⟩
  · have nb : b ≠ a := fun z => by
      subst z
      rcases R.ext.dnew b (by rw [hd]; decide) with z | z
      · exact z q2
      · rw [q1] at z; cases z
    rw [upd_ne nb]
    exact R.ext.keep b o q1 q2
  · obtain ⟨v, e1, r⟩ := R.slot n sv q
    refine ⟨v, e1, ?_⟩
    cases sv with
    | d x => exact Rp.keep k' r
    | own zs =>
      obtain ⟨b, us, rfl, g1, g2, g3, g4⟩ := r
      have nb : b ≠ a := fun z => by
        rw [z, hd] at g4
        cases g4
      exact ⟨b, us, rfl, by rw [upd_ne nb]; exact g1, g2.keep k', g3, g4⟩
    | deal k => exact r
    | obj C fs =>
      obtain ⟨b, dx, us, rfl, g1, g2⟩ := r
      exact ⟨b, dx, us, rfl, by rw [upd_ne (ne_of g1 ha (fun z => nomatch z))]; exact g1, g2.keep k'⟩
    | me b => exact r
    | exc b d fs =>
      obtain ⟨ev, us, g1, g2⟩ := r
      exact ⟨ev, us, by rw [upd_ne (ne_of g1 ha (fun z => nomatch z))]; exact g1, g2.keep k'.low⟩
    | scr ns =>
      obtain ⟨b, eb, hb⟩ := r
      exact ⟨b, eb, hb.mono fun o xs h5 => by rw [upd_ne (ne_of h5 ha (fun z => nomatch z))]; exact h5⟩
  · rw [upd_ne fun e => by rw [e, hd] at z; cases z]
    exact q
  · by_cases hb : b = a
    · exact ⟨_, by rw [hb]; exact upd_same⟩
    · exact ⟨o, by rw [upd_ne hb]; exact q⟩
end
section
variable {X : Cx} {xk : XK} {e : Expr} {we : EW} {st : Stmt}
/-- box[k] of a handle of three numbers: some number -/
def wDealIx (i : Nat) (k : Int) : EW := fun ρ Q _ => ρ[i]? = some (some (SV.deal 1)) ∧ (k = 0 ∨ k = 1 ∨ k = 2) ∧ ∀ n : Int, Q (.d (.int n)) ρ
theorem ve_dealIx {i : Nat} {k : Int} (h : PE X e (tOp (rIx X.K) (tVar i) (tC (.int k)))) : VE X xk e (wDealIx i k) := h.imp fun σ H Q ⟨G0, H0, G, ρ, Qv, Ev, R, xl, ⟨e1, ek, hw⟩, q⟩ => by
  obtain ⟨v, ev, a, ea, hd, _⟩ := R.slot i _ e1
  subst ea
  obtain ⟨h1, _, _, _⟩ := R.ext.di a
  obtain ⟨i0, j0, k0, ha⟩ := h1 hd
  refine ⟨_, ev, ?_⟩
  rcases ek with rfl | rfl | rfl
  · exact .inl ⟨a, _, 0, .int i0, rfl, rfl, .inl (.inl ha), rfl, q (.d (.int i0)) _ _ _ _ R .refl (show Rp _ _ _ _ _ from .int _) (hw _)⟩
  · exact .inl ⟨a, _, 1, .int j0, rfl, rfl, .inl (.inl ha), rfl, q (.d (.int j0)) _ _ _ _ R .refl (show Rp _ _ _ _ _ from .int _) (hw _)⟩
  · exact .inl ⟨a, _, 2, .int k0, rfl, rfl, .inl (.inl ha), rfl, q (.d (.int k0)) _ _ _ _ R .refl (show Rp _ _ _ _ _ from .int _) (hw _)⟩
/-- box[k] = e -/
def wSetDeal (i : Nat) (k : Int) (we : EW) : SW := fun ρ P E => we ρ (fun tv ρ1 => ∃ n : Int, tv = .d (.int n) ∧ ρ1[i]? = some (some (SV.deal 1)) ∧ (k = 0 ∨ k = 1 ∨ k = 2) ∧ P.nx ρ1) E
theorem vs_setDeal {i : Nat} {k : Int} (h : PS X st (tAsg (rdE X.K xk we) (gSub (tVar i) (tC (.int k)) rSetL))) : VS X xk st (wSetDeal i k we) := h.imp fun D σ H ⟨G0, H0, G, ρ, P, Ev, S, R, xl, hw, l, sb, sg⟩ =>
  ⟨G0, H0, G, ρ, _, Ev, R, xl, hw, fun tv ρ1 G1 H1 v R1 E1 rt ⟨n, etv, e1, ek, q⟩ => by
    subst etv
    have rt' : Rp X.K G1.F H1 v (.int n) := rt
    cases rt'
    obtain ⟨u, ev, a, ea, hd, _⟩ := R1.slot i _ e1
    subst ea
    obtain ⟨h1, _, _, _⟩ := R1.ext.di a
    obtain ⟨i0, j0, k0, ha⟩ := h1 hd
    refine ⟨_, ev, a, [V.int i0, V.int j0, V.int k0], k, ?_⟩
    rcases ek with rfl | rfl | rfl
    · obtain ⟨R2, _, k2⟩ := R1.drawn (i := n) (j := j0) (k := k0) hd
      exact ⟨0, rfl, rfl, ha, rfl, l.nx ρ1 G1 σ _ R2 (sb _ _ _ _ ((E1.keeps R).trans k2) sg) q⟩
    · obtain ⟨R2, _, k2⟩ := R1.drawn (i := i0) (j := n) (k := k0) hd
      exact ⟨1, rfl, rfl, ha, rfl, l.nx ρ1 G1 σ _ R2 (sb _ _ _ _ ((E1.keeps R).trans k2) sg) q⟩
    · obtain ⟨R2, _, k2⟩ := R1.drawn (i := i0) (j := j0) (k := n) hd
      exact ⟨2, rfl, rfl, ha, rfl, l.nx ρ1 G1 σ _ R2 (sb _ _ _ _ ((E1.keeps R).trans k2) sg) q⟩⟩
/-- a new list of three numbers, handed out as a handle -/
def wHand (we : EW) : SW := fun ρ P E => we ρ (fun tv _ => ∃ i j k : Int, tv = .fresh [.int i, .int j, .int k] ∧ P.rt (.deal 1)) E
theorem DI.add {D : Addr → Nat} {H : Hp} {a : Addr} {i j k : Int} (h : DI D H) (ha : H a = Option.some (.lst [V.int i, V.int j, V.int k])) (hd : D a = 0) : DI (fun b => if b = a then 1 else D b) H := fun b => by
  by_cases hb : b = a
  · subst hb
    simp only [if_true]
    exact ⟨fun _ => ⟨i, j, k, ha⟩, fun z => (by cases z), fun z => (by cases z), by decide⟩
  · obtain ⟨g1, g2, g3, g4⟩ := h b
    simp only [if_neg hb]
    refine ⟨g1, fun e => ?_, g3, g4⟩
    obtain ⟨c, b', hc, hh⟩ := g2 e
    refine ⟨c, b', ?_, hh⟩
    by_cases hca : c = a
    · subst hca
      rw [hd] at hc
      cases hc
    · rw [if_neg hca]
      exact hc
theorem vs_hand {pos : Pos} (he : VE X xk e we) : VS X xk (.Return (some e) pos) (wHand we) := (ps_ret he).imp fun D σ H ⟨G0, H0, G, ρ, P, Ev, S, R, xl, hw, l, sb, sg⟩ =>
  ⟨G0, H0, G, ρ, _, Ev, R, xl, hw, fun tv ρ1 G1 H1 v R1 E1 rt ⟨i, j, k, etv, q⟩ => by
    subst etv
    obtain ⟨a, vs, ev, h1, h2, h3, h4, h5, h6⟩ := rt
    subst ev
    have e3 : vs = [V.int i, V.int j, V.int k] := by
      have : [PyData.int i, .int j, .int k] = [i, j, k].map PyData.int := rfl
      rw [this] at h2
      exact h2.ints
    subst e3
    have hn : H0 a = none := R.ext.none0 h6
    refine l.rt (.deal 1) { F := G1.F, D := fun b => if b = a then 1 else G1.D b } H1 _ ⟨R1.ext.di.add h1 h4, fun b f => ?_, R1.ext.ft, R1.ext.keep, R1.ext.fsub, R1.ext.fnew, fun b hb => ?_, fun b hb => ?_⟩ ⟨a, rfl, if_pos rfl, by decide⟩ q
    · have nb : b ≠ a := fun z => h3 (by rw [← z]; exact f)
      show (if b = a then 1 else G1.D b) = 0
      rw [if_neg nb]
      exact R1.ext.fd b f
    · have nb : b ≠ a := fun z => by
        have := R1.ext.dsub b hb
        rw [z, h4, ← z] at this
        exact hb this.symm
      show (if b = a then 1 else G1.D b) = G0.D b
      rw [if_neg nb]
      exact R1.ext.dsub b hb
    · by_cases z : b = a
      · exact .inr (by rw [z]; exact hn)
      · have hb' : (if b = a then 1 else G1.D b) ≠ 0 := hb
        rw [if_neg z] at hb'
        exact R1.ext.dnew b hb'⟩
/-! ### the script -/
def wScrLen (i : Nat) : EW := fun ρ Q _ => ∃ ns, ρ[i]? = some (some (SV.scr ns)) ∧ Q (.d (.int (ns.length : Nat))) ρ
theorem ve_scrLen {i : Nat} (h : PE X e (tCB (fun xs H Q => ∃ (a : Addr) (ys : List V), xs = [.ref a] ∧ (SqL X.K H a ys ∨ SqT X.K H a ys) ∧ Q (.int ys.length) H) (tCons (tVar i) tNil))) : VE X xk e (wScrLen i) := h.imp fun σ H Q ⟨G0, H0, G, ρ, Qv, Ev, R, xl, ⟨ns, e1, hw⟩, q⟩ => by
  obtain ⟨v, ev, a, ea, hs⟩ := R.slot i _ e1
  subst ea
  exact ⟨_, ev, a, _, rfl, .inl hs.sq, by rw [List.length_map]; exact q (.d (.int (ns.length : Nat))) _ _ _ _ R .refl (show Rp _ _ _ _ _ from .int _) hw⟩
/-- script[e] -/
def wScrIx (i : Nat) (we : EW) : EW := fun ρ Q E => ∃ ns, ρ[i]? = some (some (SV.scr ns)) ∧ we ρ (fun tv ρ1 => ∃ (k n : Int), res ρ1 tv = some (.int k) ∧ L2.atI ns k = some n ∧ Q (.d (.int n)) ρ1) E
theorem atI_map {α β : Type} {f : α → β} {xs : List α} {k : Int} {x : α} (h : L2.atI xs k = some x) : L2.atI (xs.map f) k = some (f x) := by
  unfold L2.atI at h ⊢
  rw [List.length_map]
  cases q : ixN xs.length k with
  | none => rw [q] at h; cases h
  | some j =>
    rw [q] at h
    have h' : xs[j]? = some x := h
    show (xs.map f)[j]? = some (f x)
    rw [List.getElem?_map, h']
    rfl
theorem ve_scrIx {i : Nat} (h : PE X e (tOp (rIx X.K) (tVar i) (rdE X.K xk we))) : VE X xk e (wScrIx i we) := h.imp fun σ H Q ⟨G0, H0, G, ρ, Qv, Ev, R, xl, ⟨ns, e1, hw⟩, q⟩ => by
  obtain ⟨v, ev, a, ea, hs⟩ := id (R.slot i _ e1)
  subst ea
  refine ⟨_, ev, G0, H0, G, ρ, _, Ev, R, xl, hw, fun tv ρ1 G1 H1 u R1 E1 rt ⟨k, n, er, ea, q1⟩ => ?_⟩
  cases (rt.rq R1 er).int
  have rs : RT X.K H G ρ σ H (.scr ns) (.ref a) := ⟨a, rfl, hs⟩
  obtain ⟨a', ea', hs'⟩ := rs.evo E1 R
  cases ea'
  exact .inl ⟨a, _, k, .int n, rfl, rfl, hs'.sq, atI_map ea, q (.d (.int n)) _ _ _ _ R1 E1 (show Rp _ _ _ _ _ from .int _) q1⟩
end
end VL
set_option Elab.async false
set_option linter.all false
set_option maxRecDepth 100000
set_option maxHeartbeats 1000000
/-! VL24: short words for printed derivations. -/
namespace VL
open PySem PySem.Spec PyProof.Rows L2
section
variable {X : Cx} {xk : XK} {a b c e : Expr} {es : List Expr} {wa wb wc we : EW} {wA : AW} {pos p : Pos}
theorem ve_chain {op op' : CmpOp} {g g' : DOp} (ho : OpV X (compareOp op) g) (ho' : OpV X (compareOp op') g') (ha : VE X xk a wa) (hb : VE X xk b wb) (hc : VE X xk c wc) (hm : lastMarks [op, op'] [b, c] = false := by with_unfolding_all rfl) : VE X xk (.Compare a [op, op'] [b, c] pos) (wChain g g' wa wb wc) :=
  (pe_chain ho ho' ha hb hc hm).imp fun _ _ _ h => chain_core h
theorem vt_chain {op op' : CmpOp} {g g' : DOp} (ho : OpV X (compareOp op) g) (ho' : OpV X (compareOp op') g') (ha : VE X xk a wa) (hb : VE X xk b wb) (hc : VE X xk c wc) (hm : lastMarks [op, op'] [b, c] = false := by with_unfolding_all rfl) : VT X xk (.Compare a [op, op'] [b, c] pos) (wTst (wChain g g' wa wb wc)) :=
  (pt_chain ho ho' ha hb hc hm).imp fun _ _ _ h => tst_core (fun _ _ _ q => chain_core q) h
theorem hu64 {k : Nat} {A : Around} (hr : RoomG k A) : A.units + 64 < cLine := by have := hr.r.un; omega
theorem hu65 {k : Nat} {A : Around} (hr : RoomG k A) : A.units + 65 < cLine := by have := hr.r.un; omega
theorem hu200 {k : Nat} {A : Around} (hr : RoomG k A) : A.units + 200 < cLine := by have := hr.r.un; omega
theorem bt_len : bootBuiltins "len" = some (.builtin "len") := by decide +kernel
theorem bt_isinstance : bootBuiltins "isinstance" = some (.builtin "isinstance") := by decide +kernel
theorem bt_min : bootBuiltins "min" = some (.builtin "min") := by decide +kernel
theorem bt_sum : bootBuiltins "sum" = some (.builtin "sum") := by decide +kernel
theorem bt_any : bootBuiltins "any" = some (.builtin "any") := by decide +kernel
theorem bt_all : bootBuiltins "all" = some (.builtin "all") := by decide +kernel
theorem bt_abs : bootBuiltins "abs" = some (.builtin "abs") := by decide +kernel
theorem bt_repr : bootBuiltins "repr" = some (.builtin "repr") := by decide +kernel
theorem bt_int : bootBuiltins "int" = some (.type "int") := by decide +kernel
theorem bt_bool : bootBuiltins "bool" = some (.type "bool") := by decide +kernel
theorem bt_str : bootBuiltins "str" = some (.type "str") := by decide +kernel
theorem bt_list : bootBuiltins "list" = some (.type "list") := by decide +kernel
theorem bt_tuple : bootBuiltins "tuple" = some (.type "tuple") := by decide +kernel
theorem bt_ValueError : bootBuiltins "ValueError" = some (.type "ValueError") := by decide +kernel
/-- isinstance(x, T), T a built-in class -/
theorem ve_isB {T : Str} {t : String} {p2 : Pos} (hg : Gl X "isinstance") (hm : X.mg "isinstance" = none) (hgT : Gl X T) (hmT : X.mg T = none) (hbT : bootBuiltins T = some (.type t)) (ha : VE X xk a wa)
    (hn : T ≠ "__name__" := by decide) (hd : (T == ("__debug__" : Str)) = false := by decide)
    (he : starEach [a, .Name T p2] X.env = (false, eval a X.env) :: starEach [.Name T p2] X.env := by rfl) (he2 : starEach [.Name T p2] X.env = (false, eval (.Name T p2) X.env) :: starEach [] X.env := by rfl) (hpl : (backTo pos (starEach [.Name T p2] X.env)).any (·.1) = false := by rfl) :
    VE X xk (.Call (.Name "isinstance" p) [a, .Name T p2] [] pos) (wIsC X.K (.type t) wa) :=
  ve_isC (.ty t) (pe_callB call_isi hg hm bt_isinstance (pa_cons ha (pa_cons (pe_bltn hgT hmT hbT rfl hn hd) pa_nil he2) he) (by decide) (by decide) he hpl)
/-- isinstance(x, C), C an own class -/
theorem ve_isO {T : Str} {C : Addr} {p2 : Pos} (hg : Gl X "isinstance") (hm : X.mg "isinstance" = none) (hgT : Gl X T) (hmT : X.mg T = some (.ref C)) (ha : VE X xk a wa) (hd : (T == ("__debug__" : Str)) = false := by decide)
    (he : starEach [a, .Name T p2] X.env = (false, eval a X.env) :: starEach [.Name T p2] X.env := by rfl) (he2 : starEach [.Name T p2] X.env = (false, eval (.Name T p2) X.env) :: starEach [] X.env := by rfl) (hpl : (backTo pos (starEach [.Name T p2] X.env)).any (·.1) = false := by rfl) :
    VE X xk (.Call (.Name "isinstance" p) [a, .Name T p2] [] pos) (wIsC X.K (.ref C) wa) :=
  ve_isC (.own C) (pe_callB call_isi hg hm bt_isinstance (pa_cons ha (pa_cons (pe_glob hgT hmT rfl hd) pa_nil he2) he) (by decide) (by decide) he hpl)
end
end VL
set_option Elab.async false
set_option linter.all false
set_option maxRecDepth 100000
/-! VL25: __init__ by its body: a part that lets self be, then stores of fields. -/
namespace VL
open PySem PySem.Spec PyProof.Rows L2

def putD (f : Str) (x : PyData) : List (Str × PyData) → List (Str × PyData)
  | [] => [(f, x)]
  | (g, y) :: r => if g = f then (g, x) :: r else (g, y) :: putD f x r
theorem putF_rfs {K : PySem.W.Frag} {F : Addr → Prop} {H : Hp} {f : Str} {v : V} {x : PyData} (r : Rp K F H v x) : ∀ {vs : List (Str × V)} {fs : List (Str × PyData)}, RFs K F H vs fs → RFs K F H (putF f v vs) (putD f x fs)
  | _, _, .nil => .cons ⟨rfl, r⟩ .nil
  | _, _, .cons (a := p) (b := q) (l₁ := vs) (l₂ := fs) h t => by
    obtain ⟨g, y⟩ := p
    obtain ⟨g', y'⟩ := q
    obtain ⟨e, h2⟩ := h
    have e' : g = g' := e
    subst e'
    unfold putF putD
    by_cases z : g = f
    · rw [if_pos z, if_pos z]
      exact .cons ⟨rfl, r⟩ t
    · rw [if_neg z, if_neg z]
      exact .cons ⟨rfl, h2⟩ (putF_rfs r t)
def isObj : Option SV → Bool
  | some (.obj _ _) => true
  | _ => false
section
variable {K : PySem.W.Frag} {G0 G G' : Gh} {H0 H H' : Hp} {ρ ρ' : SE} {σ : St}
/-- self (slot 0) is an object under construction, nobody else tells of it -/
structure Own0 (K : PySem.W.Frag) (H0 : Hp) (C a : Addr) (G : Gh) (ρ : SE) (σ : St) (H : Hp) (fs : List (Str × PyData)) : Prop where
  at0 : σ[0]? = some (some (.ref a))
  no : ∀ j : Nat, (ρ[j]?).any isObj = false
  new : H0 a = none
  o : ∃ dx vs, H a = some (.ins C dx vs) ∧ RFs K G.F H vs fs
theorem Own0.evo {C a : Addr} {fs} (o : Own0 K H0 C a G ρ σ H fs) (R : Rep K G0 H0 G ρ σ H) (e : Evo ρ σ G H ρ' G' H') (n : ∀ j : Nat, (ρ'[j]?).any isObj = false) : Own0 K H0 C a G' ρ' σ H' fs := by
  obtain ⟨dx, vs, h1, h2⟩ := o.o
  refine ⟨o.at0, n, o.new, dx, vs, e.keep a _ h1 (fun z => ?_) (R.ext.di.notup h1 fun _ z => nomatch z), h2.keep (e.keeps R)⟩
  obtain ⟨ls, q, _⟩ := R.own_some z
  rw [h1] at q
  cases q
/-- a store into self -/
theorem Own0.put {C a : Addr} {fs} (o : Own0 K H0 C a G ρ σ H fs) (R : Rep K G0 H0 G ρ σ H) {f : Str} {y : V} {x : PyData} (r : Rp K G.F H y x) {dx : Addr} {vs : List (Str × V)} (h1 : H a = some (.ins C dx vs)) (h2 : RFs K G.F H vs fs) :
    Rep K G0 H0 G ρ σ (upd H a (.ins C dx (putF f y vs))) ∧ Own0 K H0 C a G ρ σ (upd H a (.ins C dx (putF f y vs))) (putD f x fs) ∧ Keep K G.F H G.F (upd H a (.ins C dx (putF f y vs))) := by
  have k : Keep K G.F H G.F (upd H a (.ins C dx (putF f y vs))) := ⟨fun _ h => h, fun b zs f h => by
      rw [upd_ne (ne_of h h1 (fun z => nomatch z))]; exact h, fun b zs h => by
      rcases h with (h | ⟨o, h⟩) | h
      · exact .inl (.inl (by rw [upd_ne (ne_of h h1 (fun z => nomatch z))]; exact h))
      · exact .inl (.inr ⟨o, by rw [upd_ne (ne_of h h1 (fun z => nomatch z))]; exact h⟩)
      · exact .inr h⟩
  have hd : G.D a = 0 := R.ext.di.notup h1 fun _ z => nomatch z
  refine ⟨⟨⟨R.ext.di.keep fun b n => upd_ne fun z => n (by rw [z]; exact hd), R.ext.fd, fun b f => ?_, fun b o1 q1 q2 => ?_, R.ext.fsub, R.ext.fnew, R.ext.dsub, R.ext.dnew⟩, R.len, fun j sv q => ?_, R.inj, R.new⟩, ⟨o.at0, o.no, o.new, dx, _, upd_same, (putF_rfs r h2).keep k⟩, k⟩
  · obtain ⟨u, q⟩ := R.ext.ft b f
    by_cases z : b = a
    · subst z
      exact ⟨_, upd_same⟩
    · exact ⟨u, by rw [upd_ne z]; exact q⟩
  · rw [upd_ne fun z => by rw [z, o.new] at q1; cases q1]
    exact R.ext.keep b o1 q1 q2
  · obtain ⟨v, e1, r⟩ := R.slot j sv q
    refine ⟨v, e1, ?_⟩
    cases sv with
    | d x => exact Rp.keep k r
    | own zs =>
      obtain ⟨b, us, rfl, g1, g2, g3, g4⟩ := r
      exact ⟨b, us, rfl, by rw [upd_ne (ne_of g1 h1 (fun z => nomatch z))]; exact g1, g2.keep k, g3, g4⟩
    | deal k => exact r
    | obj C fs =>
      have := o.no j
      rw [q] at this
      cases this
    | scr ns =>
      obtain ⟨b, eb, hb⟩ := r
      exact ⟨b, eb, hb.mono fun o xs h5 => by rw [upd_ne (ne_of h5 h1 (fun z => nomatch z))]; exact h5⟩
    | me b => exact r
    | exc b d fs =>
      obtain ⟨ev, us, g1, g2⟩ := r
      exact ⟨ev, us, by rw [upd_ne (ne_of g1 h1 (fun z => nomatch z))]; exact g1, g2.keep k.low⟩
end

/-! ### the stores -/
abbrev TW := SE → List (Str × PyData) → (SE → List (Str × PyData) → Prop) → QX → Prop
def rdT (K : PySem.W.Frag) (C : Addr) (xk : XK) (w : TW) : TS := fun D σ H => ∃ a G0 H0 G ρ fs P Ev, Rep K G0 H0 G ρ σ H ∧ Own0 K H0 C a G ρ σ H fs ∧ XL K G0 H0 Ev xk ∧ w ρ fs P Ev ∧
  ∀ ρ' fs' G' H', Rep K G0 H0 G' ρ' σ H' → Own0 K H0 C a G' ρ' σ H' fs' → P ρ' fs' → D.nx σ H'
def noObj (ρ : SE) : Prop := ∀ j : Nat, (ρ[j]?).any isObj = false
/-- self.f = e -/
def wPutF (f : Str) (we : EW) : TW := fun ρ fs P E => fs.length < 1000 ∧ we ρ (fun tv ρ1 => ∃ x ρ2, frz ρ1 tv = some (x, ρ2) ∧ noObj ρ2 ∧ P ρ2 (putD f x fs)) E
/-- self.f = e, e over self's fields -/
def wPutO (C : Addr) (f : Str) (we : EW) : TW := fun ρ fs P E => fs.length < 1000 ∧ we (ρ.set 0 (some (.obj C fs))) (fun tv ρ1 => ∃ x ρ2, frz ρ1 tv = some (x, ρ2) ∧ noObj (ρ2.set 0 none) ∧ P (ρ2.set 0 none) (putD f x fs)) E
/-- self.f, self.g, .. = a tuple -/
def wPutT (fl : List Str) (we : EW) : TW := fun ρ fs P E => fs.length + fl.length < 1000 ∧ we ρ (fun tv ρ1 => ∃ xs, tv = .d (.tuple xs) ∧ xs.length = fl.length ∧ noObj ρ1 ∧ P ρ1 ((fl.zip xs).foldl (fun fs p => putD p.1 p.2 fs) fs)) E
theorem putD_len {f : Str} {x : PyData} : ∀ fs : List (Str × PyData), (putD f x fs).length ≤ fs.length + 1
  | [] => by unfold putD; simp
  | (g, y) :: r => by
    unfold putD
    split
    · simp
    · have := putD_len (f := f) (x := x) r
      simp only [List.length_cons]
      omega
theorem rfs_len {K : PySem.W.Frag} {F : Addr → Prop} {H : Hp} {vs : List (Str × V)} {fs : List (Str × PyData)} (h : RFs K F H vs fs) : vs.length = fs.length := (Paired.length h).symm.symm
def gFlds (K : PySem.W.Frag) : List Str → TGs
  | [] => gNil
  | f :: r => gCons (gFld K (tVar 0) f) (gFlds K r)
theorem gFlds_ok {K : PySem.W.Frag} {C a : Addr} {G0 : Gh} {H0 : Hp} {ρ : SE} {σ : St} {Q : St → Hp → Prop} (hc : Cls K C) : ∀ (fl : List Str) {xs : List PyData} {vs : List V} {fs : List (Str × PyData)} {G : Gh} {H : Hp}, (∀ f ∈ fl, NoAttr K C f) → Rep K G0 H0 G ρ σ H → Own0 K H0 C a G ρ σ H fs → RpAll K G.F H vs xs → xs.length = fl.length → fs.length + fl.length < 1000 →
    (∀ H', Rep K G0 H0 G ρ σ H' → Own0 K H0 C a G ρ σ H' ((fl.zip xs).foldl (fun fs p => putD p.1 p.2 fs) fs) → Q σ H') → gFlds K fl vs σ H Q
  | [], _, _, fs, G, H, hn, R, o, .nil, _, _, q => ⟨rfl, q H R o⟩
  | [], _, _, _, _, _, _, _, _, .cons _ _, l, _, _ => by cases l
  | _ :: _, _, _, _, _, _, _, _, _, .nil, l, _, _ => by cases l
  | f :: fl, _, _, fs, G, H, hn, R, o, @RpAll.cons _ _ _ v vs x xs r rs, l, n, q => by
    obtain ⟨dx, us, h1, h2⟩ := o.o
    obtain ⟨R', o', k⟩ := o.put R (f := f) r h1 h2
    simp only [List.length_cons] at n l
    refine ⟨v, vs, rfl, .ref a, o.at0, a, C, dx, us, rfl, h1, hc, hn f List.mem_cons_self, by rw [rfs_len h2]; omega, ?_⟩
    exact gFlds_ok hc fl (fun g hg => hn g (List.mem_cons_of_mem _ hg)) R' o' (rs.keep k) (by omega) (by have := putD_len (f := f) (x := x) fs; omega) q
section
variable {X : Cx} {xk : XK} {C : Addr} {e : Expr} {we : EW}
theorem ts_putT {st : Stmt} {fl : List Str} (hc : Cls X.K C) (hn : ∀ f ∈ fl, NoAttr X.K C f) (h : PS X st (tAsg (rdE X.K xk we) (gTup X.K fl.length (gFlds X.K fl)))) : PS X st (rdT X.K C xk (wPutT fl we)) := h.imp fun D σ H ⟨a, G0, H0, G, ρ, fs, P, Ev, R, o, xl, ⟨l, hw⟩, q⟩ =>
  ⟨G0, H0, G, ρ, _, Ev, R, xl, hw, fun tv ρ1 G1 H1 v R1 E1 rt ⟨xs, etv, el, no, p⟩ => by
    subst etv
    have o1 := o.evo R E1 no
    obtain ⟨b, vs, ev, hs, hv⟩ := (Rp.rq (show Rp X.K G1.F H1 v (.tuple xs) from rt)).tup
    subst ev
    exact ⟨b, vs, rfl, hs, by rw [hv.length]; exact el, gFlds_ok hc fl hn R1 o1 hv el l fun H' R' o' => q _ _ _ _ R' o' p⟩⟩
theorem ts_putF {st : Stmt} {f : Str} (hc : Cls X.K C) (hn : NoAttr X.K C f) (h : PS X st (sFld X.K (tVar 0) (rdE X.K xk we) f)) : PS X st (rdT X.K C xk (wPutF f we)) := h.imp fun D σ H ⟨a, G0, H0, G, ρ, fs, P, Ev, R, o, xl, ⟨l, hw⟩, q⟩ =>
  ⟨G0, H0, G, ρ, _, Ev, R, xl, hw, fun tv ρ1 G1 H1 v R1 E1 rt ⟨x, ρ2, ef, no, p⟩ => by
    obtain ⟨G2, f2⟩ := frz_ok R1 (fun a h => R.ext.none0 h) rt ef
    have o1 : Own0 X.K H0 C a G2 ρ2 σ H1 fs := o.evo R (f2.evo E1) no
    obtain ⟨dx, us, h1, h2⟩ := o1.o
    obtain ⟨R', o', k⟩ := o1.put f2.rep (f := f) f2.is h1 h2
    exact ⟨.ref a, o1.at0, a, C, dx, us, rfl, h1, hc, hn, by rw [rfs_len h2]; exact l, q _ _ _ _ R' o' p⟩⟩
theorem set_none {K : PySem.W.Frag} {G0 G : Gh} {H0 H : Hp} {ρ : SE} {σ : St} (R : Rep K G0 H0 G ρ σ H) (i : Nat) : Rep K G0 H0 G (ρ.set i none) σ H := by
  have sub : ∀ (j : Nat) (sv : SV), (ρ.set i none)[j]? = some (some sv) → ρ[j]? = some (some sv) := fun j sv q => by
    by_cases hj : j = i
    · subst hj
      by_cases hi : j < ρ.length
      · rw [List.getElem?_set_self hi] at q
        cases q
      · rw [List.getElem?_eq_none (by rw [List.length_set]; omega)] at q
        cases q
    · rwa [List.getElem?_set_ne (Ne.symm hj)] at q
  exact ⟨R.ext, by rw [List.length_set]; exact R.len, fun j sv q => R.slot j sv (sub j sv q), fun j l xs ys a q1 q2 => R.inj j l xs ys a (sub _ _ q1) (sub _ _ q2), fun a ⟨j, xs, q1, q2⟩ => R.new a ⟨j, xs, sub _ _ q1, q2⟩⟩
theorem evo_none {G G' : Gh} {H H' : Hp} {ρ ρ' : SE} {σ : St} (e : Evo ρ σ G H ρ' G' H') : True := trivial
theorem ts_putO {st : Stmt} {f : Str} (hc : Cls X.K C) (hn : NoAttr X.K C f) (h : PS X st (sFld X.K (tVar 0) (rdE X.K xk we) f)) : PS X st (rdT X.K C xk (wPutO C f we)) := h.imp fun D σ H ⟨a, G0, H0, G, ρ, fs, P, Ev, R, o, xl, ⟨l, hw⟩, q⟩ => by
  obtain ⟨dx0, us0, g1, g2⟩ := o.o
  have R0 : Rep X.K G0 H0 G (ρ.set 0 (some (.obj C fs))) (σ.set 0 (some (.ref a))) H := R.set (sv := .obj C fs) (v := .ref a) ⟨a, dx0, us0, rfl, g1, g2⟩ fun _ _ z => nomatch z
  have es : σ.set 0 (some (.ref a)) = σ := by
    have h0 := o.at0
    cases σ with
    | nil => cases h0
    | cons x r =>
      have : x = some (.ref a) := by simpa using h0
      subst this
      rfl
  rw [es] at R0
  refine ⟨G0, H0, G, _, _, Ev, R0, xl, hw, fun tv ρ1 G1 H1 v R1 E1 rt ⟨x, ρ2, ef, no, p⟩ => ?_⟩
  obtain ⟨G2, f2⟩ := frz_ok R1 (fun a h => R.ext.none0 h) rt ef
  have e2 := f2.evo E1
  have R2 := set_none f2.rep 0
  have o1 : Own0 X.K H0 C a G2 (ρ2.set 0 none) σ H1 fs := by
    refine ⟨o.at0, no, o.new, dx0, us0, e2.keep a _ g1 (fun z => ?_) (R0.ext.di.notup g1 fun _ z => nomatch z), g2.keep (e2.keeps R0)⟩
    obtain ⟨ls, q, _⟩ := R0.own_some z
    rw [g1] at q
    cases q
  obtain ⟨dx, us, h1, h2⟩ := o1.o
  obtain ⟨R', o', k⟩ := o1.put R2 (f := f) f2.is h1 h2
  exact ⟨.ref a, o1.at0, a, C, dx, us, rfl, h1, hc, hn, by rw [rfs_len h2]; exact l, q _ _ _ _ R' o' p⟩
def tNil : TW := fun ρ fs P _ => P ρ fs
def tThen (w1 w2 : TW) : TW := fun ρ fs P E => w1 ρ fs (fun ρ1 fs1 => w2 ρ1 fs1 P E) E
theorem tss_nil : PSs X [] (rdT X.K C xk tNil) := pss_nil.imp fun D σ H ⟨a, G0, H0, G, ρ, fs, P, Ev, R, o, xl, hw, q⟩ => q _ _ _ _ R o hw
theorem tss_cons {st : Stmt} {l : List Stmt} {w1 w2 : TW} (h1 : PS X st (rdT X.K C xk w1)) (h2 : PSs X l (rdT X.K C xk w2)) : PSs X (st :: l) (rdT X.K C xk (tThen w1 w2)) := (pss_cons h1 h2).imp fun D σ H ⟨a, G0, H0, G, ρ, fs, P, Ev, R, o, xl, hw, q⟩ =>
  ⟨a, G0, H0, G, ρ, fs, _, Ev, R, o, xl, hw, fun ρ' fs' G' H' R' o' hw' => ⟨a, G0, H0, G', ρ', fs', P, Ev, R', o', xl, hw', q⟩⟩
end

/-- what an __init__ keeps, by its body: w lets self be, then the stores -/
def bodyI (n m : Nat) (w : SW) (wt : TW) : ISp := fun svs Q E => svs.length + 1 = m ∧ 0 < n ∧ ∀ a, w (startS n (.me a :: svs)) { nx := fun ρ => ρ[0]? = some (some (SV.me a)) ∧ noObj ρ ∧ wt ρ [] (fun _ fs => Q fs) E, rt := fun _ => False } E
section
variable {P : Program} {w : World} {K : PySem.W.Frag} {mg : Str → Option Value} {base : Heap}
theorem spI_len {C : Addr} {n m : Nat} {wb : SW} {wt : TW} : ∀ vs H Q E, spI K C (bodyI n m wb wt) vs H Q E → vs.length = m := fun vs H Q E ⟨a, dx, G1, H1, svs, rest, Qf, Ev, ev, _, _, _, _, _, p, c, _⟩ => by
  rw [ev, List.length_cons, ← p.length]
  exact c.1
theorem init_run {C : Addr} {N : List Str} {m : Nat} {wb : SW} {wt : TW} {vs : List V} {H : Hp} {Q : L2.VK} {E : XK} (h : spI K C (bodyI N.length m wb wt) vs H Q E) :
    tSeq (rdS K E wb) (rdT K C E wt) { nx := fun _ H' => Q .non H', rt := Q } (L2.start N vs) H := by
  obtain ⟨a, dx, G1, H1, svs, rest, Qf, Ev, ev, eH, ha, hdx, hne, e1, p, ⟨hl, hp, hw⟩, xl, k⟩ := h
  subst ev
  have g : Grow H1 H := by
    rw [eH]
    exact (Grow.upd hdx).trans (Grow.upd (by rw [upd_ne (Ne.symm hne)]; exact ha))
  have eHH : Ext G1 H1 G1 H := e1.grow g
  have hin : H a = some (.ins C dx []) := by rw [eH]; exact upd_same
  have pp : Paired (fun sv v => RS K G1 H sv v ∧ sv.free) (.me a :: svs) (.ref a :: rest) := .cons ⟨rfl, trivial⟩ (Paired.mapP p fun _ _ q => ⟨q.1.grow g, q.2⟩)
  have R := start_rep (N := N) eHH.self pp
  have hd : G1.D a = 0 := eHH.di.notup hin fun _ z => nomatch z
  refine ⟨G1, H, G1, _, _, Ev, fun _ _ => True, R, fun xn D' H' c d ex xr q => xl xn D' H' c d (eHH.trans ex) xr q, hw a, ⟨fun ρ G σ H' R' _ q => ?_, fun tv G H' v e rt q => q.elim, fun _ _ _ _ _ _ z => z.elim, fun _ _ _ _ _ _ z => z.elim⟩, fun _ _ _ _ _ _ => trivial, trivial⟩
  obtain ⟨q0, qn, qt⟩ := q
  obtain ⟨v, es, er⟩ := R'.slot 0 _ q0
  obtain rfl : v = .ref a := er
  have R2 : Rep K G1 H1 G ρ σ H' := ⟨eHH.trans R'.ext, R'.len, R'.slot, R'.inj, fun b o => eHH.none0 (R'.new b o)⟩
  exact ⟨a, G1, H1, G, ρ, [], _, Ev, R2, ⟨es, qn, ha, dx, [], R'.ext.keep a _ hin hd, .nil⟩, xl, qt, fun ρ' fs' G' H'' R'' o' qf => by
    obtain ⟨dx', vs', h1, h2⟩ := o'.o
    exact k fs' vs' G' H'' dx' R''.ext h1 h2 qf⟩
theorem fn_initXV {x qual : Str} {st : Stmt} {f : Addr} {fd : FuncData} {N ps : List Str} {k : Nat} {C : Addr} {wb : SW} {wt : TW} (F : Fun K x qual st f fd) (S : FnScope N ps (defScope st)) {l1 l2 : List Stmt} (hb : defBody st = l1 ++ l2)
    (h1 : ∀ (cdv : Value) (A : Around) (outer : List Env) (s : Shared) (H : Hp) (E : XK), RoomG k (A.deeper (envOfC qual (defScope st) s.heap.objs.size f cdv)) →
      VSs (cxOf (L2.CX P w) P w K mg base N qual (defScope st) f cdv A outer s H E) E l1 wb)
    (h2 : ∀ (cdv : Value) (A : Around) (outer : List Env) (s : Shared) (H : Hp) (E : XK), RoomG k (A.deeper (envOfC qual (defScope st) s.heap.objs.size f cdv)) →
      PSs (cxOf (L2.CX P w) P w K mg base N qual (defScope st) f cdv A outer s H E) l2 (rdT K C E wt)) : FnG P w K mg base (L2.CX P w) (k + 1) f fd ps (spI K C (bodyI N.length ps.length wb wt)) :=
  F.okXG S spI_len fun cdv A outer s H vs Q E hr h => ⟨_, by rw [hb]; exact pss_app (h1 cdv A outer s H E hr) (h2 cdv A outer s H E hr), init_run h⟩
end
end VL
set_option Elab.async false
set_option linter.all false
set_option maxRecDepth 100000
/-! VL26: x[i], y[j] = a tuple, x and y names' own lists. -/
namespace VL
open PySem PySem.Spec PyProof.Rows L2
def gSubs : List (Nat × Int) → TGs
  | [] => gNil
  | (i, k) :: r => gCons (gSub (tVar i) (tC (.int k)) rSetL) (gSubs r)
def putsIx : List (Nat × Int) → List PyData → SE → Option SE
  | [], [], ρ => some ρ
  | (i, k) :: r, x :: xs, ρ => match ownAt ρ i with
    | some ys => match ixN ys.length k with
      | some j => putsIx r xs (ρ.set i (some (SV.own (ys.set j x))))
      | none => none
    | none => none
  | _, _, _ => none
theorem gSubs_ok {K : PySem.W.Frag} {G0 G : Gh} {H0 : Hp} {σ : St} {ρ' : SE} {Q : St → Hp → Prop} : ∀ (its : List (Nat × Int)) {xs : List PyData} {vs : List V} {ρ : SE} {H : Hp}, Rep K G0 H0 G ρ σ H → RpAll K G.F H vs xs → putsIx its xs ρ = some ρ' →
    (∀ H', Rep K G0 H0 G ρ' σ H' → Keep K G.F H G.F H' → Q σ H') → gSubs its vs σ H Q
  | [], _, _, ρ, H, R, .nil, e, q => by
    unfold putsIx at e
    cases e
    exact ⟨rfl, q H R .refl⟩
  | [], _, _, _, _, _, .cons _ _, e, _ => by unfold putsIx at e; cases e
  | _ :: _, _, _, _, _, _, .nil, e, _ => by unfold putsIx at e; cases e
  | (i, k) :: r, _, _, ρ, H, R, @RpAll.cons _ _ _ v vs x xs h hs, e, q => by
    unfold putsIx at e
    split at e
    · rename_i ys eo
      split at e
      · rename_i j ej
        obtain ⟨o, e1, a, us, rfl, h1, h2, _⟩ := R.slot i _ (ownAt_some eo)
        obtain ⟨R4, E4⟩ := R.mut (vs := us) (ownAt_some eo) e1 (h2.set h j)
        have kk := E4.keeps R
        exact ⟨v, vs, rfl, .ref a, e1, a, us, k, j, rfl, rfl, h1, by rw [h2.length]; exact ej, gSubs_ok r R4 (hs.keep kk) e fun H' R' k' => q H' R' (kk.trans k')⟩
      · cases e
    · cases e
section
variable {X : Cx} {xk : XK}
def wSetT (its : List (Nat × Int)) (we : EW) : SW := fun ρ P E => we ρ (fun tv ρ1 => ∃ xs ρ2, tv = .d (.tuple xs) ∧ xs.length = its.length ∧ putsIx its xs ρ1 = some ρ2 ∧ P.nx ρ2) E
theorem vs_setT {st : Stmt} {its : List (Nat × Int)} {we : EW} (h : PS X st (tAsg (rdE X.K xk we) (gTup X.K its.length (gSubs its)))) : VS X xk st (wSetT its we) := h.imp fun D σ H ⟨G0, H0, G, ρ, P, Ev, S, R, xl, hw, l, sb, sg⟩ =>
  ⟨G0, H0, G, ρ, _, Ev, R, xl, hw, fun tv ρ1 G1 H1 v R1 E1 rt ⟨xs, ρ2, etv, el, ep, p⟩ => by
    subst etv
    obtain ⟨b, vs, ev, hs, hv⟩ := (Rp.rq (show Rp X.K G1.F H1 v (.tuple xs) from rt)).tup
    subst ev
    exact ⟨b, vs, rfl, hs, by rw [hv.length]; exact el, gSubs_ok its R1 hv ep fun H' R' k' => l.nx _ G1 σ _ R' (sb _ _ _ _ ((E1.keeps R).trans k') sg) p⟩⟩
theorem spV_mono {K : PySem.W.Frag} {sp : VSp} {vs : List V} {H : Hp} {Q Q' : L2.VK} {E : XK} (h : spV K sp vs H Q E) (q : ∀ v H', Q v H' → Q' v H') : spV K sp vs H Q' E := by
  obtain ⟨G0, svs, Qv, Ev, a, b, c, d, k⟩ := h
  exact ⟨G0, svs, Qv, Ev, a, b, c, d, fun tv G' H' v e rt z => q _ _ (k tv G' H' v e rt z)⟩
/-- a == b by the class's own __eq__ -/
theorem op_eqS {CX : CXT} {k : Nat} {f C : Addr} {fd : FuncData} {ps : List Str} {sp : VSp} {E : XK} (F : FnG X.prog X.w X.K X.mg X.base CX k f fd ps (spV X.K sp)) (hr : RoomG k X.A) (hs : PySem.W.findIn X.K (.ref C) "__eq__" = some (some (.ref f))) (hf : PySem.W.isFn X.K (.ref f) = true) (hb : Binds X.K fd ps []) (hx : ∀ σ, PassesAt CX X σ E) :
    OpR X (compareOp .Eq) (rEqO X.K C sp false E) := opr_imp (op_eqO F hr hs hf hb hx) fun x y H Q ⟨a, dx, fs, tb, e, h1, ty, hn, h⟩ => ⟨a, dx, fs, tb, e, h1, ty, hn, spV_mono h fun v H' ⟨b, eb, q⟩ => ⟨b, eb, by subst eb; exact q⟩⟩
/-- try: x = e; .. except .. -/
theorem vs_tryAA {body : List Stmt} {h₀ : ExceptHandler} {hds : List ExceptHandler} {pos : Pos} {i : Nat} {we : EW} {wr : SW} {hs : List Clv} (tk : Takes X (fun cls d _ H => xk cls d H)) (hb : ∀ (W : WX) (pn : List (Addr × Obj)) (xe : Value → Shared → Prop), Takes (X.tr pn xe) W → PassesOwn (model X.prog X.w) X.A X.env xe →
      PSs (X.tr pn xe) body (tSeq (tAsg (rdES X.K W we) (gName i)) (rdS X.K E0 wr)))
    (hh : HdsA X (h₀ :: hds) (rdC X.K hs)) (hst : X.stack = X.env :: X.outer) (hf : X.env.frame = some X.env.locals) (hN : X.N.Nodup) : VS X xk (.Try body (h₀ :: hds) [] [] pos) (wTryA X.K i we wr hs) :=
  vs_tryA (ps_try_asm (tb := fun W => tSeq (tAsg (rdES X.K W we) (gName i)) (rdS X.K E0 wr)) hst hf hN tk hb hh)
theorem vs_tryEE {body : List Stmt} {h₀ : ExceptHandler} {hds : List ExceptHandler} {pos : Pos} {we : EW} {wr : SW} {hs : List Clv} (tk : Takes X (fun cls d _ H => xk cls d H)) (hb : ∀ (W : WX) (pn : List (Addr × Obj)) (xe : Value → Shared → Prop), Takes (X.tr pn xe) W → PassesOwn (model X.prog X.w) X.A X.env xe →
      PSs (X.tr pn xe) body (tSeq (tDrop (rdES X.K W we)) (rdS X.K E0 wr)))
    (hh : HdsA X (h₀ :: hds) (rdC X.K hs)) (hst : X.stack = X.env :: X.outer) (hf : X.env.frame = some X.env.locals) (hN : X.N.Nodup) : VS X xk (.Try body (h₀ :: hds) [] [] pos) (wTryE X.K we wr hs) :=
  vs_tryE (ps_try_asm (tb := fun W => tSeq (tDrop (rdES X.K W we)) (rdS X.K E0 wr)) hst hf hN tk hb hh)
end
/-- keywords alone -/
def pk0 (perm : List Nat) {α : Type} : List α → List α → List α
  | [], zs => pick perm zs
  | _ :: _, _ => []
theorem ve_callKP {X : Cx} {xk : XK} {e : Expr} {sp : VSp} {perm : List Nat} {wK : AW} (h : PE X e (tCallKG (spV X.K sp) (pk0 perm) (fun _ => xk) L2.tNil (rdA X.K xk wK))) : VE X xk e (wCallK sp perm wNil wK) := ve_callK0 (h.imp fun _ _ _ q => q)
end VL
set_option Elab.async false
set_option linter.all false
set_option maxRecDepth 100000
set_option maxHeartbeats 1000000
/-! VL27: comprehensions of two generators; the place of an item. -/
namespace VL
open PySem PySem.Spec PyProof.Rows L2
def wLcL2 (t : Tg) (vs : List Nat) (bt : BW) (t1 : Tg) (vs1 : List Nat) (wi1 : IW) (bt1 : BW) (we : EW) (ρ : SE) (Q : List PyData → Prop) : List PyData → List PyData → Prop
  | [], acc => Q acc
  | x :: xs, acc => ∃ ρ1, t.put x (wipeS ρ vs) = some ρ1 ∧ bt ρ1 (fun b ρ2 => ρ2 = ρ1 ∧ if b = true then wi1 ρ1 (fun items ρ3 => ρ3 = ρ1 ∧ wLcL t1 vs1 bt1 we ρ1 (fun acc => wLcL2 t vs bt t1 vs1 wi1 bt1 we ρ Q xs acc) items acc) (fun _ => False)
      else wLcL2 t vs bt t1 vs1 wi1 bt1 we ρ Q xs acc) (fun _ => False)
def wLc2 (t : Tg) (vs : List Nat) (wi : IW) (bt : BW) (t1 : Tg) (vs1 : List Nat) (wi1 : IW) (bt1 : BW) (we : EW) : EW := fun ρ Q E => wi ρ (fun items ρ1 => wLcL2 t vs bt t1 vs1 wi1 bt1 we ρ1 (fun acc => Q (.fresh acc) ρ1) items []) E
section
variable {K : PySem.W.Frag} {xk : XK} {t t1 : Tg} {g g1 : TG} {vs vs1 : List Nat} {wi wi1 : IW} {bt bt1 : BW} {we : EW}
theorem drop_at {xs : List PyData} {i : Nat} {d : PyData} (hi : i < xs.length) (ed : xs[i]? = some d) : xs.drop i = d :: xs.drop (i + 1) := by
  rw [List.drop_eq_getElem_cons hi]
  congr 1
  have := List.getElem?_eq_getElem hi
  rw [ed] at this
  exact (Option.some.inj this).symm
theorem lc2_core (hg : GR K g t) (hv : ∀ j ∈ t.slots, j ∈ vs) (hg1 : GR K g1 t1) (hv1 : ∀ j ∈ t1.slots, j ∈ vs1) {σ : St} {H : Hp} {Q : L2.VK} (h : rdE K xk (wLc2 t vs wi bt t1 vs1 wi1 bt1 we) σ H Q) :
    tLc2 (rdI K xk wi) g (rdB K E0 bt) (rdI K E0 wi1) g1 (rdB K E0 bt1) (rdE K E0 we) vs vs1 σ H Q := by
  obtain ⟨G0, H0, G, ρ, Qv, Ev, R, xl, hw, q⟩ := h
  refine ⟨G0, H0, G, ρ, _, Ev, R, xl, hw, fun items ρ1 G1 H1 J R1 E1 ok q1 => ?_⟩
  intro D hD
  have g0 : Grow H1 (upd H1 D (.lst [])) := .upd hD
  have nf : ¬ G1.F D := fun z => by
    obtain ⟨o, e⟩ := R1.ext.ft D z
    rw [hD] at e
    cases e
  have nd : G1.D D = 0 := by
    by_cases z : G1.D D = 0
    · exact z
    · obtain ⟨xs, e⟩ := R1.ext.di.some z
      rw [hD] at e
      cases e
  have no : ¬ Own ρ1 σ D := fun z => by
    obtain ⟨ls, e, _⟩ := R1.own_some z
    rw [hD] at e
    cases e
  have n0 : H0 D = none := R1.ext.none0 hD
  refine ⟨fun i m H' => i + m = items.length ∧ ∃ G' acc, Rep K G0 H0 G' ρ1 σ H' ∧ Evo ρ σ G H ρ1 G' H' ∧ Keep K G1.F H1 G'.F H' ∧ Mkg K G' ρ1 σ H0 H' D acc ∧ wLcL2 t vs bt t1 vs1 wi1 bt1 we ρ1 (fun acc => Qv (.fresh acc) ρ1) (items.drop i) acc,
    ⟨items.length, by omega, G1, [], R1.grow g0, E1.trans g0.evo, g0.keep, ⟨⟨[], upd_same, .nil⟩, nf, nd, no, n0⟩, q1⟩, ?_⟩
  rintro i m H' ⟨hm, G', acc, R', E', k', mk, hq⟩
  obtain ⟨ok1, ok2, ok3⟩ := ok _ _ k'
  by_cases hi : i < items.length
  · refine .inr ⟨ok1 i hi, fun H2 => ∃ G2 acc2, Rep K G0 H0 G2 ρ1 σ H2 ∧ Evo ρ σ G H ρ1 G2 H2 ∧ Keep K G1.F H1 G2.F H2 ∧ Mkg K G2 ρ1 σ H0 H2 D acc2 ∧ wLcL2 t vs bt t1 vs1 wi1 bt1 we ρ1 (fun acc => Qv (.fresh acc) ρ1) (items.drop (i + 1)) acc2,
      fun H2 ⟨G2, acc2, r⟩ => ⟨m - 1, by omega, by omega, G2, acc2, r⟩, fun x H'' y => ?_⟩
    obtain ⟨d, ed, gr, rp⟩ := ok3 i x H'' y hi
    rw [drop_at hi ed] at hq
    obtain ⟨ρ3, ep, hb⟩ := hq
    have R2 := R'.grow gr
    have mk2 := mk.evo gr.evo R'
    have E2 := E'.trans gr.evo
    have k2 : Keep K G1.F H1 G'.F H'' := k'.trans gr.keep
    refine hg.run G0 H0 G' (wipeS ρ1 vs) (wipe σ vs) H'' x d ρ3 _ R2.wipe rp ep fun σ3 R3 s3 => ?_
    have lenσ : σ3.length = σ.length := by rw [← R3.len, put_len ep, wipeS_len, R1.len]
    have b : Blk ρ1 σ vs ρ3 σ3 := ⟨fun j hj => by rw [put_out ep fun z => hj (hv j z), wipeS_out hj], fun j hj => by rw [s3 j fun z => hj (hv j z), wipe_outH hj], fun j xs hj z => wipeS_in (put_d ep z) hj⟩
    refine ⟨wipe_eq lenσ fun j hj => b.σo j hj, ?_⟩
    refine ⟨G0, H0, G', ρ3, _, _, R3, e0_xl, hb, fun c ρ4 G4 H4 R4 E4 q4 => ?_⟩
    obtain ⟨e4, q4⟩ := q4
    subst e4
    obtain ⟨R5, E5⟩ := R2.back b R3 E4 R4
    have mk5 := mk2.evo E5 R2
    have k5 : Keep K G1.F H1 G4.F H4 := k2.trans (E5.keeps R2)
    cases c with
    | false => exact ⟨G4, acc, R5, E2.trans E5, k5, mk5, q4⟩
    | true =>
      refine ⟨G0, H0, G4, ρ4, _, _, R4, e0_xl, q4, fun items1 ρ6 G6 H6 J1 R6 E6 okI q6 => ?_⟩
      obtain ⟨e6, q6⟩ := q6
      subst e6
      obtain ⟨R7, E7⟩ := R5.back b R4 E6 R6
      have mk7 := mk5.evo E7 R5
      have k7 : Keep K G1.F H1 G6.F H6 := k5.trans (E7.keeps R5)
      refine ⟨fun j k H' => j + k = items1.length ∧ ∃ G' acc, Rep K G0 H0 G' ρ1 σ H' ∧ Rep K G0 H0 G' ρ6 σ3 H' ∧ Evo ρ σ G H ρ1 G' H' ∧ Keep K G1.F H1 G'.F H' ∧ Keep K G6.F H6 G'.F H' ∧ Mkg K G' ρ1 σ H0 H' D acc ∧
          wLcL t1 vs1 bt1 we ρ6 (fun acc => wLcL2 t vs bt t1 vs1 wi1 bt1 we ρ1 (fun acc => Qv (.fresh acc) ρ1) (items.drop (i + 1)) acc) (items1.drop j) acc,
        ⟨items1.length, by omega, G6, acc, R7, R6, (E2.trans E5).trans E7, k7, .refl, mk7, q6⟩, ?_⟩
      rintro j k H7 ⟨hm1, G8, acc8, Ro, Ri, Eo, ko, ki, mk8, hq8⟩
      obtain ⟨a1, a2, a3⟩ := okI _ _ ki
      by_cases hj : j < items1.length
      · refine .inr ⟨a1 j hj, fun H2 => ∃ G2 acc2, Rep K G0 H0 G2 ρ1 σ H2 ∧ Rep K G0 H0 G2 ρ6 σ3 H2 ∧ Evo ρ σ G H ρ1 G2 H2 ∧ Keep K G1.F H1 G2.F H2 ∧ Keep K G6.F H6 G2.F H2 ∧ Mkg K G2 ρ1 σ H0 H2 D acc2 ∧
            wLcL t1 vs1 bt1 we ρ6 (fun acc => wLcL2 t vs bt t1 vs1 wi1 bt1 we ρ1 (fun acc => Qv (.fresh acc) ρ1) (items.drop (i + 1)) acc) (items1.drop (j + 1)) acc2,
          fun H2 ⟨G2, acc2, r⟩ => ⟨k - 1, by omega, by omega, G2, acc2, r⟩, fun x1 H8 y1 => ?_⟩
        obtain ⟨d1, ed1, gr1, rp1⟩ := a3 j x1 H8 y1 hj
        rw [drop_at hj ed1] at hq8
        obtain ⟨ρ9, ep1, hb1⟩ := hq8
        have Ro2 := Ro.grow gr1
        have Ri2 := Ri.grow gr1
        have mk9 := mk8.evo gr1.evo Ro
        have Eo2 := Eo.trans gr1.evo
        have ko2 := ko.trans gr1.keep
        have ki2 := ki.trans gr1.keep
        refine hg1.run G0 H0 G8 (wipeS ρ6 vs1) (wipe σ3 vs1) H8 x1 d1 ρ9 _ Ri2.wipe rp1 ep1 fun σ9 R9 s9 => ?_
        have lenσ9 : σ9.length = σ3.length := by rw [← R9.len, put_len ep1, wipeS_len, R6.len]
        have b1 : Blk ρ6 σ3 vs1 ρ9 σ9 := ⟨fun j hj => by rw [put_out ep1 fun z => hj (hv1 j z), wipeS_out hj], fun j hj => by rw [s9 j fun z => hj (hv1 j z), wipe_outH hj], fun j xs hj z => wipeS_in (put_d ep1 z) hj⟩
        refine ⟨wipe_eq lenσ9 fun j hj => b1.σo j hj, ?_⟩
        refine ⟨G0, H0, G8, ρ9, _, _, R9, e0_xl, hb1, fun c ρa Ga Ha Ra Ea qa => ?_⟩
        obtain ⟨ea, qa⟩ := qa
        subst ea
        obtain ⟨Rib, Eib⟩ := Ri2.back b1 R9 Ea Ra
        obtain ⟨Rob, Eob⟩ := Ro2.back b Ri2 Eib Rib
        have mkb := mk9.evo Eob Ro2
        have kob := ko2.trans (Eob.keeps Ro2)
        have kib := ki2.trans (Eib.keeps Ri2)
        cases c with
        | false => exact ⟨Ga, acc8, Rob, Rib, Eo2.trans Eob, kob, kib, mkb, qa⟩
        | true =>
          refine ⟨G0, H0, Ga, ρa, _, _, Ra, e0_xl, qa, fun tv ρc Gc Hc v Rc Ec rt qc => ?_⟩
          obtain ⟨ec, y, ef, hz, qc⟩ := qc
          subst ec
          obtain ⟨Gd, f⟩ := frz_ok Rc (fun a h => Rob.ext.none0 h) rt ef
          have Ed : Evo ρc σ9 Ga Ha ρc Gd Hc := f.evo Ec
          obtain ⟨Rid, Eid⟩ := Rib.back b1 Ra Ed f.rep
          obtain ⟨Rod, Eod⟩ := Rob.back b Rib Eid Rid
          have mkd := mkb.evo Eod Rob
          have kod := kob.trans (Eod.keeps Rob)
          have kid := kib.trans (Eid.keeps Rib)
          obtain ⟨⟨ws, hw1, hw2⟩, nfd, ndd, nod, n0d⟩ := id mkd
          refine ⟨ws, hw1, by rw [hw2.length]; exact hz, ?_⟩
          obtain ⟨Roe, mke, koe⟩ := Rod.grown mkd (hw2.append (.cons f.is .nil))
          have mki : Mkg K Gd ρ6 σ3 H0 Hc D acc8 := ⟨⟨ws, hw1, hw2⟩, nfd, ndd, fun z => nod (b.own z), n0d⟩
          obtain ⟨Rie, _, kie⟩ := Rid.grown mki (hw2.append (.cons f.is .nil))
          refine ⟨Gd, acc8 ++ [y], Roe, Rie, ?_, kod.trans koe, kid.trans kie, mke, qc⟩
          have E8' := (Eo2.trans Eob).trans Eod
          refine ⟨fun a o h n d => ?_, fun a o h => ?_, E8'.fsub, E8'.fnew, E8'.dsub, E8'.dnew, E8'.own, E8'.len⟩
          · have : a ≠ D := fun z => by
              rw [z] at h
              rw [E1.none hD] at h
              cases h
            rw [upd_ne this]
            exact E8'.keep a o h n d
          · by_cases z : a = D
            · exact ⟨_, by rw [z]; exact upd_same⟩
            · rw [upd_ne z]
              exact E8'.there a o h
      · have hj' : items1.length ≤ j := Nat.le_of_not_lt hj
        rw [List.drop_eq_nil_of_le hj'] at hq8
        exact .inl ⟨a2 j hj', G8, acc8, Ro, Eo, ko, mk8, hq8⟩
  · have hi' : items.length ≤ i := Nat.le_of_not_lt hi
    refine .inl ⟨ok2 i hi', ?_⟩
    rw [List.drop_eq_nil_of_le hi'] at hq
    obtain ⟨⟨ws, hw1, hw2⟩, nf, nd, no, n0⟩ := mk
    exact q (.fresh acc) ρ1 G' H' (.ref D) R' E' ⟨D, ws, rfl, hw1, hw2, nf, nd, no, E1.none hD⟩ hq
end
section
variable {X : Cx} {xk : XK} {wi wi1 : IW} {t t1 : Tg} {bt bt1 : BW} {we : EW}
theorem ve_lc2 {elt tg iter tg1 iter1 : Expr} {ifs ifs1 : List Expr} {scope : Scope} {own : List (Str × Nat)} {vs1 : List Nat} {pos : Pos} (hc : X.calm = true) (hN : X.N.Nodup) (hi : VI X xk tg iter wi) (ok : BlkOk X.N X.env.scope scope own) (hv : ∀ j ∈ t.slots, j ∈ own.map (·.2)) (hv1 : ∀ j ∈ t1.slots, j ∈ vs1) (hvs : ∀ i ∈ vs1, i ∈ own.map (·.2))
    (hg : ∀ (s : Shared) (H : Hp) (C : Addr) (cl : List (Str × Addr)) (fp : List Addr), PG (X.blk s H scope (compEnvC scope cl C X.env) fp) tg (tgG X.K t))
    (ht : ∀ (s : Shared) (H : Hp) (C : Addr) (cl : List (Str × Addr)) (fp : List Addr), VTs (X.blk s H scope (compEnvC scope cl C X.env) fp) E0 ifs bt)
    (hi1 : ∀ (s : Shared) (H : Hp) (C : Addr) (cl : List (Str × Addr)) (fp : List Addr), VI (X.blk s H scope (compEnvC scope cl C X.env) fp) E0 tg1 iter1 wi1)
    (hg1 : ∀ (s : Shared) (H : Hp) (C : Addr) (cl : List (Str × Addr)) (fp : List Addr), PG (X.blk s H scope (compEnvC scope cl C X.env) fp) tg1 (tgG X.K t1))
    (ht1 : ∀ (s : Shared) (H : Hp) (C : Addr) (cl : List (Str × Addr)) (fp : List Addr), VTs (X.blk s H scope (compEnvC scope cl C X.env) fp) E0 ifs1 bt1)
    (he : ∀ (s : Shared) (H : Hp) (C : Addr) (cl : List (Str × Addr)) (fp : List Addr), VE (X.blk s H scope (compEnvC scope cl C X.env) fp) E0 elt we) (hs : ∀ x, foldedSetIterable iter X.env x = pure x := by intro _; rfl) (hs1 : ∀ env x, foldedSetIterable iter1 env x = pure x := by intro _ _; rfl) :
    VE X xk (.ListComp elt [⟨tg, iter, ifs, 0⟩, ⟨tg1, iter1, ifs1, 0⟩] scope pos) (wLc2 t (own.map (·.2)) wi bt t1 vs1 wi1 bt1 we) :=
  (pe_lc2 (wi := rdI X.K xk wi) (tt := rdB X.K E0 bt) (wi1 := rdI X.K E0 wi1) (tt1 := rdB X.K E0 bt1) (te := rdE X.K E0 we) hc hN hi ok hvs hg (fun s H C cl fp => ht s H C cl fp) (fun s H C cl fp => hi1 s H C cl fp) hg1 (fun s H C cl fp => ht1 s H C cl fp) (fun s H C cl fp => he s H C cl fp) hs hs1).imp fun _ _ _ h => VL.lc2_core (gr_all t) hv (gr_all t1) hv1 h
theorem vs_setLc2 {i : Nat} {y : Str} {py : Pos} {elt tg iter tg1 iter1 : Expr} {ifs ifs1 : List Expr} {scope : Scope} {own : List (Str × Nat)} {vs1 : List Nat} {pos spos : Pos} (hc : X.calm = true) (hN : X.N.Nodup) (hy : X.N[i]? = some y) (hyl : X.env.scope.names.lookup y = some .local)
    (hsw : swapsWith (.ListComp elt [⟨tg, iter, ifs, 0⟩, ⟨tg1, iter1, ifs1, 0⟩] scope pos) (some (.Name y py)) spos.line X.env = pure true) (hi : VI X xk tg iter wi) (ok : BlkOk X.N X.env.scope scope own) (hv : ∀ j ∈ t.slots, j ∈ own.map (·.2)) (hv1 : ∀ j ∈ t1.slots, j ∈ vs1) (hvs : ∀ i ∈ vs1, i ∈ own.map (·.2))
    (hg : ∀ (s : Shared) (H : Hp) (C : Addr) (cl : List (Str × Addr)) (fp : List Addr), PG (X.blk s H scope (compEnvC scope cl C X.env) fp) tg (tgG X.K t))
    (ht : ∀ (s : Shared) (H : Hp) (C : Addr) (cl : List (Str × Addr)) (fp : List Addr), VTs (X.blk s H scope (compEnvC scope cl C X.env) fp) E0 ifs bt)
    (hi1 : ∀ (s : Shared) (H : Hp) (C : Addr) (cl : List (Str × Addr)) (fp : List Addr), VI (X.blk s H scope (compEnvC scope cl C X.env) fp) E0 tg1 iter1 wi1)
    (hg1 : ∀ (s : Shared) (H : Hp) (C : Addr) (cl : List (Str × Addr)) (fp : List Addr), PG (X.blk s H scope (compEnvC scope cl C X.env) fp) tg1 (tgG X.K t1))
    (ht1 : ∀ (s : Shared) (H : Hp) (C : Addr) (cl : List (Str × Addr)) (fp : List Addr), VTs (X.blk s H scope (compEnvC scope cl C X.env) fp) E0 ifs1 bt1)
    (he : ∀ (s : Shared) (H : Hp) (C : Addr) (cl : List (Str × Addr)) (fp : List Addr), VE (X.blk s H scope (compEnvC scope cl C X.env) fp) E0 elt we) (hs : ∀ x, foldedSetIterable iter X.env x = pure x := by intro _; rfl) (hs1 : ∀ env x, foldedSetIterable iter1 env x = pure x := by intro _ _; rfl) :
    VS X xk (.Assign [.Name y py] (.ListComp elt [⟨tg, iter, ifs, 0⟩, ⟨tg1, iter1, ifs1, 0⟩] scope pos) spos) (wSet i (wLc2 t (own.map (·.2)) wi bt t1 vs1 wi1 bt1 we)) :=
  vs_set ((ps_setLc2 (wi := rdI X.K xk wi) (tt := rdB X.K E0 bt) (wi1 := rdI X.K E0 wi1) (tt1 := rdB X.K E0 bt1) (te := rdE X.K E0 we) hc hN hy hyl hsw hi ok hvs hg (fun s H C cl fp => ht s H C cl fp) (fun s H C cl fp => hi1 s H C cl fp) hg1 (fun s H C cl fp => ht1 s H C cl fp) (fun s H C cl fp => he s H C cl fp) hs hs1).imp fun D σ H h => VL.lc2_core (gr_all t) hv (gr_all t1) hv1 h)
/-- xs.index(y): the first place -/
def wIndex (wo : EW) (wA : AW) : EW := fun ρ Q E => wo ρ (fun tx ρ1 => (∃ d0, res ρ1 tx = some (.list d0)) ∧ wA ρ1 (fun tvs ρ2 => ∃ ds d j z, res ρ2 tx = some (.list ds) ∧ resAll ρ2 tvs = some [d] ∧ SeqAt.shaped (.list ds) = true ∧ SeqAt.shaped d = true ∧ ds[j]? = some z ∧ PyData.eqv z d = true ∧ (∀ (m : Nat) (z' : PyData), m < j → ds[m]? = some z' → PyData.eqv z' d = false) ∧ Q (.d (.int (j : Nat))) ρ2) E) E
theorem ve_index {e : Expr} {wo : EW} {wA : AW} (h : PE X e (tBM X.K "list" (rIndexD X.K) (rdE X.K xk wo) (rdA X.K xk wA))) : VE X xk e (wIndex wo wA) :=
  h.imp fun σ H Q ⟨G0, H0, G, ρ, Qv, Ev, R, xl, hw, q⟩ =>
    ⟨G0, H0, G, ρ, _, Ev, R, xl, hw, fun tx ρ1 G1 H1 v R1 E1 rt ⟨⟨d0, er0⟩, q1⟩ => by
      have rq0 := rt.rq R1 er0
      obtain ⟨a, vs, ev, h1, h2⟩ := id rq0
      subst ev
      refine ⟨.inl ⟨rfl, _, .inl (.inl h1)⟩, G0, H0, G1, ρ1, _, Ev, R1, xl, q1, fun tys ρ2 G2 H2 ws R2 E2 rts q2 => ?_⟩
      obtain ⟨ds, d, j, z, er, ea, s1, s2, hz, he, hno, q2⟩ := q2
      have rq2 := (rt.evo E2 R1).rq R2 er
      obtain ⟨a', vs', ea', g1, g2⟩ := id rq2
      cases ea'
      cases resAll_ok R2 rts ea with
      | cons ry rr =>
        cases rr
        exact ⟨a, _, d, ds, j, z, rfl, rfl, rq2.dp, ry.dp, s1, s2, hz, he, hno, q (.d (.int (j : Nat))) ρ2 G2 H2 (.int (j : Nat)) R2 (E1.trans E2) (show Rp _ _ _ _ _ from .int _) q2⟩⟩
end
/-- i, j, l = three values -/
def par3 (i j l : Nat) (P : Po) : List TV → SE → Prop
  | [ta, tb, tc], ρ => ∃ sa sb sc, (∀ k, ta ≠ .bor k) ∧ (∀ k, tb ≠ .bor k) ∧ (∀ k, tc ≠ .bor k) ∧ sto ρ ta = some (sa, ρ) ∧ sto ρ tb = some (sb, ρ) ∧ sto ρ tc = some (sc, ρ) ∧ P.nx (((ρ.set i (some sa)).set j (some sb)).set l (some sc))
  | _, _ => False
def wPar3 (i j l : Nat) (wa wb wc : EW) : SW := fun ρ P E => wCons wa (wCons wb (wCons wc wNil)) ρ (par3 i j l P) E
theorem vs_par3 {X : Cx} {xk : XK} {st : Stmt} {wa wb wc : EW} {i j l : Nat} (h : PS X st (tPar3 i j l (rdA X.K xk (wCons wa (wCons wb (wCons wc wNil)))))) : VS X xk st (wPar3 i j l wa wb wc) := h.imp fun D σ H ⟨G0, H0, G, ρ, P, Ev, S, R, xl, hw, lk, sb, sg⟩ => by
  refine ⟨G0, H0, G, ρ, par3 i j l P, Ev, R, xl, hw, fun tvs ρ2 G2 H2 vs R2 E2 rts q => ?_⟩
  match tvs, rts, q with
  | [ta, tb, tc], rts, q =>
    obtain ⟨za, zb, zc, na, nb, nc, ea, eb, ec, q⟩ := q
    cases rts with
    | @cons _ va _ _ ra rts' dd =>
      cases rts' with
      | @cons _ vb _ _ rb rts'' dd2 =>
        cases rts'' with
        | @cons _ vc _ _ rc rn _ =>
          cases rn
          have R3 := sto_rep (i := i) R2 (fun a h => R.ext.none0 h) na ra ea
          have rb' := rb.set (i := i) (sv := za) (v := va) R2 nb fun xs ys e1 e2 z => by
            subst e2
            exact dd ys (sto_own na ea) 0 xs (by rw [e1]; rfl) (by rw [z]; rfl)
          have rc' := rc.set (i := i) (sv := za) (v := va) R2 nc fun xs ys e1 e2 z => by
            subst e2
            exact dd ys (sto_own na ea) 1 xs (by rw [e1]; rfl) (by rw [z]; rfl)
          have R4 := sto_rep (i := j) R3 (fun a h => R.ext.none0 h) nb rb' (sto_same nb eb _)
          have rc2 := rc'.set (i := j) (sv := zb) (v := vb) R3 nc fun xs ys e1 e2 z => by
            subst e2
            exact dd2 ys (sto_own nb eb) 0 xs (by rw [e1]; rfl) (by rw [z]; rfl)
          have R5 := sto_rep (i := l) R4 (fun a h => R.ext.none0 h) nc rc2 (sto_same nc ec _)
          exact ⟨va, vb, vc, rfl, lk.nx _ G2 _ H2 R5 (sb _ _ _ _ (E2.keeps R) sg) q⟩
/-- x = y, y's own list from now on x's -/
def wMv (i j : Nat) : SW := fun ρ P _ => ∃ xs, ownAt ρ j = some xs ∧ P.nx ((ρ.set j none).set i (some (SV.own xs)))
theorem vs_mv {X : Cx} {xk : XK} {st : Stmt} {i j : Nat} (h : PS X st (tAsg (tVar j) (gName i))) : VS X xk st (wMv i j) := h.imp fun D σ H ⟨G0, H0, G, ρ, P, Ev, S, R, xl, ⟨xs, eo, q⟩, l, sb, sg⟩ => by
  have es := ownAt_some eo
  obtain ⟨v, e1, a, vs, ev, h1, h2, h3, h4⟩ := R.slot j _ es
  subst ev
  have no : ¬ Own (ρ.set j none) σ a := fun ⟨k, ys, q1, q2⟩ => by
    by_cases hk : k = j
    · subst hk
      by_cases hl : k < ρ.length
      · rw [List.getElem?_set_self hl] at q1; cases q1
      · rw [List.getElem?_eq_none (by rw [List.length_set]; omega)] at q1; cases q1
    · rw [List.getElem?_set_ne (Ne.symm hk)] at q1
      exact hk (R.inj k j ys xs a q1 es q2 e1)
  have R2 := (set_none R j).set (i := i) (sv := .own xs) (v := .ref a) ⟨a, vs, rfl, h1, h2, h3, h4⟩ fun _ b _ e => by
    cases e
    exact ⟨no, R.new a ⟨j, xs, es, e1⟩⟩
  exact ⟨.ref a, e1, l.nx _ G _ H R2 sg q⟩
/-- is, is not of bools -/
def dIsB : DOp := fun x y R => ∃ a b, x = .bool a ∧ y = .bool b ∧ R (.d (.bool (decide (a = b))))
def dNotB : DOp := fun x y R => ∃ a b, x = .bool a ∧ y = .bool b ∧ R (.d (.bool (!decide (a = b))))
theorem op_isBV {X : Cx} : OpV X (compareOp .Is) dIsB := opr_imp op_isBl fun x y H Q h => by
  obtain ⟨F, dx, dy, R, rx, ry, ⟨a, b, e1, e2, hg⟩, q⟩ := h
  subst e1 e2
  cases rx.bool
  cases ry.bool
  exact ⟨a, b, rfl, rfl, q _ _ _ hg .refl (show Rp _ _ _ _ _ from .bl _)⟩
theorem op_notBV {X : Cx} : OpV X (compareOp .IsNot) dNotB := opr_imp op_notBl fun x y H Q h => by
  obtain ⟨F, dx, dy, R, rx, ry, ⟨a, b, e1, e2, hg⟩, q⟩ := h
  subst e1 e2
  cases rx.bool
  cases ry.bool
  exact ⟨a, b, rfl, rfl, q _ _ _ hg .refl (show Rp _ _ _ _ _ from .bl _)⟩
end VL
set_option Elab.async false
set_option linter.all false
set_option maxRecDepth 100000
set_option maxHeartbeats 1000000
/-! VL28: ranges as lists and tuples; default arguments; keywords behind places; four names set at once; max. -/
namespace VL
open PySem PySem.Spec PyProof.Rows L2
theorem bt_max : bootBuiltins "max" = some (.builtin "max") := by decide +kernel
def dMax2 : DCall := fun xs R => match xs with
  | [.int i, .int j] => R (.d (.int (if j > i then j else i)))
  | _ => False
theorem call_max2V {X : Cx} (hc : X.calm = true) : CallV X (.builtin "max") dMax2 := callr_imp (call_max2 hc) fun vs H Q h => by
  obtain ⟨F, xs, R, rs, hg, q⟩ := h
  match xs, rs, hg with
  | [.int i, .int j], .cons r (.cons r' .nil), hg =>
    cases r.int
    cases r'.int
    exact ⟨i, j, rfl, q _ _ _ hg .refl (show Rp _ _ _ _ _ from .int _)⟩
/-! ### list(range(n)), tuple(range(n)) -/
theorem rp_ints {K : PySem.W.Frag} {F : Addr → Prop} {H : Hp} (f : Nat → Int) : ∀ l : List Nat, RpAll K F H (l.map fun i => V.int (f i)) (l.map fun i => PyData.int (f i))
  | [] => .nil
  | _ :: r => .cons (.int _) (rp_ints f r)
theorem rp_rng {K : PySem.W.Frag} {F : Addr → Prop} {H : Hp} (j : Int) : RpAll K F H (rgV 0 j) (rngD 0 j.toNat) := by
  unfold rgV rngD
  rw [Int.sub_zero]
  exact rp_ints (fun i => 0 + (i : Int)) _
section
variable {X : Cx} {xk : XK} {e : Expr} {we : EW}
def wLstRg (we : EW) : EW := fun ρ Q E => we ρ (fun tv ρ1 => ∃ j : Int, res ρ1 tv = some (.int j) ∧ -(2 ^ 62) ≤ j ∧ j ≤ 1000000 ∧ Q (.fresh (rngD 0 j.toNat)) ρ1) E
def wTupRg (we : EW) : EW := fun ρ Q E => we ρ (fun tv ρ1 => ∃ j : Int, res ρ1 tv = some (.int j) ∧ -(2 ^ 62) ≤ j ∧ j ≤ 1000000 ∧ Q (.d (.tuple (rngD 0 j.toNat))) ρ1) E
theorem ve_lstRg (h : PE X e (tLstRg (tRg1 (rdE X.K xk we)))) : VE X xk e (wLstRg we) := h.imp fun σ H Q ⟨G0, H0, G, ρ, Qv, Ev, R, xl, hw, q⟩ => ⟨G0, H0, G, ρ, _, Ev, R, xl, hw, fun tv ρ1 G1 H1 v R1 E1 rt ⟨j, er, j0, j1, q1⟩ => by
  cases (rt.rq R1 er).int
  refine ⟨j, rfl, ⟨by omega, by omega, j0, by omega, by omega⟩, fun p hp => ?_⟩
  have gr : Grow H1 (upd H1 p (.lst (rgV 0 j))) := .upd hp
  have nr : NR X.K G1.F H1 (upd H1 p (.lst (rgV 0 j))) (.fresh (rngD 0 j.toNat)) (.ref p) := ⟨p, _, rfl, hp, upd_same, rp_rng j⟩
  exact q (.fresh (rngD 0 j.toNat)) ρ1 G1 _ _ (R1.grow gr) (E1.trans gr.evo) (nr.rt R1 fun a h => E1.none h) q1⟩
theorem ve_tupRg (h : PE X e (tTupRg (tRg1 (rdE X.K xk we)))) : VE X xk e (wTupRg we) := h.imp fun σ H Q ⟨G0, H0, G, ρ, Qv, Ev, R, xl, hw, q⟩ => ⟨G0, H0, G, ρ, _, Ev, R, xl, hw, fun tv ρ1 G1 H1 v R1 E1 rt ⟨j, er, j0, j1, q1⟩ => by
  cases (rt.rq R1 er).int
  refine ⟨j, rfl, ⟨by omega, by omega, j0, by omega, by omega⟩, fun p hp => ?_⟩
  have gr : Grow H1 (upd H1 p (.tup (rgV 0 j))) := .upd hp
  exact q (.d (.tuple (rngD 0 j.toNat))) ρ1 G1 _ _ (R1.grow gr) (E1.trans gr.evo) (show Rp _ _ _ _ _ from .tup (.inl (.inl upd_same)) (rp_rng j)) q1⟩
end
/-! ### default arguments: None -/
theorem rdA_mono {K : PySem.W.Frag} {xk : XK} {wA : AW} {σ : St} {H : Hp} {Q Q' : List V → Hp → Prop} (h : rdA K xk wA σ H Q) (k : ∀ vs H', Q vs H' → Q' vs H') : rdA K xk wA σ H Q' := by
  obtain ⟨G0, H0, G, ρ, Qv, Ev, R, xl, hw, q⟩ := h
  exact ⟨G0, H0, G, ρ, Qv, Ev, R, xl, hw, fun tvs ρ' G' H' vs R' E' rts qv => k _ _ (q tvs ρ' G' H' vs R' E' rts qv)⟩
/-- one None more -/
def spD (f : VSp) : VSp := fun svs Qv Ev => f (svs ++ [.d .none]) Qv Ev
theorem spV_D {K : PySem.W.Frag} {f : VSp} {vs : List V} {H : Hp} {Q : L2.VK} {E : XK} (h : spV K (spD f) vs H Q E) : spV K f (vs ++ [.non]) H Q E := by
  obtain ⟨G0, svs, Qv, Ev, a, p, c, d⟩ := h
  have z : RS K G0 H (.d .none) .non ∧ (SV.d .none).free := ⟨show Rp K G0.F H V.non .none from .non, trivial⟩
  have c' : f (svs ++ [.d .none]) Qv Ev := c
  exact ⟨G0, svs ++ [.d .none], Qv, Ev, a, paired_app p (.cons z .nil), c', d⟩
section
variable {X : Cx} {xk : XK} {CX : CXT} {k : Nat} {f : Addr} {fd : FuncData} {ps ks : List Str} {x : Str} {p pos : Pos} {e : Expr} {es : List Expr} {kws : List Keyword} {sp : VSp} {wA wK : AW}
theorem ve_callD (F : FnG X.prog X.w X.K X.mg X.base CX k f fd ps (spV X.K sp)) (hr : RoomG k X.A) (hg : Gl X x) (hm : X.mg x = some (.ref f)) (hk : PySem.W.keepIn X.K (.ref f) = true) (hb : Binds X.K fd ps [.none]) (hx : ∀ σ, PassesAt CX X σ xk)
    (ha : VA X xk (e :: es) wA) (hdb : (x == ("__debug__" : Str)) = false := by decide) (he : starEach (e :: es) X.env = (false, eval e X.env) :: starEach es X.env := by rfl) (hpl : (backTo pos (starEach es X.env)).any (·.1) = false := by rfl) :
    VE X xk (.Call (.Name x p) (e :: es) [] pos) (wCall (spD sp) wA) := by
  refine ⟨fun pins s σ H Q I h => ?_⟩
  have h1 : rdA X.K xk wA σ H (fun vs H1 => spV X.K sp (vs ++ [.non]) H1 Q xk) := rdA_mono (call_core h) fun vs H' z => spV_D z
  refine wpAny_Call_Name_kw (ld_glob I hg hm ?_ hdb)
  refine PySem.W.callWith_K (h₀ := X.base) I.ok.mod.kin hk (thn (ha.run pos pins s σ H _ I h1) fun us s1 ⟨vs, H1, I1, r, q⟩ => ⟨I1.kIn, ?_⟩) he hpl
  have r2 : Vals (vs ++ [.non]) (us ++ [.none]) := r.append (.cons rfl .nil)
  exact call_G (E := fun _ => xk) F hr I1.env0 (hb s1 us I1.kIn (by rw [← r2.length]; exact F.len _ _ _ _ q)) (hx σ) I1 r2 q
/-- keywords alone, one None more -/
def pk0D (perm : List Nat) {α : Type} (d : α) : List α → List α → List α
  | [], zs => pick perm zs ++ [d]
  | _ :: _, _ => []
theorem tCallKG_D {K : PySem.W.Frag} {perm : List Nat} {σ : St} {H : Hp} {Q : L2.VK} (h : tCallKG (spV K (spD sp)) (fun vs zs => pick perm (vs ++ zs)) (fun _ => xk) L2.tNil (rdA K xk wK) σ H Q) : tCallKG (spV K sp) (pk0D perm .non) (fun _ => xk) L2.tNil (rdA K xk wK) σ H Q := by
  have h1 : rdA K xk wK σ H (fun zs H2 => spV K (spD sp) (pick perm ([] ++ zs)) H2 Q xk) := h
  have h2 : rdA K xk wK σ H (fun zs H2 => spV K sp (pk0D perm .non [] zs) H2 Q xk) := rdA_mono h1 fun zs H' z => spV_D z
  exact h2
theorem callK0_core {K : PySem.W.Frag} {perm : List Nat} {σ : St} {H : Hp} {Q : L2.VK} (h : rdE K xk (wCallK sp perm wNil wK) σ H Q) : tCallKG (spV K sp) (fun vs zs => pick perm (vs ++ zs)) (fun _ => xk) L2.tNil (rdA K xk wK) σ H Q := by
  obtain ⟨G0, H0, G, ρ, Qv, Ev, R, xl, q2⟩ := callK_core h
  exact q2.2 [] ρ G H [] R .refl .nil q2.1
theorem ve_callKPD {perm : List Nat} (h : PE X e (tCallKG (spV X.K sp) (pk0D perm .non) (fun _ => xk) L2.tNil (rdA X.K xk wK))) : VE X xk e (wCallK (spD sp) perm wNil wK) := h.imp fun _ _ _ q => tCallKG_D (callK0_core q)
/-- keywords behind n places -/
def pkN (n : Nat) (perm : List Nat) {α : Type} (vs zs : List α) : List α := if vs.length = n then pick perm (vs ++ zs) else []
def wCallKN (n : Nat) (sp : VSp) (perm : List Nat) (wA wK : AW) : EW := fun ρ Q E => wA ρ (fun tvs ρ1 => tvs.length = n ∧ wK ρ1 (fun zts ρ2 => ∃ svs, argsS ρ2 (pick perm (tvs ++ zts)) = some svs ∧ sp svs (fun tv => flatT tv = true ∧ Q tv ρ2) E) E) E
theorem ve_callKN {n : Nat} {perm : List Nat} (h : PE X e (tCallKG (spV X.K sp) (pkN n perm) (fun _ => xk) (rdA X.K xk wA) (rdA X.K xk wK))) : VE X xk e (wCallKN n sp perm wA wK) := h.imp fun σ H Q h => by
  obtain ⟨G0, H0, G, ρ, Qv, Ev, R, xl, hw, q⟩ := h
  refine ⟨G0, H0, G, ρ, _, Ev, R, xl, hw, fun tvs ρ1 G1 H1 vs R1 E1 rts ⟨hn, q1⟩ => ⟨G0, H0, G1, ρ1, _, Ev, R1, xl, q1, fun zts ρ2 G2 H2 zs R2 E2 rzs q2 => ?_⟩⟩
  obtain ⟨svs, ea, hs⟩ := q2
  have hl : vs.length = n := by rw [← rts.paired.length]; exact hn
  have p1 : Paired (fun tv v => RT X.K H G2 ρ2 σ H2 tv v) tvs vs := rtsEvo E2 R1 rts.paired
  have p2 : Paired (fun tv v => RT X.K H G2 ρ2 σ H2 tv v) zts zs := (rzs.back fun a h => E1.none h).paired
  show spV X.K sp (if vs.length = n then pick perm (vs ++ zs) else []) H2 Q xk
  rw [if_pos hl]
  refine sp_coreP (Hs := H) (Qv := fun tv => Qv tv ρ2) R2 xl (paired_pick (paired_app p1 p2) perm) ea hs fun tv G' H' v R3 E3 rt q3 => ?_
  exact q tv ρ2 G' H' v R3 ((E1.trans E2).trans E3) (rt.back fun a h => (E1.trans E2).none h) q3
end
/-! ### four names at once: a tuple made and taken apart -/
def par4 (i j l n : Nat) (P : Po) : List TV → SE → Prop
  | [ta, tb, tc, td], ρ => ∃ sa sb sc sd, (∀ k, ta ≠ .bor k) ∧ (∀ k, tb ≠ .bor k) ∧ (∀ k, tc ≠ .bor k) ∧ (∀ k, td ≠ .bor k) ∧ sto ρ ta = some (sa, ρ) ∧ sto ρ tb = some (sb, ρ) ∧ sto ρ tc = some (sc, ρ) ∧ sto ρ td = some (sd, ρ) ∧ P.nx ((((ρ.set i (some sa)).set j (some sb)).set l (some sc)).set n (some sd))
  | _, _ => False
def wPar4 (i j l n : Nat) (wa wb wc wd : EW) : SW := fun ρ P E => wCons wa (wCons wb (wCons wc (wCons wd wNil))) ρ (par4 i j l n P) E
theorem vs_par4 {X : Cx} {xk : XK} {st : Stmt} {wa wb wc wd : EW} {i j l n : Nat} (h : PS X st (tAsg (tTup (rdA X.K xk (wCons wa (wCons wb (wCons wc (wCons wd wNil)))))) (gTup X.K 4 (gCons (gName i) (gCons (gName j) (gCons (gName l) (gCons (gName n) gNil))))))) : VS X xk st (wPar4 i j l n wa wb wc wd) := h.imp fun D σ H ⟨G0, H0, G, ρ, P, Ev, S, R, xl, hw, lk, sb, sg⟩ => by
  refine ⟨G0, H0, G, ρ, par4 i j l n P, Ev, R, xl, hw, fun tvs ρ2 G2 H2 vs R2 E2 rts q => ?_⟩
  match tvs, rts, q with
  | [ta, tb, tc, td], rts, q =>
    obtain ⟨za, zb, zc, zd, na, nb, nc, nd, ea, eb, ec, ed, q⟩ := q
    cases rts with
    | @cons _ va _ _ ra rts' dd =>
      cases rts' with
      | @cons _ vb _ _ rb rts'' dd2 =>
        cases rts'' with
        | @cons _ vc _ _ rc rts3 dd3 =>
          cases rts3 with
          | @cons _ vd _ _ rd rn _ =>
            cases rn
            refine ⟨by show 4 ≤ sizeLine; decide, fun p hp => ?_⟩
            have gr : Grow H2 (upd H2 p (.tup [va, vb, vc, vd])) := .upd hp
            have Rg := R2.grow gr
            have ra := ra.evo gr.evo R2
            have rb := rb.evo gr.evo R2
            have rc := rc.evo gr.evo R2
            have rd := rd.evo gr.evo R2
            have R3 := sto_rep (i := i) Rg (fun a h => R.ext.none0 h) na ra ea
            have rb' := rb.set (i := i) (sv := za) (v := va) Rg nb fun xs ys e1 e2 z => by
              subst e2
              exact dd ys (sto_own na ea) 0 xs (by rw [e1]; rfl) (by rw [z]; rfl)
            have rc' := rc.set (i := i) (sv := za) (v := va) Rg nc fun xs ys e1 e2 z => by
              subst e2
              exact dd ys (sto_own na ea) 1 xs (by rw [e1]; rfl) (by rw [z]; rfl)
            have rd' := rd.set (i := i) (sv := za) (v := va) Rg nd fun xs ys e1 e2 z => by
              subst e2
              exact dd ys (sto_own na ea) 2 xs (by rw [e1]; rfl) (by rw [z]; rfl)
            have R4 := sto_rep (i := j) R3 (fun a h => R.ext.none0 h) nb rb' (sto_same nb eb _)
            have rc2 := rc'.set (i := j) (sv := zb) (v := vb) R3 nc fun xs ys e1 e2 z => by
              subst e2
              exact dd2 ys (sto_own nb eb) 0 xs (by rw [e1]; rfl) (by rw [z]; rfl)
            have rd2 := rd'.set (i := j) (sv := zb) (v := vb) R3 nd fun xs ys e1 e2 z => by
              subst e2
              exact dd2 ys (sto_own nb eb) 1 xs (by rw [e1]; rfl) (by rw [z]; rfl)
            have R5 := sto_rep (i := l) R4 (fun a h => R.ext.none0 h) nc rc2 (sto_same nc ec _)
            have rd3 := rd2.set (i := l) (sv := zc) (v := vc) R4 nd fun xs ys e1 e2 z => by
              subst e2
              exact dd3 ys (sto_own nc ec) 0 xs (by rw [e1]; rfl) (by rw [z]; rfl)
            have R6 := sto_rep (i := n) R5 (fun a h => R.ext.none0 h) nd rd3 (sto_same nd ed _)
            exact ⟨p, [va, vb, vc, vd], rfl, .inl (.inl upd_same), rfl, va, _, rfl, vb, _, rfl, vc, _, rfl, vd, _, rfl, rfl, lk.nx _ G2 _ _ R6 (sb _ _ _ _ (((E2.trans gr.evo)).keeps R) sg) q⟩
/-! ### a def with one default, None -/
abbrev FunN (K : PySem.W.Frag) (x qual : Str) (st : Stmt) (f : Addr) (fd : FuncData) : Prop := FunD K x qual (defArgs st) (defBody st) (defScope st) [.non] [] f fd
theorem funN_mk {K : PySem.W.Frag} {x qual : Str} {st : Stmt} {f T : Addr} {oc : Value} {od an : Option Addr} {osl : Array (Option Value)} {kV doc pm cdv ct : Value} {o : Obj} {n : Nat} (l : K.lookup f = some ⟨oc, od, .func (PySem.W.fnOf x qual (defArgs st) (defBody st) (defScope st) (.ref T) kV doc pm an cdv ct), osl⟩)
    (c : PySem.W.codeIn K cdv qual = true) (k : PySem.W.keepIn K (.ref f) = true) (t : K.lookup T = some o) (d : o.data = .seq #[.none] n) : FunN K x qual st f (PySem.W.fnOf x qual (defArgs st) (defBody st) (defScope st) (.ref T) kV doc pm an cdv ct) :=
  ⟨⟨oc, od, _, kV, doc, pm, an, cdv, ct, osl, rfl, l, c, .inr ⟨(fun z => nomatch z), T, o, [.none], n, rfl, t, d, .cons rfl .nil⟩, .inl rfl⟩, k⟩
section
variable {P : Program} {w : World} {K : PySem.W.Frag} {mg : Str → Option Value} {base : Heap} {x qual : Str} {st : Stmt} {f : Addr} {fd : FuncData} {N ps ks : List Str}
theorem funN_to {s : Shared} {us : List Value} {kw : List (Str × Value)} {binds : List (Str × Value)} (F : FunN K x qual st f fd) (X : K.In s.heap)
    (h : ∀ (T : Addr) (kV doc pm : Value) (an : Option Addr) (cdv ct : Value), ∃ k, bindArgs (PySem.W.fnOf x qual (defArgs st) (defBody st) (defScope st) (.ref T) kV doc pm an cdv ct) ⟨us, kw⟩ = seqItems? (.ref T) >>= k ∧ k (some #[.none]) = pure binds) : BindsTo s fd ⟨us, kw⟩ binds := by
  obtain ⟨oc, od, dV, kV, doc, pm, an, cdv, ct, osl, rfl, lk, hcd, hD, hK⟩ := F.ex
  rcases hD with ⟨e, _⟩ | ⟨_, T, o, its, m, rfl, lT, oT, rT⟩
  · cases e
  · cases rT with
    | cons r1 r2 =>
      cases r2
      cases r1
      obtain ⟨k, e1, e2⟩ := h T kV doc pm an cdv ct
      refine BindsTo.of_looks fun M => ?_
      rw [e1]
      exact looks_items X lT oT (.of_pure e2)
theorem fn_okXVN {k : Nat} {wb : SW} (F : FunN K x qual st f fd) (S : FnScope N ps (defScope st))
    (hbody : ∀ (cdv : Value) (A : Around) (outer : List Env) (s : Shared) (H : Hp) (E : XK), RoomG k (A.deeper (envOfC qual (defScope st) s.heap.objs.size f cdv)) →
      VSs (cxOf (L2.CX P w) P w K mg base N qual (defScope st) f cdv A outer s H E) E (defBody st) wb) : FnG P w K mg base (L2.CX P w) (k + 1) f fd ps (spV K (bodyV N.length ps.length wb)) := by
  obtain ⟨oc, od, dV, kV, doc, pm, an, cdv, ct, osl, rfl, lk, hcd, _, _⟩ := F.ex
  exact fn_ofG lk hcd S spV_len fun A outer s H vs Q E hr h => ⟨_, hbody cdv A outer s H E hr, body_run h⟩
end
end VL
set_option Elab.async false
set_option linter.all false
set_option maxRecDepth 100000
set_option maxHeartbeats 1000000
/-! VL29: texts: str(n), int(text), signs in a text, walks over a text, splits, joins, f-texts of two parts, slices; range of three; staticmethods; methods without arguments. -/
namespace L2
open PySem PySem.Spec PyProof.Rows
/-- C.m is a staticmethod: its record at p, its def at g -/
structure SMet (K : PySem.W.Frag) (C : Addr) (m : Str) (g : Addr) : Prop where
  ex : ∃ (mc : Value) (p : Addr) (rest : List Value), PySem.W.findCls K (.ref C) mc m = some (.get (.builtin "staticmethod.__get__") (.ref p) .none (.ref C)) ∧ PySem.W.recIn K p "staticmethod" = some (.ref g :: rest) ∧ PySem.W.readsIn K C mc = true
  ga : PySem.W.specialIn K (.ref C) "__getattribute__" = some (some (.builtin "type.__getattribute__"))
  kp : PySem.W.keepIn K (.ref g) = true
section
variable {X : Cx} {CX : CXT} {k : Nat} {C g : Addr} {fd : FuncData} {ps ks : List Str} {sp : Sp} {E : St → XK} {x m : Str} {p pos apos : Pos} {e o : Expr} {es : List Expr} {kws : List Keyword} {te : TE} {t tk : TA}
theorem getsm_ok {pins : List (Addr × Obj)} {σ : St} {H : Hp} {s : Shared} {A : Around} {Ex : Value → Shared → Prop} {pl : Sem Bool} {Q : Value × List Value → Shared → Prop} (I : Inv X pins σ H s) (c : SMet X.K C m g) (h : ∀ s', Inv X pins σ H s' → Q (.ref g, []) s') :
    wpAny (model X.prog X.w) A (getMethod (.ref C) m pl) Q Ex s := by
  obtain ⟨mc, p, rest, h1, h2, h3⟩ := c.ex
  exact PySem.W.method_cls I.kIn c.ga (PySem.W.cls_bind I.kIn h3 h1 (wpAny_call (PySem.W.sm_get (s := { s with toks := s.toks + 1 }) I.kIn h2 (PySem.W.handed_on rfl (h _ (I.tok _))))))
/-- C.m(e, ..) -/
theorem pe_smethG {pl : Sem Bool} (F : FnG X.prog X.w X.K X.mg X.base CX k g fd ps sp) (hr : RoomG k X.A) (hg : Gl X x) (hm : X.mg x = some (.ref C)) (c : SMet X.K C m g) (hb : Binds X.K fd ps []) (hx : ∀ σ, PassesAt CX X σ (E σ)) (ha : PA X (e :: es) t)
    (hdb : (x == ("__debug__" : Str)) = false := by decide) (he : starEach (e :: es) X.env = (false, eval e X.env) :: starEach es X.env := by rfl) (hpl : (backTo pos (starEach es X.env)).any (·.1) = false := by rfl)
    (ht : eval (.Call (.Attribute (.Name x p) m apos) (e :: es) [] pos) X.env = (do
      let ov ← eval (.Name x p) X.env
      standAt apos.atName
      let (f, first) ← holding [ov] (getMethod ov m pl)
      callWith pos f first (backTo pos (starEach (e :: es) X.env)) (backToKw pos (keywordEach [] X.env))) := by rfl) :
    PE X (.Call (.Attribute (.Name x p) m apos) (e :: es) [] pos) (tCallS sp E t) := by
  refine ⟨fun pins s σ H Q I h => ?_⟩
  refine PySem.W.methodCall_KW (pl := pl) (ld_glob I hg hm ?_ hdb) ht
  refine getsm_ok I c fun s1 I1 => ?_
  refine PySem.W.callWith_K (first := []) (h₀ := X.base) I1.ok.mod.kin c.kp (thn (ha.run pos pins s1 σ H _ I1 h) fun us s2 ⟨vs, H2, I2, r, q⟩ => ⟨I2.kIn, ?_⟩) he hpl
  exact call_G F hr I2.env0 (binds_all hb F.len I2.kIn r q) (hx σ) I2 r q
/-- C.m(k = v, ..) -/
theorem pe_smethKG0 {pl : Sem Bool} {gg : List Value → List Value → List Value} {gV : List V → List V → List V} (F : FnG X.prog X.w X.K X.mg X.base CX k g fd ps sp) (hr : RoomG k X.A) (hg : Gl X x) (hm : X.mg x = some (.ref C)) (c : SMet X.K C m g) (hb : KBinds X.K fd ps ks gg gV) (hx : ∀ σ, PassesAt CX X σ (E σ))
    (hkw : PK X kws tk) (hall : (backToKw pos (keywordEach kws X.env)).all (·.1.isSome) = true := by rfl) (hks : (backToKw pos (keywordEach kws X.env)).filterMap (·.1) = ks := by rfl)
    (hdb : (x == ("__debug__" : Str)) = false := by decide) (hpl : ((backTo pos (starEach [] X.env)).any (·.1) || (backToKw pos (keywordEach kws X.env)).any (·.1.isNone)) = false := by rfl)
    (ht : eval (.Call (.Attribute (.Name x p) m apos) [] kws pos) X.env = (do
      let ov ← eval (.Name x p) X.env
      standAt apos.atName
      let (f, first) ← holding [ov] (getMethod ov m pl)
      callWith pos f first (backTo pos (starEach [] X.env)) (backToKw pos (keywordEach kws X.env))) := by rfl) :
    PE X (.Call (.Attribute (.Name x p) m apos) [] kws pos) (tCallKG sp gV E tNil tk) := by
  refine ⟨fun pins s σ H Q I h => ?_⟩
  refine PySem.W.methodCall_KW (pl := pl) (ld_glob I hg hm ?_ hdb) ht
  refine getsm_ok I c fun s1 I1 => ?_
  refine PySem.W.callWith_KW0 (first := []) (h₀ := X.base) I1.ok.mod.kin c.kp hall (thn (hkw.run pos pins s1 σ H _ I1 h) fun ws s2 ⟨zs, H2, I2, rz, q2⟩ => ⟨I2.kIn, ?_⟩) hpl
  rw [hks]
  have r2 := hb.rel (vs := []) (us := []) .nil rz
  exact call_G F hr I2.env0 (hb.to s2 [] ws I2.kIn (by rw [← r2.length]; exact F.len _ _ _ _ q2)) (hx σ) I2 r2 q2
/-- o.m() -/
def tMethG (C : Addr) (m : Str) (sp : Sp) (E : St → XK) (te : TE) : TE := fun σ H Q => te σ H fun x H1 => ∃ a dx fs, x = .ref a ∧ H1 a = some (.ins C dx fs) ∧ fs.lookup m = none ∧ sp [.ref a] H1 Q (E σ)
theorem pe_methG0 {pl : Sem Bool} (F : FnG X.prog X.w X.K X.mg X.base CX k g fd ps sp) (hr : RoomG k X.A) (c : Cls X.K C) (hm : Meth X.K C m g) (hb : Binds X.K fd ps []) (hx : ∀ σ, PassesAt CX X σ (E σ)) (ho : PE X o te)
    (ht : eval (.Call (.Attribute o m apos) [] [] pos) X.env = (do
      let ov ← eval o X.env
      standAt apos.atName
      let (f, first) ← holding [ov] (getMethod ov m pl)
      callWith pos f first (backTo pos (starEach [] X.env)) (backToKw pos (keywordEach [] X.env))) := by rfl) :
    PE X (.Call (.Attribute o m apos) [] [] pos) (tMethG C m sp E te) := by
  refine ⟨fun pins s σ H Q I h => ?_⟩
  refine PySem.W.methodCall_KW (pl := pl) (thn (ho.run pins s σ H _ I h) fun u s1 ⟨x, H1, I1, rx, a, dx, fs, ex, ea, l, q⟩ => ?_) ht
  subst ex
  obtain rfl : u = Value.ref a := rx
  refine getmeth_ok I1 ea c hm l ?_
  refine PySem.W.callWith_K0 (first := [.ref a]) I1.kIn hm.kp ?_
  have r1 : Vals [V.ref a] [Value.ref a] := .cons rfl .nil
  exact call_G (us := [.ref a]) F hr I1.env0 (binds_all hb F.len I1.kIn r1 q) (hx σ) I1 r1 q
end
end L2
namespace VL
open PySem PySem.Spec PyProof.Rows L2
/-! ### texts -/
def dStr : DCall := fun xs R => match xs with
  | [.int i] => i.natAbs.log2 < 1920 ∧ R (.d (.str (toString i)))
  | _ => False
def dIntS : DCall := fun xs R => match xs with
  | [.str a] => ∃ n, PySem.intText? a = some n ∧ a.length ≤ 640 ∧ R (.d (.int n))
  | _ => False
def dInS : DOp := fun x y R => match x, y with
  | .str a, .str z => ∃ c, a = ⟨#[c]⟩ ∧ R (.d (.bool (decide (c ∈ z.cps.toList))))
  | _, _ => False
def dNotInS : DOp := fun x y R => match x, y with
  | .str a, .str z => ∃ c, a = ⟨#[c]⟩ ∧ R (.d (.bool (!decide (c ∈ z.cps.toList))))
  | _, _ => False
theorem call_strV {X : Cx} : CallV X (.type "str") dStr := callr_imp call_str_int fun vs H Q h => by
  obtain ⟨F, xs, R, rs, hg, q⟩ := h
  match xs, rs, hg with
  | [.int i], .cons r .nil, hg =>
    cases r.int
    exact ⟨i, rfl, hg.1, q _ _ _ hg.2 .refl (show Rp _ _ _ _ _ from .str _)⟩
theorem call_intSV {X : Cx} : CallV X (.type "int") dIntS := callr_imp call_int_str fun vs H Q h => by
  obtain ⟨F, xs, R, rs, hg, q⟩ := h
  match xs, rs, hg with
  | [.str a], .cons r .nil, hg =>
    cases r.str
    obtain ⟨n, h1, h2, hg⟩ := hg
    exact ⟨a, n, rfl, h1, h2, q _ _ _ hg .refl (show Rp _ _ _ _ _ from .int _)⟩
theorem op_inSV {X : Cx} : OpV X (compareOp .In) dInS := opr_imp op_in_sign fun x y H Q h => by
  obtain ⟨F, dx, dy, R, rx, ry, hg, q⟩ := h
  cases dx with
  | str a =>
    cases dy with
    | str z =>
      cases rx.str
      cases ry.str
      obtain ⟨c, rfl, hg⟩ := hg
      exact ⟨c, z, rfl, rfl, q _ _ _ hg .refl (show Rp _ _ _ _ _ from .bl _)⟩
    | _ => exact hg.elim
  | _ => exact hg.elim
theorem op_notInSV {X : Cx} : OpV X (compareOp .NotIn) dNotInS := opr_imp op_notIn_sign fun x y H Q h => by
  obtain ⟨F, dx, dy, R, rx, ry, hg, q⟩ := h
  cases dx with
  | str a =>
    cases dy with
    | str z =>
      cases rx.str
      cases ry.str
      obtain ⟨c, rfl, hg⟩ := hg
      exact ⟨c, z, rfl, rfl, q _ _ _ hg .refl (show Rp _ _ _ _ _ from .bl _)⟩
    | _ => exact hg.elim
  | _ => exact hg.elim
theorem rp_strs {K : PySem.W.Frag} {F : Addr → Prop} {H : Hp} : ∀ ys : List Str, RpAll K F H (ys.map V.str) (ys.map PyData.str)
  | [] => .nil
  | y :: r => .cons (.str y) (rp_strs r)
theorem strs_rp {K : PySem.W.Frag} {F : Addr → Prop} {H : Hp} : ∀ {ys : List Str} {vs : List V}, RpAll K F H vs (ys.map PyData.str) → vs = ys.map V.str
  | [], _, .nil => rfl
  | y :: ys, _, .cons h r => by
    cases h
    rw [strs_rp r]
    rfl
section
variable {X : Cx} {xk : XK} {e tg : Expr} {we : EW} {wA : AW} {sp : VSp} {C : Addr} {m : Str} {pos apos : Pos}
/-- a text is walked, sign by sign -/
def signsD (x : Str) : List PyData := x.cps.toList.map fun c => .str ⟨#[c]⟩
def wItS (we : EW) : IW := fun ρ Q E => we ρ (fun tv ρ1 => ∃ x, res ρ1 tv = some (.str x) ∧ Q (signsD x) ρ1) E
theorem it_str {K : PySem.W.Frag} {F : Addr → Prop} {H : Hp} {x : Str} : ItOk K F H (Its x) (signsD x) := fun F' H' k => by
  have hl : (signsD x).length = x.cps.size := by simp [signsD]
  refine ⟨fun i hi => by rw [hl] at hi; exact hi, fun i hi => by rw [hl] at hi; exact hi, fun i y H'' hy hi => ?_⟩
  obtain ⟨rfl, c, hc, rfl⟩ := hy
  refine ⟨.str ⟨#[c]⟩, ?_, .refl, .str _⟩
  unfold signsD
  rw [List.getElem?_map, Array.getElem?_toList, hc]
  rfl
theorem vi_str (h : VE X xk e we) : VI X xk tg e (wItS we) := (pi_str h).imp fun σ H Q ⟨G0, H0, G, ρ, Qv, Ev, R, xl, hw, q⟩ => ⟨G0, H0, G, ρ, _, Ev, R, xl, hw, fun tv ρ1 G1 H1 v R1 E1 rt ⟨x, er, q1⟩ => by
  cases (rt.rq R1 er).str
  exact ⟨x, rfl, q _ ρ1 G1 H1 _ R1 E1 it_str q1⟩⟩
/-- range of three -/
def rngC (i c : Int) (n : Nat) : List PyData := (List.range n).map fun (k : Nat) => .int (i + (k : Nat) * c)
def wRg3 (wA : AW) : IW := fun ρ Q E => wA ρ (fun tvs ρ1 => ∃ (i j c : Int) (n : Nat), resAll ρ1 tvs = some [.int i, .int j, .int c] ∧ RgC i j c n ∧ Q (rngC i c n) ρ1) E
theorem it_rngC {K : PySem.W.Frag} {F : Addr → Prop} {H : Hp} {i c : Int} {n : Nat} : ItOk K F H (Itc i c n) (rngC i c n) := fun F' H' k => by
  have hl : (rngC i c n).length = n := by simp [rngC]
  refine ⟨fun j hj => by rw [hl] at hj; exact hj, fun j hj => by rw [hl] at hj; exact hj, fun j x H'' y hj => ?_⟩
  obtain ⟨rfl, rfl⟩ := y
  rw [hl] at hj
  exact ⟨.int (i + (j : Nat) * c), by simp [rngC, hj], .refl, .int _⟩
theorem vi_rng3 (h : PI X tg e (iRng3 (rdA X.K xk wA))) : VI X xk tg e (wRg3 wA) := h.imp fun σ H Q ⟨G0, H0, G, ρ, Qv, Ev, R, xl, hw, q⟩ => ⟨G0, H0, G, ρ, _, Ev, R, xl, hw, fun tvs ρ1 G1 H1 vs R1 E1 rts ⟨i, j, c, n, er, hb, q1⟩ => by
  cases resAll_ok R1 rts er with
  | cons r t =>
    cases t with
    | cons r' t' =>
      cases t' with
      | cons r'' t'' =>
        cases t''
        cases r.int
        cases r'.int
        cases r''.int
        exact ⟨i, j, c, n, rfl, hb, q _ ρ1 G1 H1 _ R1 E1 it_rngC q1⟩⟩
/-- x.split(sep) -/
def wSplit (b : Str) (we : EW) : EW := fun ρ Q E => we ρ (fun tv ρ1 => ∃ a, res ρ1 tv = some (.str a) ∧ a.length + 2 ≤ sizeLine ∧ Q (.fresh ((Txt.split a b).map .str)) ρ1) E
theorem ve_split {b : Str} {j : Nat} {spos : Pos} (hb : (b.length == 0) = false) (he : VE X xk e we) (hs : starEach [.Constant (.str b) j spos] X.env = [(false, eval (.Constant (.str b) j spos) X.env)] := by rfl)
    (hbase : attributeBase e "split" X.env (eval e X.env) = eval e X.env := by rfl) (hline : (apos.endLine == pos.line) = true := by rfl) : VE X xk (.Call (.Attribute e "split" apos) [.Constant (.str b) j spos] [] pos) (wSplit b we) :=
  (pe_split he (pe_str (x := b) (j := j) (pos := spos)) hs hbase hline).imp fun σ H Q ⟨G0, H0, G, ρ, Qv, Ev, R, xl, hw, q⟩ => ⟨G0, H0, G, ρ, _, Ev, R, xl, hw, fun tv ρ1 G1 H1 v R1 E1 rt ⟨a, er, hz, q1⟩ => by
    cases (rt.rq R1 er).str
    refine ⟨⟨a, rfl⟩, a, b, rfl, rfl, hb, hz, fun p hp => ?_⟩
    have gr : Grow H1 (upd H1 p (.lst ((Txt.split a b).map V.str))) := .upd hp
    have nr : NR X.K G1.F H1 (upd H1 p (.lst ((Txt.split a b).map V.str))) (.fresh ((Txt.split a b).map .str)) (.ref p) := ⟨p, _, rfl, hp, upd_same, rp_strs _⟩
    exact q (.fresh ((Txt.split a b).map .str)) ρ1 G1 _ _ (R1.grow gr) (E1.trans gr.evo) (nr.rt R1 fun a h => E1.none h) q1⟩
/-- sep.join(xs) -/
def wJoin (b : Str) (we : EW) : EW := fun ρ Q E => we ρ (fun tv ρ1 => ∃ ys : List Str, (res ρ1 tv = some (.list (ys.map .str)) ∨ res ρ1 tv = some (.tuple (ys.map .str))) ∧ (ys.map (·.length)).sum + ys.length * b.length ≤ 16777216 ∧ Q (.d (.str (Txt.join b ys))) ρ1) E
theorem ve_join {b : Str} {j : Nat} {spos : Pos} (he : VE X xk e we) (hs : starEach [e] X.env = [(false, eval e X.env)] := by rfl)
    (hbase : attributeBase (.Constant (.str b) j spos) "join" X.env (eval (.Constant (.str b) j spos) X.env) = eval (.Constant (.str b) j spos) X.env := by rfl) (hline : (apos.endLine == pos.line) = true := by rfl) :
    VE X xk (.Call (.Attribute (.Constant (.str b) j spos) "join" apos) [e] [] pos) (wJoin b we) :=
  (pe_join (pe_str (x := b) (j := j) (pos := spos)) he hs hbase hline).imp fun σ H Q ⟨G0, H0, G, ρ, Qv, Ev, R, xl, hw, q⟩ => ⟨⟨b, rfl⟩, G0, H0, G, ρ, _, Ev, R, xl, hw, fun tv ρ1 G1 H1 v R1 E1 rt ⟨ys, er, hz, q1⟩ => by
    rcases er with er | er
    · obtain ⟨a, vs, rfl, h1, h2⟩ := rt.rq R1 er
      cases strs_rp h2
      exact ⟨b, a, ys, rfl, rfl, .inl (.inl (.inl h1)), hz, q (.d (.str (Txt.join b ys))) ρ1 G1 H1 _ R1 E1 (show Rp _ _ _ _ _ from .str _) q1⟩
    · obtain ⟨a, vs, rfl, h1, h2⟩ := (rt.rq R1 er).tup
      cases strs_rp h2
      exact ⟨b, a, ys, rfl, rfl, .inr h1, hz, q (.d (.str (Txt.join b ys))) ρ1 G1 H1 _ R1 E1 (show Rp _ _ _ _ _ from .str _) q1⟩⟩
/-- f'b{e}' -/
theorem str_empty (b : Str) : Str.empty ++ b = b := by
  obtain ⟨c⟩ := b
  show (⟨#[] ++ c⟩ : Str) = ⟨c⟩
  rw [Array.empty_append]
def wFmt (b : Str) (we : EW) : EW := fun ρ Q E => b.length ≤ sizeLine ∧ we ρ (fun tv ρ1 => (∃ y, res ρ1 tv = some (.str y) ∧ y.length ≤ sizeLine ∧ (b ++ y).length ≤ sizeLine ∧ Q (.d (.str (b ++ y))) ρ1) ∨
  ∃ i : Int, res ρ1 tv = some (.int i) ∧ i.natAbs.log2 < 1920 ∧ (b ++ (toString i : Str)).length ≤ sizeLine ∧ Q (.d (.str (b ++ (toString i : Str)))) ρ1) E
theorem ve_fmt {b : Str} {j : Nat} {spos fpos : Pos} (he : VE X xk e we) : VE X xk (.JoinedStr [.Constant (.str b) j spos, .FormattedValue e (-1) none fpos] pos) (wFmt b we) :=
  (pe_joined (.cons (pe_str (x := b) (j := j) (pos := spos)) (.cons (pe_fmt he) .nil))).imp fun σ H Q ⟨G0, H0, G, ρ, Qv, Ev, R, xl, ⟨hb, hw⟩, q⟩ => by
    refine ⟨b, rfl, by rw [str_empty]; exact hb, ?_⟩
    rw [str_empty]
    refine ⟨G0, H0, G, ρ, _, Ev, R, xl, hw, fun tv ρ1 G1 H1 v R1 E1 rt q1 => ?_⟩
    rcases q1 with ⟨y, er, hy, hz, q1⟩ | ⟨i, er, hi, hz, q1⟩
    · cases (rt.rq R1 er).str
      exact .inl ⟨y, rfl, hy, y, rfl, hz, q (.d (.str (b ++ y))) ρ1 G1 H1 _ R1 E1 (show Rp _ _ _ _ _ from .str _) q1⟩
    · cases (rt.rq R1 er).int
      exact .inr ⟨i, rfl, hi, _, rfl, hz, q (.d (.str (b ++ (toString i : Str)))) ρ1 G1 H1 _ R1 E1 (show Rp _ _ _ _ _ from .str _) q1⟩
/-- slices of lists, tuples, texts -/
def dSlS (x : PyData) (lo hi : Option Int) (R : TV → Prop) : Prop := match x with
  | .list xs => R (.fresh (cutD xs lo hi))
  | .tuple xs => R (.d (.tuple (cutD xs lo hi)))
  | .str z => z.length ≤ sizeLine ∧ R (.d (.str (cutS z lo hi)))
  | _ => False
def wSlS (we : EW) (wl wh : OW) : EW := fun ρ Q E => we ρ (fun tv ρ1 => wl ρ1 (fun lo ρ2 => wh ρ2 (fun hi ρ3 => ∃ x, res ρ3 tv = some x ∧ dSlS x lo hi fun tv => Q tv ρ3) E) E) E
theorem ve_sliceS {lo hi : Option Expr} {wl wh : OW} {p2 : Pos} (mk : ∀ {r}, SlR X r → PE X (.Subscript e (.Slice lo hi none p2) pos) (tSl r (rdE X.K xk we) (rdO X.K xk wl) (rdO X.K xk wh))) : VE X xk (.Subscript e (.Slice lo hi none p2) pos) (wSlS we wl wh) :=
  (mk (sl_list.or (sl_tupA.or sl_str))).imp fun σ H Q ⟨G0, H0, G, ρ, Qv, Ev, R, xl, hw, q⟩ =>
  ⟨G0, H0, G, ρ, _, Ev, R, xl, hw, fun tv ρ1 G1 H1 v R1 E1 rt q1 => ⟨G0, H0, G1, ρ1, _, Ev, R1, xl, q1, fun l ρ2 G2 H2 R2 E2 q2 => ⟨G0, H0, G2, ρ2, _, Ev, R2, xl, q2, fun u ρ3 G3 H3 R3 E3 q3 => by
    obtain ⟨x, er, q3⟩ := q3
    have rq := ((rt.evo E2 R1).evo E3 R2).rq R3 er
    have E13 := (E1.trans E2).trans E3
    cases x with
    | list xs =>
      obtain ⟨a, vs, rfl, h1, h2⟩ := rq
      refine .inl ⟨a, vs, rfl, .inl (.inl h1), fun p hp => ?_⟩
      have g : Grow H3 (upd H3 p (.lst (cutV vs l u))) := .upd hp
      have nr : NR X.K G3.F H3 (upd H3 p (.lst (cutV vs l u))) (.fresh (cutD xs l u)) (.ref p) := ⟨p, _, rfl, hp, upd_same, (h2.cut l u).keep g.keep⟩
      exact q _ ρ3 G3 _ _ (R3.grow g) (E13.trans g.evo) (nr.rt R3 fun a h => E13.none h) q3
    | tuple xs =>
      obtain ⟨a, vs, rfl, h1, h2⟩ := rq.tup
      refine .inr (.inl ⟨a, vs, rfl, h1, fun hw => ?_, fun _ p hp => ?_⟩)
      · have e : cutD xs l u = xs := cut_whole (by rw [← h2.length]; exact hw)
        have q3' : Qv (.d (.tuple (cutD xs l u))) ρ3 := q3
        rw [e] at q3'
        exact q (.d (.tuple xs)) ρ3 G3 _ _ R3 E13 (show Rp _ _ _ _ _ from .tup h1 h2) q3'
      · have g : Grow H3 (upd H3 p (.tup (cutV vs l u))) := .upd hp
        exact q (.d (.tuple (cutD xs l u))) ρ3 G3 _ _ (R3.grow g) (E13.trans g.evo) (show Rp _ _ _ _ _ from .tup (.inl (.inl upd_same)) ((h2.cut l u).keep g.keep)) q3
    | str z =>
      cases rq.str
      exact .inr (.inr ⟨z, rfl, q3.1, q (.d (.str (cutS z l u))) ρ3 G3 H3 _ R3 E13 (show Rp _ _ _ _ _ from .str _) q3.2⟩)
    | _ => exact q3.elim⟩⟩⟩
/-! ### o.m() -/
theorem RFs.none {K : PySem.W.Frag} {F : Addr → Prop} {H : Hp} {f : Str} : ∀ {vs : List (Str × V)} {fs : List (Str × PyData)}, RFs K F H vs fs → fs.lookup f = none → vs.lookup f = none
  | _, _, .nil, _ => rfl
  | p :: vs, q :: fs, .cons h r, e => by
    obtain ⟨n, v⟩ := p
    obtain ⟨m, y⟩ := q
    obtain ⟨e1, rv⟩ := h
    have e1' : n = m := e1
    subst e1'
    rw [List.lookup_cons] at e ⊢
    cases hk : (f == n) with
    | true => rw [hk] at e; cases e
    | false =>
      rw [hk] at e
      exact RFs.none r e
def wMethO (C : Addr) (m : Str) (sp : VSp) (wo : EW) : EW := fun ρ Q E => wo ρ (fun tv ρ1 => ∃ fs, tv = .obj C fs ∧ fs.lookup m = none ∧ sp [.obj C fs] (fun tv' => flatT tv' = true ∧ Q tv' ρ1) E) E
theorem ve_methO {wo : EW} (h : PE X e (tMethG C m (spV X.K sp) (fun _ => xk) (rdE X.K xk wo))) : VE X xk e (wMethO C m sp wo) := h.imp fun σ H Q ⟨G0, H0, G, ρ, Qv, Ev, R, xl, hw, q⟩ => ⟨G0, H0, G, ρ, _, Ev, R, xl, hw, fun tv ρ1 G1 H1 v R1 E1 rt q1 => by
    obtain ⟨fs, etv, hl, hs⟩ := q1
    subst etv
    obtain ⟨a, dx, vs, ev, h1, rf⟩ := id rt
    subst ev
    refine ⟨a, dx, vs, rfl, h1, RFs.none rf hl, sp_core (Qv := fun tv' => Qv tv' ρ1) R1 xl (.cons rt .nil fun _ z => nomatch z) rfl hs fun tv' G' H' v' R2 E2 rt2 q2 => ?_⟩
    exact q tv' ρ1 G' H' v' R2 (E1.trans E2) (rt2.back fun a h => E1.none h) q2⟩
end
end VL
set_option Elab.async false
set_option linter.all false
set_option maxRecDepth 100000
set_option maxHeartbeats 4000000
/-! printed by gen.py: the text by places, the wp terms, the derivations -/
namespace LW
open PySem PySem.Spec PyProof.Rows L2 VL
abbrev PP : Program := PySem.Challenge.pw_oncetested_k02_boards_written_and_read
def top (i : Nat) : Stmt := PP.main.body.getD i (.Pass ⟨0, 0, 0, 0⟩)
abbrev st_is_integer : Stmt := top 8
theorem sc_is_integer : FnScope ["value"] ["value"] (defScope st_is_integer) := ⟨rfl, rfl, rfl, by decide +kernel, rfl, by decide +kernel, by decide +kernel⟩
abbrev st_is_number : Stmt := top 9
theorem sc_is_number : FnScope ["value"] ["value"] (defScope st_is_number) := ⟨rfl, rfl, rfl, by decide +kernel, rfl, by decide +kernel, by decide +kernel⟩
abbrev st_is_text : Stmt := top 10
theorem sc_is_text : FnScope ["value"] ["value"] (defScope st_is_text) := ⟨rfl, rfl, rfl, by decide +kernel, rfl, by decide +kernel, by decide +kernel⟩
abbrev st_is_sequence : Stmt := top 11
theorem sc_is_sequence : FnScope ["value"] ["value"] (defScope st_is_sequence) := ⟨rfl, rfl, rfl, by decide +kernel, rfl, by decide +kernel, by decide +kernel⟩
abbrev st_is_number_text : Stmt := top 12
theorem sc_is_number_text : FnScope ["value", "most", "sign"] ["value", "most"] (defScope st_is_number_text) := ⟨rfl, rfl, rfl, by decide +kernel, rfl, by decide +kernel, by decide +kernel⟩
abbrev st_settings_count : Stmt := top 17
theorem sc_settings_count : FnScope ["sizes", "count", "size"] ["sizes"] (defScope st_settings_count) := ⟨rfl, rfl, rfl, by decide +kernel, rfl, by decide +kernel, by decide +kernel⟩
abbrev st_steps_of : Stmt := top 18
theorem sc_steps_of : FnScope ["sizes", "steps", "step", "size"] ["sizes"] (defScope st_steps_of) := ⟨rfl, rfl, rfl, by decide +kernel, rfl, by decide +kernel, by decide +kernel⟩
abbrev st_setting_number : Stmt := top 19
theorem sc_setting_number : FnScope ["sizes", "setting", "number", "size", "content"] ["sizes", "setting"] (defScope st_setting_number) := ⟨rfl, rfl, rfl, by decide +kernel, rfl, by decide +kernel, by decide +kernel⟩
abbrev st_wrong_content : Stmt := top 20
theorem sc_wrong_content : FnScope ["sizes", "value", "at", "content"] ["sizes", "value"] (defScope st_wrong_content) := ⟨rfl, rfl, rfl, by decide +kernel, rfl, by decide +kernel, by decide +kernel⟩
abbrev st_wrong_size : Stmt := top 21
theorem sc_wrong_size : FnScope ["sizes", "at", "size"] ["sizes"] (defScope st_wrong_size) := ⟨rfl, rfl, rfl, by decide +kernel, rfl, by decide +kernel, by decide +kernel⟩
abbrev st_wrong_mark : Stmt := top 22
theorem sc_wrong_mark : FnScope ["marks", "count", "many", "at", "mark"] ["marks", "count", "many"] (defScope st_wrong_mark) := ⟨rfl, rfl, rfl, by decide +kernel, rfl, by decide +kernel, by decide +kernel⟩
abbrev st_Board_init : Stmt := inClass (top 23) 0
theorem sc_Board_init : FnScope ["self", "many", "sizes", "marks", "at", "count"] ["self", "many", "sizes", "marks"] (defScope st_Board_init) := ⟨rfl, rfl, rfl, by decide +kernel, rfl, by decide +kernel, by decide +kernel⟩
abbrev st_Board_eq : Stmt := inClass (top 23) 1
theorem sc_Board_eq : FnScope ["self", "other"] ["self", "other"] (defScope st_Board_eq) := ⟨rfl, rfl, rfl, by decide +kernel, rfl, by decide +kernel, by decide +kernel⟩
abbrev st_Board_len : Stmt := inClass (top 23) 2
theorem sc_Board_len : FnScope ["self"] ["self"] (defScope st_Board_len) := ⟨rfl, rfl, rfl, by decide +kernel, rfl, by decide +kernel, by decide +kernel⟩
abbrev st_Board_call : Stmt := inClass (top 23) 3
theorem sc_Board_call : FnScope ["self", "setting", "at"] ["self", "setting"] (defScope st_Board_call) := ⟨rfl, rfl, rfl, by decide +kernel, rfl, by decide +kernel, by decide +kernel⟩
abbrev st_Board_text : Stmt := inClass (top 23) 4
theorem sc_Board_text : FnScope ["self", "told", "size", "rows", "width", "at", "mark"] ["self"] (defScope st_Board_text) := ⟨rfl, rfl, rfl, by decide +kernel, rfl, by decide +kernel, by decide +kernel⟩
abbrev st_many_of_row : Stmt := top 24
theorem sc_many_of_row : FnScope ["row", "words"] ["row"] (defScope st_many_of_row) := ⟨rfl, rfl, rfl, by decide +kernel, rfl, by decide +kernel, by decide +kernel⟩
abbrev st_sizes_of_row : Stmt := top 25
theorem sc_sizes_of_row : FnScope ["row", "words", "word"] ["row"] (defScope st_sizes_of_row) := ⟨rfl, rfl, rfl, by decide +kernel, rfl, by decide +kernel, by decide +kernel⟩
abbrev st_Board_read : Stmt := inClass (top 23) 5
theorem sc_Board_read : FnScope ["text", "rows", "many", "sizes", "count", "marks", "due", "at", "row", "sign"] ["text"] (defScope st_Board_read) := ⟨rfl, rfl, rfl, by decide +kernel, rfl, by decide +kernel, by decide +kernel⟩
abbrev st_law_box : Stmt := top 27
theorem sc_law_box : FnScope ["script", "k", "cell"] ["script", "k"] (defScope st_law_box) := ⟨rfl, rfl, rfl, by decide +kernel, rfl, by decide +kernel, by decide +kernel⟩
abbrev st_law_take : Stmt := top 28
theorem sc_law_take : FnScope ["box", "many", "digit", "raw"] ["box", "many"] (defScope st_law_take) := ⟨rfl, rfl, rfl, by decide +kernel, rfl, by decide +kernel, by decide +kernel⟩
abbrev st_law_pick : Stmt := top 29
theorem sc_law_pick : FnScope ["box", "some"] ["box", "some"] (defScope st_law_pick) := ⟨rfl, rfl, rfl, by decide +kernel, rfl, by decide +kernel, by decide +kernel⟩
abbrev st_law_count : Stmt := top 30
theorem sc_law_count : FnScope ["sizes", "count", "size"] ["sizes"] (defScope st_law_count) := ⟨rfl, rfl, rfl, by decide +kernel, rfl, by decide +kernel, by decide +kernel⟩
abbrev st_law_number : Stmt := top 31
theorem sc_law_number : FnScope ["text", "most", "sign"] ["text", "most"] (defScope st_law_number) := ⟨rfl, rfl, rfl, by decide +kernel, rfl, by decide +kernel, by decide +kernel⟩
abbrev st_law_words : Stmt := top 32
theorem sc_law_words : FnScope ["text", "words", "sign"] ["text"] (defScope st_law_words) := ⟨rfl, rfl, rfl, by decide +kernel, rfl, by decide +kernel, by decide +kernel⟩
abbrev st_law_rows : Stmt := top 33
theorem sc_law_rows : FnScope ["text", "rows", "sign"] ["text"] (defScope st_law_rows) := ⟨rfl, rfl, rfl, by decide +kernel, rfl, by decide +kernel, by decide +kernel⟩
abbrev st_law_head : Stmt := top 34
theorem sc_law_head : FnScope ["rows", "words", "many", "sizes", "word", "size"] ["rows"] (defScope st_law_head) := ⟨rfl, rfl, rfl, by decide +kernel, rfl, by decide +kernel, by decide +kernel⟩
abbrev st_law_due : Stmt := top 35
theorem sc_law_due : FnScope ["text", "rows", "head", "many", "sizes", "width", "marks", "at", "sign"] ["text"] (defScope st_law_due) := ⟨rfl, rfl, rfl, by decide +kernel, rfl, by decide +kernel, by decide +kernel⟩
abbrev st_law_told : Stmt := top 36
theorem sc_law_told : FnScope ["text", "board", "e"] ["text"] (defScope st_law_told) := ⟨rfl, rfl, rfl, by decide +kernel, rfl, by decide +kernel, by decide +kernel⟩
abbrev st_law_spoilt : Stmt := top 37
theorem sc_law_spoilt : FnScope ["box", "text", "form", "at", "sign", "rows", "row", "odd"] ["box", "text"] (defScope st_law_spoilt) := ⟨rfl, rfl, rfl, by decide +kernel, rfl, by decide +kernel, by decide +kernel⟩
abbrev st_law_board_right : Stmt := top 38
theorem sc_law_board_right : FnScope ["box", "many", "sizes", "part", "marks", "turn", "rows", "width", "size", "at", "mark", "text", "other", "value"] ["box"] (defScope st_law_board_right) := ⟨rfl, rfl, rfl, by decide +kernel, rfl, by decide +kernel, by decide +kernel⟩
abbrev st_law : Stmt := top 39
theorem sc_law : FnScope ["script"] ["script"] (defScope st_law) := ⟨rfl, rfl, rfl, by decide +kernel, rfl, by decide +kernel, by decide +kernel⟩
structure Ad where
  a_BoardError : Addr
  a_InvalidBoard : Addr
  a_InvalidSetting : Addr
  a_InvalidText : Addr
  a_InvalidSize : Addr
  a_Board : Addr
  a_InvalidBoard_init : Addr
  a_InvalidSetting_init : Addr
  a_InvalidText_init : Addr
  a_InvalidSize_init : Addr
  a_is_integer : Addr
  d_is_integer : FuncData
  a_is_number : Addr
  d_is_number : FuncData
  a_is_text : Addr
  d_is_text : FuncData
  a_is_sequence : Addr
  d_is_sequence : FuncData
  a_is_number_text : Addr
  d_is_number_text : FuncData
  a_settings_count : Addr
  d_settings_count : FuncData
  a_steps_of : Addr
  d_steps_of : FuncData
  a_setting_number : Addr
  d_setting_number : FuncData
  a_wrong_content : Addr
  d_wrong_content : FuncData
  a_wrong_size : Addr
  d_wrong_size : FuncData
  a_wrong_mark : Addr
  d_wrong_mark : FuncData
  a_Board_init : Addr
  d_Board_init : FuncData
  a_Board_eq : Addr
  d_Board_eq : FuncData
  a_Board_len : Addr
  d_Board_len : FuncData
  a_Board_call : Addr
  d_Board_call : FuncData
  a_Board_text : Addr
  d_Board_text : FuncData
  a_Board_read : Addr
  d_Board_read : FuncData
  a_many_of_row : Addr
  d_many_of_row : FuncData
  a_sizes_of_row : Addr
  d_sizes_of_row : FuncData
  a_law_box : Addr
  d_law_box : FuncData
  a_law_take : Addr
  d_law_take : FuncData
  a_law_pick : Addr
  d_law_pick : FuncData
  a_law_count : Addr
  d_law_count : FuncData
  a_law_number : Addr
  d_law_number : FuncData
  a_law_words : Addr
  d_law_words : FuncData
  a_law_rows : Addr
  d_law_rows : FuncData
  a_law_head : Addr
  d_law_head : FuncData
  a_law_due : Addr
  d_law_due : FuncData
  a_law_told : Addr
  d_law_told : FuncData
  a_law_spoilt : Addr
  d_law_spoilt : FuncData
  a_law_board_right : Addr
  d_law_board_right : FuncData
  a_law : Addr
  d_law : FuncData
structure Txt (K : PySem.W.Frag) (mg : Str → Option Value) (A : Ad) : Prop where
  g_is_integer : mg "is_integer" = some (.ref A.a_is_integer)
  f_is_integer : Fun K "is_integer" "is_integer" st_is_integer A.a_is_integer A.d_is_integer
  b_is_integer : Binds K A.d_is_integer ["value"] []
  g_is_number : mg "is_number" = some (.ref A.a_is_number)
  f_is_number : Fun K "is_number" "is_number" st_is_number A.a_is_number A.d_is_number
  b_is_number : Binds K A.d_is_number ["value"] []
  g_is_text : mg "is_text" = some (.ref A.a_is_text)
  f_is_text : Fun K "is_text" "is_text" st_is_text A.a_is_text A.d_is_text
  b_is_text : Binds K A.d_is_text ["value"] []
  g_is_sequence : mg "is_sequence" = some (.ref A.a_is_sequence)
  f_is_sequence : Fun K "is_sequence" "is_sequence" st_is_sequence A.a_is_sequence A.d_is_sequence
  b_is_sequence : Binds K A.d_is_sequence ["value"] []
  g_is_number_text : mg "is_number_text" = some (.ref A.a_is_number_text)
  f_is_number_text : Fun K "is_number_text" "is_number_text" st_is_number_text A.a_is_number_text A.d_is_number_text
  b_is_number_text : Binds K A.d_is_number_text ["value", "most"] []
  g_settings_count : mg "settings_count" = some (.ref A.a_settings_count)
  f_settings_count : Fun K "settings_count" "settings_count" st_settings_count A.a_settings_count A.d_settings_count
  b_settings_count : Binds K A.d_settings_count ["sizes"] []
  g_steps_of : mg "steps_of" = some (.ref A.a_steps_of)
  f_steps_of : Fun K "steps_of" "steps_of" st_steps_of A.a_steps_of A.d_steps_of
  b_steps_of : Binds K A.d_steps_of ["sizes"] []
  g_setting_number : mg "setting_number" = some (.ref A.a_setting_number)
  f_setting_number : Fun K "setting_number" "setting_number" st_setting_number A.a_setting_number A.d_setting_number
  b_setting_number : Binds K A.d_setting_number ["sizes", "setting"] []
  g_wrong_content : mg "wrong_content" = some (.ref A.a_wrong_content)
  f_wrong_content : Fun K "wrong_content" "wrong_content" st_wrong_content A.a_wrong_content A.d_wrong_content
  b_wrong_content : Binds K A.d_wrong_content ["sizes", "value"] []
  g_wrong_size : mg "wrong_size" = some (.ref A.a_wrong_size)
  f_wrong_size : Fun K "wrong_size" "wrong_size" st_wrong_size A.a_wrong_size A.d_wrong_size
  b_wrong_size : Binds K A.d_wrong_size ["sizes"] []
  g_wrong_mark : mg "wrong_mark" = some (.ref A.a_wrong_mark)
  f_wrong_mark : Fun K "wrong_mark" "wrong_mark" st_wrong_mark A.a_wrong_mark A.d_wrong_mark
  b_wrong_mark : Binds K A.d_wrong_mark ["marks", "count", "many"] []
  f_Board_init : Fun K "__init__" "Board.__init__" st_Board_init A.a_Board_init A.d_Board_init
  b_Board_init : Binds K A.d_Board_init ["self", "many", "sizes", "marks"] []
  f_Board_eq : Fun K "__eq__" "Board.__eq__" st_Board_eq A.a_Board_eq A.d_Board_eq
  b_Board_eq : Binds K A.d_Board_eq ["self", "other"] []
  f_Board_len : Fun K "__len__" "Board.__len__" st_Board_len A.a_Board_len A.d_Board_len
  b_Board_len : Binds K A.d_Board_len ["self"] []
  f_Board_call : Fun K "__call__" "Board.__call__" st_Board_call A.a_Board_call A.d_Board_call
  b_Board_call : Binds K A.d_Board_call ["self", "setting"] []
  f_Board_text : Fun K "text" "Board.text" st_Board_text A.a_Board_text A.d_Board_text
  b_Board_text : Binds K A.d_Board_text ["self"] []
  f_Board_read : Fun K "read" "Board.read" st_Board_read A.a_Board_read A.d_Board_read
  b_Board_read : Binds K A.d_Board_read ["text"] []
  g_many_of_row : mg "many_of_row" = some (.ref A.a_many_of_row)
  f_many_of_row : Fun K "many_of_row" "many_of_row" st_many_of_row A.a_many_of_row A.d_many_of_row
  b_many_of_row : Binds K A.d_many_of_row ["row"] []
  g_sizes_of_row : mg "sizes_of_row" = some (.ref A.a_sizes_of_row)
  f_sizes_of_row : Fun K "sizes_of_row" "sizes_of_row" st_sizes_of_row A.a_sizes_of_row A.d_sizes_of_row
  b_sizes_of_row : Binds K A.d_sizes_of_row ["row"] []
  g_law_box : mg "_law_box" = some (.ref A.a_law_box)
  f_law_box : Fun K "_law_box" "_law_box" st_law_box A.a_law_box A.d_law_box
  b_law_box : Binds K A.d_law_box ["script", "k"] []
  g_law_take : mg "_law_take" = some (.ref A.a_law_take)
  f_law_take : Fun K "_law_take" "_law_take" st_law_take A.a_law_take A.d_law_take
  b_law_take : Binds K A.d_law_take ["box", "many"] []
  g_law_pick : mg "_law_pick" = some (.ref A.a_law_pick)
  f_law_pick : Fun K "_law_pick" "_law_pick" st_law_pick A.a_law_pick A.d_law_pick
  b_law_pick : Binds K A.d_law_pick ["box", "some"] []
  g_law_count : mg "_law_count" = some (.ref A.a_law_count)
  f_law_count : Fun K "_law_count" "_law_count" st_law_count A.a_law_count A.d_law_count
  b_law_count : Binds K A.d_law_count ["sizes"] []
  g_law_number : mg "_law_number" = some (.ref A.a_law_number)
  f_law_number : Fun K "_law_number" "_law_number" st_law_number A.a_law_number A.d_law_number
  b_law_number : Binds K A.d_law_number ["text", "most"] []
  g_law_words : mg "_law_words" = some (.ref A.a_law_words)
  f_law_words : Fun K "_law_words" "_law_words" st_law_words A.a_law_words A.d_law_words
  b_law_words : Binds K A.d_law_words ["text"] []
  g_law_rows : mg "_law_rows" = some (.ref A.a_law_rows)
  f_law_rows : Fun K "_law_rows" "_law_rows" st_law_rows A.a_law_rows A.d_law_rows
  b_law_rows : Binds K A.d_law_rows ["text"] []
  g_law_head : mg "_law_head" = some (.ref A.a_law_head)
  f_law_head : Fun K "_law_head" "_law_head" st_law_head A.a_law_head A.d_law_head
  b_law_head : Binds K A.d_law_head ["rows"] []
  g_law_due : mg "_law_due" = some (.ref A.a_law_due)
  f_law_due : Fun K "_law_due" "_law_due" st_law_due A.a_law_due A.d_law_due
  b_law_due : Binds K A.d_law_due ["text"] []
  g_law_told : mg "_law_told" = some (.ref A.a_law_told)
  f_law_told : Fun K "_law_told" "_law_told" st_law_told A.a_law_told A.d_law_told
  b_law_told : Binds K A.d_law_told ["text"] []
  g_law_spoilt : mg "_law_spoilt" = some (.ref A.a_law_spoilt)
  f_law_spoilt : Fun K "_law_spoilt" "_law_spoilt" st_law_spoilt A.a_law_spoilt A.d_law_spoilt
  b_law_spoilt : Binds K A.d_law_spoilt ["box", "text"] []
  g_law_board_right : mg "_law_board_right" = some (.ref A.a_law_board_right)
  f_law_board_right : Fun K "_law_board_right" "_law_board_right" st_law_board_right A.a_law_board_right A.d_law_board_right
  b_law_board_right : Binds K A.d_law_board_right ["box"] []
  g_law : mg "law" = some (.ref A.a_law)
  f_law : Fun K "law" "law" st_law A.a_law A.d_law
  b_law : Binds K A.d_law ["script"] []
  c_FIGURES : ∃ t, mg "FIGURES" = some (.str "0123456789" t)
  c_MOST_MARKS : ∃ t, mg "MOST_MARKS" = some (.int 8 t)
  c_MOST_PARTS : ∃ t, mg "MOST_PARTS" = some (.int 8 t)
  c_MOST_SETTINGS : ∃ t, mg "MOST_SETTINGS" = some (.int 20000 t)
  n_ValueError : mg "ValueError" = none
  n_abs : mg "abs" = none
  n_all : mg "all" = none
  n_bool : mg "bool" = none
  n_enumerate : mg "enumerate" = none
  n_int : mg "int" = none
  n_isinstance : mg "isinstance" = none
  n_len : mg "len" = none
  n_list : mg "list" = none
  n_min : mg "min" = none
  n_range : mg "range" = none
  n_repr : mg "repr" = none
  n_reversed : mg "reversed" = none
  n_str : mg "str" = none
  n_tuple : mg "tuple" = none
  n_zip : mg "zip" = none
  g_BoardError : mg "BoardError" = some (.ref A.a_BoardError)
  g_InvalidBoard : mg "InvalidBoard" = some (.ref A.a_InvalidBoard)
  g_InvalidSetting : mg "InvalidSetting" = some (.ref A.a_InvalidSetting)
  g_InvalidText : mg "InvalidText" = some (.ref A.a_InvalidText)
  g_InvalidSize : mg "InvalidSize" = some (.ref A.a_InvalidSize)
  g_Board : mg "Board" = some (.ref A.a_Board)
  e_InvalidBoard : ER.Txt K PP.main.file mg A.a_InvalidBoard A.a_InvalidBoard_init A.a_BoardError "at"
  xf_InvalidBoard : XfC K A.a_InvalidBoard
  nx_InvalidBoard : PySem.W.findIn K (.ref A.a_InvalidBoard) "at" = some none
  exc_InvalidBoard : ExcC K A.a_InvalidBoard
  e_InvalidSetting : ER.Txt K PP.main.file mg A.a_InvalidSetting A.a_InvalidSetting_init A.a_BoardError "at"
  xf_InvalidSetting : XfC K A.a_InvalidSetting
  nx_InvalidSetting : PySem.W.findIn K (.ref A.a_InvalidSetting) "at" = some none
  exc_InvalidSetting : ExcC K A.a_InvalidSetting
  e_InvalidText : ER.Txt K PP.main.file mg A.a_InvalidText A.a_InvalidText_init A.a_BoardError "at"
  xf_InvalidText : XfC K A.a_InvalidText
  nx_InvalidText : PySem.W.findIn K (.ref A.a_InvalidText) "at" = some none
  exc_InvalidText : ExcC K A.a_InvalidText
  e_InvalidSize : ER.Txt K PP.main.file mg A.a_InvalidSize A.a_InvalidSize_init A.a_BoardError "word"
  xf_InvalidSize : XfC K A.a_InvalidSize
  nx_InvalidSize : PySem.W.findIn K (.ref A.a_InvalidSize) "word" = some none
  exc_InvalidSize : ExcC K A.a_InvalidSize
  cls_Board : Cls K A.a_Board
  na_Board : ∀ f ∈ (["many", "sizes", "marks", "steps"] : List Str), NoAttr K A.a_Board f
  mk_Board : Mk K A.a_Board A.a_Board_init
  ok_Board : ObjK K A.a_Board
  Board_eqAt : PySem.W.findIn K (.ref A.a_Board) "__eq__" = some (some (.ref A.a_Board_eq))
  Board_eqFn : PySem.W.isFn K (.ref A.a_Board_eq) = true
  Board_eqFi : PySem.W.fnIn K A.a_Board_eq = true
  Board_lenAt : PySem.W.findIn K (.ref A.a_Board) "__len__" = some (some (.ref A.a_Board_len))
  Board_lenFn : PySem.W.isFn K (.ref A.a_Board_len) = true
  Board_lenFi : PySem.W.fnIn K A.a_Board_len = true
  Board_callAt : PySem.W.findIn K (.ref A.a_Board) "__call__" = some (some (.ref A.a_Board_call))
  Board_callFn : PySem.W.isFn K (.ref A.a_Board_call) = true
  Board_callFi : PySem.W.fnIn K A.a_Board_call = true
  sm_Board_read : SMet K A.a_Board "read" A.a_Board_read
  mt_Board_text : Meth K A.a_Board "text" A.a_Board_text
  Board_neAt : PySem.W.findIn K (.ref A.a_Board) "__ne__" = some (some (.builtin "object.__ne__"))
  Board_mro : PySem.W.mroIn K A.a_Board (.type "object") = some true
  kb_Board_read : KBinds K A.d_Board_read ["text"] ["text"] (pk0 [0]) (pk0 [0])
theorem htop : (PP.main.scope.names.lookup ("super" : Str)).isSome = false := by decide +kernel
variable {w : World} {K : PySem.W.Frag} {mg : Str → Option Value} {base : Heap} {A : Ad}
def w_is_integer (K : PySem.W.Frag) (A : Ad) : SW := wSeq (wRet (wAndV (wIsC K (.type "int") (wVar 0)) (wNotV (wIsC K (.type "bool") (wVar 0))))) (wNext)
def p_is_integer (K : PySem.W.Frag) (A : Ad) : VSp := bodyV 1 1 (w_is_integer K A)
theorem ok_is_integer (T : Txt K mg A) : FnG PP w K mg base (L2.CX PP w) 2 A.a_is_integer A.d_is_integer ["value"] (spV K (p_is_integer K A)) := fn_okXV T.f_is_integer sc_is_integer fun cdv A0 outer s H E hr => by
  have tk : Takes (cxOf (L2.CX PP w) PP w K mg base ["value"] "is_integer" (defScope st_is_integer) A.a_is_integer cdv A0 outer s H E) (fun cls d _ H => E cls d H) := takes_of rfl rfl rfl rfl
  have po : PassesOwn (model PP w) (cxOf (L2.CX PP w) PP w K mg base ["value"] "is_integer" (defScope st_is_integer) A.a_is_integer cdv A0 outer s H E).A (cxOf (L2.CX PP w) PP w K mg base ["value"] "is_integer" (defScope st_is_integer) A.a_is_integer cdv A0 outer s H E).env (cxOf (L2.CX PP w) PP w K mg base ["value"] "is_integer" (defScope st_is_integer) A.a_is_integer cdv A0 outer s H E).xe := passes_of rfl
  have h64 := hu64 hr
  have h65 := hu65 hr
  have h200 := hu200 hr
  have hg0 := hr.g
  exact (vss_cons (vs_ret (ve_and (ve_isB rfl T.n_isinstance rfl T.n_int bt_int (ve_var 0 (pv 0))) (ve_one (ve_not (ve_isB rfl T.n_isinstance rfl T.n_bool bt_bool (ve_var 0 (pv 0))))))) vss_nil)
def w_is_number (K : PySem.W.Frag) (A : Ad) : SW := wSeq (wRet (wAndV (wCall (p_is_integer K A) (wCons (wVar 0) wNil)) (wOp dGe (wVar 0) (wC (.int 0))))) (wNext)
def p_is_number (K : PySem.W.Frag) (A : Ad) : VSp := bodyV 1 1 (w_is_number K A)
theorem ok_is_number (T : Txt K mg A) : FnG PP w K mg base (L2.CX PP w) 3 A.a_is_number A.d_is_number ["value"] (spV K (p_is_number K A)) := fn_okXV T.f_is_number sc_is_number fun cdv A0 outer s H E hr => by
  have tk : Takes (cxOf (L2.CX PP w) PP w K mg base ["value"] "is_number" (defScope st_is_number) A.a_is_number cdv A0 outer s H E) (fun cls d _ H => E cls d H) := takes_of rfl rfl rfl rfl
  have po : PassesOwn (model PP w) (cxOf (L2.CX PP w) PP w K mg base ["value"] "is_number" (defScope st_is_number) A.a_is_number cdv A0 outer s H E).A (cxOf (L2.CX PP w) PP w K mg base ["value"] "is_number" (defScope st_is_number) A.a_is_number cdv A0 outer s H E).env (cxOf (L2.CX PP w) PP w K mg base ["value"] "is_number" (defScope st_is_number) A.a_is_number cdv A0 outer s H E).xe := passes_of rfl
  have h64 := hu64 hr
  have h65 := hu65 hr
  have h200 := hu200 hr
  have hg0 := hr.g
  exact (vss_cons (vs_ret (ve_and (ve_call (ok_is_integer T) (hr.mono (by decide)) rfl T.g_is_integer (T.f_is_integer).kp T.b_is_integer (passXV tk) (va_cons (ve_var 0 (pv 0)) va_nil)) (ve_one (ve_cmp op_geV (ve_var 0 (pv 0)) ve_int rfl)))) vss_nil)
def w_is_text (K : PySem.W.Frag) (A : Ad) : SW := wSeq (wRet (wIsC K (.type "str") (wVar 0))) (wNext)
def p_is_text (K : PySem.W.Frag) (A : Ad) : VSp := bodyV 1 1 (w_is_text K A)
theorem ok_is_text (T : Txt K mg A) : FnG PP w K mg base (L2.CX PP w) 2 A.a_is_text A.d_is_text ["value"] (spV K (p_is_text K A)) := fn_okXV T.f_is_text sc_is_text fun cdv A0 outer s H E hr => by
  have tk : Takes (cxOf (L2.CX PP w) PP w K mg base ["value"] "is_text" (defScope st_is_text) A.a_is_text cdv A0 outer s H E) (fun cls d _ H => E cls d H) := takes_of rfl rfl rfl rfl
  have po : PassesOwn (model PP w) (cxOf (L2.CX PP w) PP w K mg base ["value"] "is_text" (defScope st_is_text) A.a_is_text cdv A0 outer s H E).A (cxOf (L2.CX PP w) PP w K mg base ["value"] "is_text" (defScope st_is_text) A.a_is_text cdv A0 outer s H E).env (cxOf (L2.CX PP w) PP w K mg base ["value"] "is_text" (defScope st_is_text) A.a_is_text cdv A0 outer s H E).xe := passes_of rfl
  have h64 := hu64 hr
  have h65 := hu65 hr
  have h200 := hu200 hr
  have hg0 := hr.g
  exact (vss_cons (vs_ret (ve_isB rfl T.n_isinstance rfl T.n_str bt_str (ve_var 0 (pv 0)))) vss_nil)
def w_is_sequence (K : PySem.W.Frag) (A : Ad) : SW := wSeq (wRet (wIsiT ["list", "tuple"] (wVar 0))) (wNext)
def p_is_sequence (K : PySem.W.Frag) (A : Ad) : VSp := bodyV 1 1 (w_is_sequence K A)
theorem ok_is_sequence (T : Txt K mg A) : FnG PP w K mg base (L2.CX PP w) 2 A.a_is_sequence A.d_is_sequence ["value"] (spV K (p_is_sequence K A)) := fn_okXV T.f_is_sequence sc_is_sequence fun cdv A0 outer s H E hr => by
  have tk : Takes (cxOf (L2.CX PP w) PP w K mg base ["value"] "is_sequence" (defScope st_is_sequence) A.a_is_sequence cdv A0 outer s H E) (fun cls d _ H => E cls d H) := takes_of rfl rfl rfl rfl
  have po : PassesOwn (model PP w) (cxOf (L2.CX PP w) PP w K mg base ["value"] "is_sequence" (defScope st_is_sequence) A.a_is_sequence cdv A0 outer s H E).A (cxOf (L2.CX PP w) PP w K mg base ["value"] "is_sequence" (defScope st_is_sequence) A.a_is_sequence cdv A0 outer s H E).env (cxOf (L2.CX PP w) PP w K mg base ["value"] "is_sequence" (defScope st_is_sequence) A.a_is_sequence cdv A0 outer s H E).xe := passes_of rfl
  have h64 := hu64 hr
  have h65 := hu65 hr
  have h200 := hu200 hr
  have hg0 := hr.g
  exact (vss_cons (vs_ret (ve_isiT (by decide) (pe_callB call_isiT rfl T.n_isinstance bt_isinstance (pa_cons (ve_var 0 (pv 0)) (pa_cons (pe_tup (pa_cons (pe_bltn rfl T.n_list bt_list rfl) (pa_cons (pe_bltn rfl T.n_tuple bt_tuple rfl) pa_nil))) pa_nil))))) vss_nil)
def w_is_number_text (K : PySem.W.Frag) (A : Ad) : SW := wSeq (wIfS (wOr (wNot (wTst (wChain dLe dLe (wC (.int 1)) (wCB dLen (wCons (wVar 0) wNil)) (wVar 1)))) (wNot (wTru (wCB (dBools fun bs => bs.all id) (wCons (wLc (.nm 2) [2] (wItS (wVar 0)) (wYes) (wOp dInS (wVar 2) (wC (.str "0123456789")))) wNil))))) (wSeq (wRet (wC (.bool false))) (wNext)) (wNext)) (wSeq (wRet (wOrV (wOp dNe (wOp dIx (wVar 0) (wC (.int 0))) (wC (.str "0"))) (wOp dEq (wVar 0) (wC (.str "0"))))) (wNext))
def p_is_number_text (K : PySem.W.Frag) (A : Ad) : VSp := bodyV 3 2 (w_is_number_text K A)
theorem ok_is_number_text (T : Txt K mg A) : FnG PP w K mg base (L2.CX PP w) 2 A.a_is_number_text A.d_is_number_text ["value", "most"] (spV K (p_is_number_text K A)) := fn_okXV T.f_is_number_text sc_is_number_text fun cdv A0 outer s H E hr => by
  have tk : Takes (cxOf (L2.CX PP w) PP w K mg base ["value", "most", "sign"] "is_number_text" (defScope st_is_number_text) A.a_is_number_text cdv A0 outer s H E) (fun cls d _ H => E cls d H) := takes_of rfl rfl rfl rfl
  have po : PassesOwn (model PP w) (cxOf (L2.CX PP w) PP w K mg base ["value", "most", "sign"] "is_number_text" (defScope st_is_number_text) A.a_is_number_text cdv A0 outer s H E).A (cxOf (L2.CX PP w) PP w K mg base ["value", "most", "sign"] "is_number_text" (defScope st_is_number_text) A.a_is_number_text cdv A0 outer s H E).env (cxOf (L2.CX PP w) PP w K mg base ["value", "most", "sign"] "is_number_text" (defScope st_is_number_text) A.a_is_number_text cdv A0 outer s H E).xe := passes_of rfl
  have h64 := hu64 hr
  have h65 := hu65 hr
  have h200 := hu200 hr
  have hg0 := hr.g
  exact (vss_cons (vs_if (vt_w (vw_or (vt_not (vt_chain op_leV op_leV ve_int (ve_callB call_lenV rfl T.n_len bt_len (va_cons (ve_var 0 (pv 0)) va_nil)) (ve_var 1 (pv 1)))) (vw_or1 (vt_not (vt_tru (ve_callB (call_allV rfl) rfl T.n_all bt_all (va_cons (ve_lc (own := [("sign", 2)]) rfl sc_is_number_text.nd (vi_str (ve_var 0 (pv 0))) (blkOk_by rfl) (by decide) (fun _ _ _ _ _ => (pg_name (i := 2) sc_is_number_text.nd rfl (.inl rfl))) (fun _ _ _ _ _ => vts_nil) (fun _ _ _ _ _ => (ve_cmp op_inSV (ve_var 2 (pv 2)) (ve_c (by obtain ⟨t, ht⟩ := T.c_FIGURES; exact pe_glob rfl ht ⟨t, rfl⟩) fun _ _ => .str "0123456789") rfl))) va_nil))))))) (vss_cons (vs_ret ve_bl) vss_nil) vss_nil) (vss_cons (vs_ret (ve_or (ve_cmp (op_neV h64) (ve_ix (ve_var 0 (pv 0)) ve_int (fun _ _ => rfl)) ve_str rfl) (ve_one (ve_cmp (op_eqV h64) (ve_var 0 (pv 0)) ve_str rfl)))) vss_nil))
def w_settings_count (K : PySem.W.Frag) (A : Ad) : SW := wSeq (wSet 1 (wC (.int 1))) (wSeq (wFor (.nm 2) (wIt (wVar 0)) (wSeq (wSet 1 (wOp dMul (wVar 1) (wVar 2))) (wNext))) (wSeq (wRet (wVar 1)) (wNext)))
def p_settings_count (K : PySem.W.Frag) (A : Ad) : VSp := bodyV 3 1 (w_settings_count K A)
theorem ok_settings_count (T : Txt K mg A) : FnG PP w K mg base (L2.CX PP w) 2 A.a_settings_count A.d_settings_count ["sizes"] (spV K (p_settings_count K A)) := fn_okXV T.f_settings_count sc_settings_count fun cdv A0 outer s H E hr => by
  have tk : Takes (cxOf (L2.CX PP w) PP w K mg base ["sizes", "count", "size"] "settings_count" (defScope st_settings_count) A.a_settings_count cdv A0 outer s H E) (fun cls d _ H => E cls d H) := takes_of rfl rfl rfl rfl
  have po : PassesOwn (model PP w) (cxOf (L2.CX PP w) PP w K mg base ["sizes", "count", "size"] "settings_count" (defScope st_settings_count) A.a_settings_count cdv A0 outer s H E).A (cxOf (L2.CX PP w) PP w K mg base ["sizes", "count", "size"] "settings_count" (defScope st_settings_count) A.a_settings_count cdv A0 outer s H E).env (cxOf (L2.CX PP w) PP w K mg base ["sizes", "count", "size"] "settings_count" (defScope st_settings_count) A.a_settings_count cdv A0 outer s H E).xe := passes_of rfl
  have h64 := hu64 hr
  have h65 := hu65 hr
  have h200 := hu200 hr
  have hg0 := hr.g
  exact (vss_cons (vs_set (ps_set (i := 1) sc_settings_count.nd rfl (.inl rfl) ve_int)) (vss_cons (vs_for (vg_of (t := .nm 2) (pg_name (i := 2) sc_settings_count.nd rfl (.inl rfl))) fun g hg => ps_for po rfl (vi_seq (ve_var 0 (pv 0))) hg (vss_cons (vs_set (ps_set (i := 1) sc_settings_count.nd rfl (.inl rfl) (ve_op op_mulV (ve_var 1 (pv 1)) (ve_var 2 (pv 2))))) vss_nil)) (vss_cons (vs_ret (ve_var 1 (pv 1))) vss_nil)))
def w_steps_of (K : PySem.W.Frag) (A : Ad) : SW := wSeq (wSet 1 (wLst (wNil))) (wSeq (wSet 2 (wC (.int 1))) (wSeq (wFor (.nm 3) (wRev (wVar 0)) (wSeq (wDrop (wApp (wVar 1) (wVar 2))) (wSeq (wSet 2 (wOp dMul (wVar 2) (wVar 3))) (wNext)))) (wSeq (wRet (wTupRev (wVar 1))) (wNext))))
def p_steps_of (K : PySem.W.Frag) (A : Ad) : VSp := bodyV 4 1 (w_steps_of K A)
theorem ok_steps_of (T : Txt K mg A) : FnG PP w K mg base (L2.CX PP w) 2 A.a_steps_of A.d_steps_of ["sizes"] (spV K (p_steps_of K A)) := fn_okXV T.f_steps_of sc_steps_of fun cdv A0 outer s H E hr => by
  have tk : Takes (cxOf (L2.CX PP w) PP w K mg base ["sizes", "steps", "step", "size"] "steps_of" (defScope st_steps_of) A.a_steps_of cdv A0 outer s H E) (fun cls d _ H => E cls d H) := takes_of rfl rfl rfl rfl
  have po : PassesOwn (model PP w) (cxOf (L2.CX PP w) PP w K mg base ["sizes", "steps", "step", "size"] "steps_of" (defScope st_steps_of) A.a_steps_of cdv A0 outer s H E).A (cxOf (L2.CX PP w) PP w K mg base ["sizes", "steps", "step", "size"] "steps_of" (defScope st_steps_of) A.a_steps_of cdv A0 outer s H E).env (cxOf (L2.CX PP w) PP w K mg base ["sizes", "steps", "step", "size"] "steps_of" (defScope st_steps_of) A.a_steps_of cdv A0 outer s H E).xe := passes_of rfl
  have h64 := hu64 hr
  have h65 := hu65 hr
  have h200 := hu200 hr
  have hg0 := hr.g
  exact (vss_cons (vs_set (ps_set (i := 1) sc_steps_of.nd rfl (.inl rfl) (ve_lst va_nil))) (vss_cons (vs_set (ps_set (i := 2) sc_steps_of.nd rfl (.inl rfl) ve_int)) (vss_cons (vs_for (vg_of (t := .nm 3) (pg_name (i := 3) sc_steps_of.nd rfl (.inl rfl))) fun g hg => ps_for po rfl (vi_rev (RT.pi_revA rfl T.n_reversed (ve_var 0 (pv 0)))) hg (vss_cons (vs_expr (ve_append (pe_bm PySem.F.plainAttrs_list PySem.F.slot_list_append PySem.F.type_list_append mt_append (ve_var 1 (pv 1)) (va_cons (ve_var 2 (pv 2)) va_nil)))) (vss_cons (vs_set (ps_set (i := 2) sc_steps_of.nd rfl (.inl rfl) (ve_op op_mulV (ve_var 2 (pv 2)) (ve_var 3 (pv 3))))) vss_nil))) (vss_cons (vs_ret (ve_tupRev (RT.pe_tupRev rfl rfl T.n_tuple rfl T.n_reversed (ve_var 1 (pv 1))))) vss_nil))))
def w_setting_number (K : PySem.W.Frag) (A : Ad) : SW := wSeq (wSet 2 (wC (.int 0))) (wSeq (wFor (.tp [.nm 3, .nm 4]) (wZip (wCons (wVar 0) (wCons (wVar 1) wNil))) (wSeq (wSet 2 (wOp dAdd (wOp dMul (wVar 2) (wVar 3)) (wVar 4))) (wNext))) (wSeq (wRet (wVar 2)) (wNext)))
def p_setting_number (K : PySem.W.Frag) (A : Ad) : VSp := bodyV 5 2 (w_setting_number K A)
theorem ok_setting_number (T : Txt K mg A) : FnG PP w K mg base (L2.CX PP w) 2 A.a_setting_number A.d_setting_number ["sizes", "setting"] (spV K (p_setting_number K A)) := fn_okXV T.f_setting_number sc_setting_number fun cdv A0 outer s H E hr => by
  have tk : Takes (cxOf (L2.CX PP w) PP w K mg base ["sizes", "setting", "number", "size", "content"] "setting_number" (defScope st_setting_number) A.a_setting_number cdv A0 outer s H E) (fun cls d _ H => E cls d H) := takes_of rfl rfl rfl rfl
  have po : PassesOwn (model PP w) (cxOf (L2.CX PP w) PP w K mg base ["sizes", "setting", "number", "size", "content"] "setting_number" (defScope st_setting_number) A.a_setting_number cdv A0 outer s H E).A (cxOf (L2.CX PP w) PP w K mg base ["sizes", "setting", "number", "size", "content"] "setting_number" (defScope st_setting_number) A.a_setting_number cdv A0 outer s H E).env (cxOf (L2.CX PP w) PP w K mg base ["sizes", "setting", "number", "size", "content"] "setting_number" (defScope st_setting_number) A.a_setting_number cdv A0 outer s H E).xe := passes_of rfl
  have h64 := hu64 hr
  have h65 := hu65 hr
  have h200 := hu200 hr
  have hg0 := hr.g
  exact (vss_cons (vs_set (ps_set (i := 2) sc_setting_number.nd rfl (.inl rfl) ve_int)) (vss_cons (vs_for (vg_of (t := .tp [.nm 3, .nm 4]) (pg_tup rfl (pgs_cons (pg_name (i := 3) sc_setting_number.nd rfl (.inl rfl)) (pgs_cons (pg_name (i := 4) sc_setting_number.nd rfl (.inl rfl)) pgs_nil)))) fun g hg => ps_for po rfl (vi_zip (ZM.pi_zipS rfl T.n_zip (va_cons (ve_var 0 (pv 0)) (va_cons (ve_var 1 (pv 1)) va_nil)))) hg (vss_cons (vs_set (ps_set (i := 2) sc_setting_number.nd rfl (.inl rfl) (ve_op op_addV (ve_op op_mulV (ve_var 2 (pv 2)) (ve_var 3 (pv 3))) (ve_var 4 (pv 4))))) vss_nil)) (vss_cons (vs_ret (ve_var 2 (pv 2))) vss_nil)))
def w_wrong_content (K : PySem.W.Frag) (A : Ad) : SW := wSeq (wIfS (wOr (wNot (wTru (wCall (p_is_sequence K A) (wCons (wVar 1) wNil)))) (wTst (wOp dNe (wCB dLen (wCons (wVar 1) wNil)) (wCB dLen (wCons (wVar 0) wNil))))) (wSeq (wRet (wNeg (wC (.int 1)))) (wNext)) (wNext)) (wSeq (wFor (.tp [.nm 2, .nm 3]) (wEnu (wVar 1)) (wSeq (wIfS (wOr (wNot (wTru (wCall (p_is_number K A) (wCons (wVar 3) wNil)))) (wTst (wOp dGe (wVar 3) (wOp dIx (wVar 0) (wVar 2))))) (wSeq (wRet (wVar 2)) (wNext)) (wNext)) (wNext))) (wSeq (wRet (wC .none)) (wNext)))
def p_wrong_content (K : PySem.W.Frag) (A : Ad) : VSp := bodyV 4 2 (w_wrong_content K A)
theorem ok_wrong_content (T : Txt K mg A) : FnG PP w K mg base (L2.CX PP w) 4 A.a_wrong_content A.d_wrong_content ["sizes", "value"] (spV K (p_wrong_content K A)) := fn_okXV T.f_wrong_content sc_wrong_content fun cdv A0 outer s H E hr => by
  have tk : Takes (cxOf (L2.CX PP w) PP w K mg base ["sizes", "value", "at", "content"] "wrong_content" (defScope st_wrong_content) A.a_wrong_content cdv A0 outer s H E) (fun cls d _ H => E cls d H) := takes_of rfl rfl rfl rfl
  have po : PassesOwn (model PP w) (cxOf (L2.CX PP w) PP w K mg base ["sizes", "value", "at", "content"] "wrong_content" (defScope st_wrong_content) A.a_wrong_content cdv A0 outer s H E).A (cxOf (L2.CX PP w) PP w K mg base ["sizes", "value", "at", "content"] "wrong_content" (defScope st_wrong_content) A.a_wrong_content cdv A0 outer s H E).env (cxOf (L2.CX PP w) PP w K mg base ["sizes", "value", "at", "content"] "wrong_content" (defScope st_wrong_content) A.a_wrong_content cdv A0 outer s H E).xe := passes_of rfl
  have h64 := hu64 hr
  have h65 := hu65 hr
  have h200 := hu200 hr
  have hg0 := hr.g
  exact (vss_cons (vs_if (vt_w (vw_or (vt_not (vt_tru (ve_call (ok_is_sequence T) (hr.mono (by decide)) rfl T.g_is_sequence (T.f_is_sequence).kp T.b_is_sequence (passXV tk) (va_cons (ve_var 1 (pv 1)) va_nil)))) (vw_or1 (vt_cmp (op_neV h64) (ve_callB call_lenV rfl T.n_len bt_len (va_cons (ve_var 1 (pv 1)) va_nil)) (ve_callB call_lenV rfl T.n_len bt_len (va_cons (ve_var 0 (pv 0)) va_nil)) rfl)))) (vss_cons (vs_ret (ve_neg ve_int)) vss_nil) vss_nil) (vss_cons (vs_for (vg_of (t := .tp [.nm 2, .nm 3]) (pg_tup rfl (pgs_cons (pg_name (i := 2) sc_wrong_content.nd rfl (.inl rfl)) (pgs_cons (pg_name (i := 3) sc_wrong_content.nd rfl (.inl rfl)) pgs_nil)))) fun g hg => ps_for po rfl (vi_enu (pi_enuA rfl T.n_enumerate (ve_var 1 (pv 1)))) hg (vss_cons (vs_if (vt_w (vw_or (vt_not (vt_tru (ve_call (ok_is_number T) (hr.mono (by decide)) rfl T.g_is_number (T.f_is_number).kp T.b_is_number (passXV tk) (va_cons (ve_var 3 (pv 3)) va_nil)))) (vw_or1 (vt_cmp op_geV (ve_var 3 (pv 3)) (ve_ix (ve_var 0 (pv 0)) (ve_var 2 (pv 2)) (fun _ _ => rfl)) rfl)))) (vss_cons (vs_ret (ve_var 2 (pv 2))) vss_nil) vss_nil) vss_nil)) (vss_cons (vs_ret ve_non) vss_nil)))
def w_wrong_size (K : PySem.W.Frag) (A : Ad) : SW := wSeq (wIfS (wOr (wNot (wTru (wCall (p_is_sequence K A) (wCons (wVar 0) wNil)))) (wNot (wTst (wChain dLe dLe (wC (.int 1)) (wCB dLen (wCons (wVar 0) wNil)) (wC (.int 8)))))) (wSeq (wRet (wNeg (wC (.int 1)))) (wNext)) (wNext)) (wSeq (wFor (.tp [.nm 1, .nm 2]) (wEnu (wVar 0)) (wSeq (wIfS (wOr (wNot (wTru (wCall (p_is_integer K A) (wCons (wVar 2) wNil)))) (wTst (wOp dLt (wVar 2) (wC (.int 1))))) (wSeq (wRet (wVar 1)) (wNext)) (wNext)) (wNext))) (wSeq (wRet (wC .none)) (wNext)))
def p_wrong_size (K : PySem.W.Frag) (A : Ad) : VSp := bodyV 3 1 (w_wrong_size K A)
theorem ok_wrong_size (T : Txt K mg A) : FnG PP w K mg base (L2.CX PP w) 3 A.a_wrong_size A.d_wrong_size ["sizes"] (spV K (p_wrong_size K A)) := fn_okXV T.f_wrong_size sc_wrong_size fun cdv A0 outer s H E hr => by
  have tk : Takes (cxOf (L2.CX PP w) PP w K mg base ["sizes", "at", "size"] "wrong_size" (defScope st_wrong_size) A.a_wrong_size cdv A0 outer s H E) (fun cls d _ H => E cls d H) := takes_of rfl rfl rfl rfl
  have po : PassesOwn (model PP w) (cxOf (L2.CX PP w) PP w K mg base ["sizes", "at", "size"] "wrong_size" (defScope st_wrong_size) A.a_wrong_size cdv A0 outer s H E).A (cxOf (L2.CX PP w) PP w K mg base ["sizes", "at", "size"] "wrong_size" (defScope st_wrong_size) A.a_wrong_size cdv A0 outer s H E).env (cxOf (L2.CX PP w) PP w K mg base ["sizes", "at", "size"] "wrong_size" (defScope st_wrong_size) A.a_wrong_size cdv A0 outer s H E).xe := passes_of rfl
  have h64 := hu64 hr
  have h65 := hu65 hr
  have h200 := hu200 hr
  have hg0 := hr.g
  exact (vss_cons (vs_if (vt_w (vw_or (vt_not (vt_tru (ve_call (ok_is_sequence T) (hr.mono (by decide)) rfl T.g_is_sequence (T.f_is_sequence).kp T.b_is_sequence (passXV tk) (va_cons (ve_var 0 (pv 0)) va_nil)))) (vw_or1 (vt_not (vt_chain op_leV op_leV ve_int (ve_callB call_lenV rfl T.n_len bt_len (va_cons (ve_var 0 (pv 0)) va_nil)) (ve_c (by obtain ⟨t, ht⟩ := T.c_MOST_PARTS; exact pe_glob rfl ht ⟨t, rfl⟩) fun _ _ => .int 8)))))) (vss_cons (vs_ret (ve_neg ve_int)) vss_nil) vss_nil) (vss_cons (vs_for (vg_of (t := .tp [.nm 1, .nm 2]) (pg_tup rfl (pgs_cons (pg_name (i := 1) sc_wrong_size.nd rfl (.inl rfl)) (pgs_cons (pg_name (i := 2) sc_wrong_size.nd rfl (.inl rfl)) pgs_nil)))) fun g hg => ps_for po rfl (vi_enu (pi_enuA rfl T.n_enumerate (ve_var 0 (pv 0)))) hg (vss_cons (vs_if (vt_w (vw_or (vt_not (vt_tru (ve_call (ok_is_integer T) (hr.mono (by decide)) rfl T.g_is_integer (T.f_is_integer).kp T.b_is_integer (passXV tk) (va_cons (ve_var 2 (pv 2)) va_nil)))) (vw_or1 (vt_cmp op_ltV (ve_var 2 (pv 2)) ve_int rfl)))) (vss_cons (vs_ret (ve_var 1 (pv 1))) vss_nil) vss_nil) vss_nil)) (vss_cons (vs_ret ve_non) vss_nil)))
def w_wrong_mark (K : PySem.W.Frag) (A : Ad) : SW := wSeq (wIfS (wOr (wNot (wTru (wCall (p_is_sequence K A) (wCons (wVar 0) wNil)))) (wTst (wOp dNe (wCB dLen (wCons (wVar 0) wNil)) (wVar 1)))) (wSeq (wRet (wNeg (wC (.int 1)))) (wNext)) (wNext)) (wSeq (wFor (.tp [.nm 3, .nm 4]) (wEnu (wVar 0)) (wSeq (wIfS (wOr (wNot (wTru (wCall (p_is_number K A) (wCons (wVar 4) wNil)))) (wTst (wOp dGe (wVar 4) (wVar 2)))) (wSeq (wRet (wVar 3)) (wNext)) (wNext)) (wNext))) (wSeq (wRet (wC .none)) (wNext)))
def p_wrong_mark (K : PySem.W.Frag) (A : Ad) : VSp := bodyV 5 3 (w_wrong_mark K A)
theorem ok_wrong_mark (T : Txt K mg A) : FnG PP w K mg base (L2.CX PP w) 4 A.a_wrong_mark A.d_wrong_mark ["marks", "count", "many"] (spV K (p_wrong_mark K A)) := fn_okXV T.f_wrong_mark sc_wrong_mark fun cdv A0 outer s H E hr => by
  have tk : Takes (cxOf (L2.CX PP w) PP w K mg base ["marks", "count", "many", "at", "mark"] "wrong_mark" (defScope st_wrong_mark) A.a_wrong_mark cdv A0 outer s H E) (fun cls d _ H => E cls d H) := takes_of rfl rfl rfl rfl
  have po : PassesOwn (model PP w) (cxOf (L2.CX PP w) PP w K mg base ["marks", "count", "many", "at", "mark"] "wrong_mark" (defScope st_wrong_mark) A.a_wrong_mark cdv A0 outer s H E).A (cxOf (L2.CX PP w) PP w K mg base ["marks", "count", "many", "at", "mark"] "wrong_mark" (defScope st_wrong_mark) A.a_wrong_mark cdv A0 outer s H E).env (cxOf (L2.CX PP w) PP w K mg base ["marks", "count", "many", "at", "mark"] "wrong_mark" (defScope st_wrong_mark) A.a_wrong_mark cdv A0 outer s H E).xe := passes_of rfl
  have h64 := hu64 hr
  have h65 := hu65 hr
  have h200 := hu200 hr
  have hg0 := hr.g
  exact (vss_cons (vs_if (vt_w (vw_or (vt_not (vt_tru (ve_call (ok_is_sequence T) (hr.mono (by decide)) rfl T.g_is_sequence (T.f_is_sequence).kp T.b_is_sequence (passXV tk) (va_cons (ve_var 0 (pv 0)) va_nil)))) (vw_or1 (vt_cmp (op_neV h64) (ve_callB call_lenV rfl T.n_len bt_len (va_cons (ve_var 0 (pv 0)) va_nil)) (ve_var 1 (pv 1)) rfl)))) (vss_cons (vs_ret (ve_neg ve_int)) vss_nil) vss_nil) (vss_cons (vs_for (vg_of (t := .tp [.nm 3, .nm 4]) (pg_tup rfl (pgs_cons (pg_name (i := 3) sc_wrong_mark.nd rfl (.inl rfl)) (pgs_cons (pg_name (i := 4) sc_wrong_mark.nd rfl (.inl rfl)) pgs_nil)))) fun g hg => ps_for po rfl (vi_enu (pi_enuA rfl T.n_enumerate (ve_var 0 (pv 0)))) hg (vss_cons (vs_if (vt_w (vw_or (vt_not (vt_tru (ve_call (ok_is_number T) (hr.mono (by decide)) rfl T.g_is_number (T.f_is_number).kp T.b_is_number (passXV tk) (va_cons (ve_var 4 (pv 4)) va_nil)))) (vw_or1 (vt_cmp op_geV (ve_var 4 (pv 4)) (ve_var 2 (pv 2)) rfl)))) (vss_cons (vs_ret (ve_var 3 (pv 3))) vss_nil) vss_nil) vss_nil)) (vss_cons (vs_ret ve_non) vss_nil)))
def w_Board_init (K : PySem.W.Frag) (A : Ad) : SW := wSeq (wIfS (wOr (wNot (wTru (wCall (p_is_integer K A) (wCons (wVar 1) wNil)))) (wNot (wTst (wChain dLe dLe (wC (.int 2)) (wVar 1) (wC (.int 8)))))) (wSeq (wRaise A.a_InvalidBoard "at" (wC (.str "many"))) (wNext)) (wNext)) (wSeq (wSet 4 (wCall (p_wrong_size K A) (wCons (wVar 2) wNil))) (wSeq (wIfS (wTst (wOp dNotN (wVar 4) (wC .none))) (wSeq (wRaise A.a_InvalidBoard "at" (wTup (wCons (wC (.str "sizes")) (wCons (wVar 4) wNil)))) (wNext)) (wNext)) (wSeq (wSet 5 (wCall (p_settings_count K A) (wCons (wVar 2) wNil))) (wSeq (wIfS (wTst (wOp dGt (wVar 5) (wC (.int 20000)))) (wSeq (wRaise A.a_InvalidSize "word" (wC (.str "settings"))) (wNext)) (wNext)) (wSeq (wSet 4 (wCall (p_wrong_mark K A) (wCons (wVar 3) (wCons (wVar 5) (wCons (wVar 1) wNil))))) (wSeq (wIfS (wTst (wOp dNotN (wVar 4) (wC .none))) (wSeq (wRaise A.a_InvalidBoard "at" (wTup (wCons (wC (.str "marks")) (wCons (wVar 4) wNil)))) (wNext)) (wNext)) (wNext)))))))
def t_Board_init (K : PySem.W.Frag) (A : Ad) : TW := tThen (wPutT ["many", "sizes", "marks"] (wTup (wCons (wVar 1) (wCons (wCB dTuple (wCons (wVar 2) wNil)) (wCons (wCB dTuple (wCons (wVar 3) wNil)) wNil))))) (tThen (wPutO A.a_Board "steps" (wCall (p_steps_of K A) (wCons (wFld K "sizes" (wVar 0)) wNil))) (tNil))
def i_Board (K : PySem.W.Frag) (A : Ad) : ISp := bodyI 6 4 (w_Board_init K A) (t_Board_init K A)
theorem ok_Board_init (T : Txt K mg A) : FnG PP w K mg base (L2.CX PP w) 5 A.a_Board_init A.d_Board_init ["self", "many", "sizes", "marks"] (spI K A.a_Board (i_Board K A)) := fn_initXV (l1 := (defBody st_Board_init).take 7) (l2 := (defBody st_Board_init).drop 7) T.f_Board_init sc_Board_init (List.take_append_drop _ _).symm (fun cdv A0 outer s H E hr => by
  have tk : Takes (cxOf (L2.CX PP w) PP w K mg base ["self", "many", "sizes", "marks", "at", "count"] "Board.__init__" (defScope st_Board_init) A.a_Board_init cdv A0 outer s H E) (fun cls d _ H => E cls d H) := takes_of rfl rfl rfl rfl
  have po : PassesOwn (model PP w) (cxOf (L2.CX PP w) PP w K mg base ["self", "many", "sizes", "marks", "at", "count"] "Board.__init__" (defScope st_Board_init) A.a_Board_init cdv A0 outer s H E).A (cxOf (L2.CX PP w) PP w K mg base ["self", "many", "sizes", "marks", "at", "count"] "Board.__init__" (defScope st_Board_init) A.a_Board_init cdv A0 outer s H E).env (cxOf (L2.CX PP w) PP w K mg base ["self", "many", "sizes", "marks", "at", "count"] "Board.__init__" (defScope st_Board_init) A.a_Board_init cdv A0 outer s H E).xe := passes_of rfl
  have h64 := hu64 hr
  have h65 := hu65 hr
  have h200 := hu200 hr
  have hg0 := hr.g
  exact (vss_cons (vs_if (vt_w (vw_or (vt_not (vt_tru (ve_call (ok_is_integer T) (hr.mono (by decide)) rfl T.g_is_integer (T.f_is_integer).kp T.b_is_integer (passXV tk) (va_cons (ve_var 1 (pv 1)) va_nil)))) (vw_or1 (vt_not (vt_chain op_leV op_leV ve_int (ve_var 1 (pv 1)) (ve_c (by obtain ⟨t, ht⟩ := T.c_MOST_MARKS; exact pe_glob rfl ht ⟨t, rfl⟩) fun _ _ => .int 8)))))) (vss_cons (vs_raise (ps_raiseOwn rfl T.e_InvalidBoard T.g_InvalidBoard htop (hr.r.mono (Nat.zero_le _)) tk (va_cons ve_str va_nil))) vss_nil) vss_nil) (vss_cons (vs_set (ps_set (i := 4) sc_Board_init.nd rfl (.inl rfl) (ve_call (ok_wrong_size T) (hr.mono (by decide)) rfl T.g_wrong_size (T.f_wrong_size).kp T.b_wrong_size (passXV tk) (va_cons (ve_var 2 (pv 2)) va_nil)))) (vss_cons (vs_if (vt_cmp op_notNV (ve_var 4 (pv 4)) ve_non rfl) (vss_cons (vs_raise (ps_raiseOwn rfl T.e_InvalidBoard T.g_InvalidBoard htop (hr.r.mono (Nat.zero_le _)) tk (va_cons (ve_tup (va_cons ve_str (va_cons (ve_var 4 (pv 4)) va_nil))) va_nil))) vss_nil) vss_nil) (vss_cons (vs_set (ps_set (i := 5) sc_Board_init.nd rfl (.inl rfl) (ve_call (ok_settings_count T) (hr.mono (by decide)) rfl T.g_settings_count (T.f_settings_count).kp T.b_settings_count (passXV tk) (va_cons (ve_var 2 (pv 2)) va_nil)))) (vss_cons (vs_if (vt_cmp op_gtV (ve_var 5 (pv 5)) (ve_c (by obtain ⟨t, ht⟩ := T.c_MOST_SETTINGS; exact pe_glob rfl ht ⟨t, rfl⟩) fun _ _ => .int 20000) rfl) (vss_cons (vs_raise (ps_raiseOwn rfl T.e_InvalidSize T.g_InvalidSize htop (hr.r.mono (Nat.zero_le _)) tk (va_cons ve_str va_nil))) vss_nil) vss_nil) (vss_cons (vs_set (ps_set (i := 4) sc_Board_init.nd rfl (.inl rfl) (ve_call (ok_wrong_mark T) (hr.mono (by decide)) rfl T.g_wrong_mark (T.f_wrong_mark).kp T.b_wrong_mark (passXV tk) (va_cons (ve_var 3 (pv 3)) (va_cons (ve_var 5 (pv 5)) (va_cons (ve_var 1 (pv 1)) va_nil)))))) (vss_cons (vs_if (vt_cmp op_notNV (ve_var 4 (pv 4)) ve_non rfl) (vss_cons (vs_raise (ps_raiseOwn rfl T.e_InvalidBoard T.g_InvalidBoard htop (hr.r.mono (Nat.zero_le _)) tk (va_cons (ve_tup (va_cons ve_str (va_cons (ve_var 4 (pv 4)) va_nil))) va_nil))) vss_nil) vss_nil) vss_nil)))))))) (fun cdv A0 outer s H E hr => by
  have tk : Takes (cxOf (L2.CX PP w) PP w K mg base ["self", "many", "sizes", "marks", "at", "count"] "Board.__init__" (defScope st_Board_init) A.a_Board_init cdv A0 outer s H E) (fun cls d _ H => E cls d H) := takes_of rfl rfl rfl rfl
  have po : PassesOwn (model PP w) (cxOf (L2.CX PP w) PP w K mg base ["self", "many", "sizes", "marks", "at", "count"] "Board.__init__" (defScope st_Board_init) A.a_Board_init cdv A0 outer s H E).A (cxOf (L2.CX PP w) PP w K mg base ["self", "many", "sizes", "marks", "at", "count"] "Board.__init__" (defScope st_Board_init) A.a_Board_init cdv A0 outer s H E).env (cxOf (L2.CX PP w) PP w K mg base ["self", "many", "sizes", "marks", "at", "count"] "Board.__init__" (defScope st_Board_init) A.a_Board_init cdv A0 outer s H E).xe := passes_of rfl
  exact (tss_cons (ts_putT (fl := ["many", "sizes", "marks"]) (T.cls_Board) (by intro f hf; exact T.na_Board f (by revert f hf; decide)) (ps_asg (ve_tup (va_cons (ve_var 1 (pv 1)) (va_cons (ve_callTy call_tupleV rfl T.n_tuple bt_tuple (va_cons (ve_var 2 (pv 2)) va_nil)) (va_cons (ve_callTy call_tupleV rfl T.n_tuple bt_tuple (va_cons (ve_var 3 (pv 3)) va_nil)) va_nil)))) (pg_tup rfl (pgs_cons (pg_fld (pv 0)) (pgs_cons (pg_fld (pv 0)) (pgs_cons (pg_fld (pv 0)) pgs_nil)))))) (tss_cons (ts_putO (f := "steps") (T.cls_Board) (T.na_Board _ (by decide)) (ps_fld (pv 0) (ve_call (ok_steps_of T) (hr.mono (by decide)) rfl T.g_steps_of (T.f_steps_of).kp T.b_steps_of (passXV tk) (va_cons (ve_fld (ve_var 0 (pv 0))) va_nil)) rfl)) tss_nil)))
def w_Board_eq (K : PySem.W.Frag) (A : Ad) : SW := wSeq (wIfS (wNot (wTru (wIsC K (.ref A.a_Board) (wVar 1)))) (wSeq (wRet (wC (.bool false))) (wNext)) (wNext)) (wSeq (wRet (wAndV (wOp dEq (wFld K "many" (wVar 0)) (wFld K "many" (wVar 1))) (wAndV (wOp dEq (wFld K "sizes" (wVar 0)) (wFld K "sizes" (wVar 1))) (wOp dEq (wFld K "marks" (wVar 0)) (wFld K "marks" (wVar 1)))))) (wNext))
def p_Board_eq (K : PySem.W.Frag) (A : Ad) : VSp := bodyV 2 2 (w_Board_eq K A)
theorem ok_Board_eq (T : Txt K mg A) : FnG PP w K mg base (L2.CX PP w) 2 A.a_Board_eq A.d_Board_eq ["self", "other"] (spV K (p_Board_eq K A)) := fn_okXV T.f_Board_eq sc_Board_eq fun cdv A0 outer s H E hr => by
  have tk : Takes (cxOf (L2.CX PP w) PP w K mg base ["self", "other"] "Board.__eq__" (defScope st_Board_eq) A.a_Board_eq cdv A0 outer s H E) (fun cls d _ H => E cls d H) := takes_of rfl rfl rfl rfl
  have po : PassesOwn (model PP w) (cxOf (L2.CX PP w) PP w K mg base ["self", "other"] "Board.__eq__" (defScope st_Board_eq) A.a_Board_eq cdv A0 outer s H E).A (cxOf (L2.CX PP w) PP w K mg base ["self", "other"] "Board.__eq__" (defScope st_Board_eq) A.a_Board_eq cdv A0 outer s H E).env (cxOf (L2.CX PP w) PP w K mg base ["self", "other"] "Board.__eq__" (defScope st_Board_eq) A.a_Board_eq cdv A0 outer s H E).xe := passes_of rfl
  have h64 := hu64 hr
  have h65 := hu65 hr
  have h200 := hu200 hr
  have hg0 := hr.g
  exact (vss_cons (vs_if (vt_not (vt_tru (ve_isO rfl T.n_isinstance rfl T.g_Board (ve_var 1 (pv 1))))) (vss_cons (vs_ret ve_bl) vss_nil) vss_nil) (vss_cons (vs_ret (ve_and (ve_cmp (op_eqV h64) (ve_fld (ve_var 0 (pv 0))) (ve_fld (ve_var 1 (pv 1))) rfl) (ve_and (ve_cmp (op_eqV h64) (ve_fld (ve_var 0 (pv 0))) (ve_fld (ve_var 1 (pv 1))) rfl) (ve_one (ve_cmp (op_eqV h64) (ve_fld (ve_var 0 (pv 0))) (ve_fld (ve_var 1 (pv 1))) rfl))))) vss_nil))
def w_Board_len (K : PySem.W.Frag) (A : Ad) : SW := wSeq (wRet (wCB dLen (wCons (wFld K "sizes" (wVar 0)) wNil))) (wNext)
def p_Board_len (K : PySem.W.Frag) (A : Ad) : VSp := bodyV 1 1 (w_Board_len K A)
theorem ok_Board_len (T : Txt K mg A) : FnG PP w K mg base (L2.CX PP w) 2 A.a_Board_len A.d_Board_len ["self"] (spV K (p_Board_len K A)) := fn_okXV T.f_Board_len sc_Board_len fun cdv A0 outer s H E hr => by
  have tk : Takes (cxOf (L2.CX PP w) PP w K mg base ["self"] "Board.__len__" (defScope st_Board_len) A.a_Board_len cdv A0 outer s H E) (fun cls d _ H => E cls d H) := takes_of rfl rfl rfl rfl
  have po : PassesOwn (model PP w) (cxOf (L2.CX PP w) PP w K mg base ["self"] "Board.__len__" (defScope st_Board_len) A.a_Board_len cdv A0 outer s H E).A (cxOf (L2.CX PP w) PP w K mg base ["self"] "Board.__len__" (defScope st_Board_len) A.a_Board_len cdv A0 outer s H E).env (cxOf (L2.CX PP w) PP w K mg base ["self"] "Board.__len__" (defScope st_Board_len) A.a_Board_len cdv A0 outer s H E).xe := passes_of rfl
  have h64 := hu64 hr
  have h65 := hu65 hr
  have h200 := hu200 hr
  have hg0 := hr.g
  exact (vss_cons (vs_ret (ve_callB call_lenV rfl T.n_len bt_len (va_cons (ve_fld (ve_var 0 (pv 0))) va_nil))) vss_nil)
def w_Board_call (K : PySem.W.Frag) (A : Ad) : SW := wSeq (wSet 2 (wCall (p_wrong_content K A) (wCons (wFld K "sizes" (wVar 0)) (wCons (wVar 1) wNil)))) (wSeq (wIfS (wTst (wOp dNotN (wVar 2) (wC .none))) (wSeq (wRaise A.a_InvalidSetting "at" (wVar 2)) (wNext)) (wNext)) (wSeq (wRet (wOp dIx (wFld K "marks" (wVar 0)) (wCall (p_setting_number K A) (wCons (wFld K "sizes" (wVar 0)) (wCons (wVar 1) wNil))))) (wNext)))
def p_Board_call (K : PySem.W.Frag) (A : Ad) : VSp := bodyV 3 2 (w_Board_call K A)
theorem ok_Board_call (T : Txt K mg A) : FnG PP w K mg base (L2.CX PP w) 5 A.a_Board_call A.d_Board_call ["self", "setting"] (spV K (p_Board_call K A)) := fn_okXV T.f_Board_call sc_Board_call fun cdv A0 outer s H E hr => by
  have tk : Takes (cxOf (L2.CX PP w) PP w K mg base ["self", "setting", "at"] "Board.__call__" (defScope st_Board_call) A.a_Board_call cdv A0 outer s H E) (fun cls d _ H => E cls d H) := takes_of rfl rfl rfl rfl
  have po : PassesOwn (model PP w) (cxOf (L2.CX PP w) PP w K mg base ["self", "setting", "at"] "Board.__call__" (defScope st_Board_call) A.a_Board_call cdv A0 outer s H E).A (cxOf (L2.CX PP w) PP w K mg base ["self", "setting", "at"] "Board.__call__" (defScope st_Board_call) A.a_Board_call cdv A0 outer s H E).env (cxOf (L2.CX PP w) PP w K mg base ["self", "setting", "at"] "Board.__call__" (defScope st_Board_call) A.a_Board_call cdv A0 outer s H E).xe := passes_of rfl
  have h64 := hu64 hr
  have h65 := hu65 hr
  have h200 := hu200 hr
  have hg0 := hr.g
  exact (vss_cons (vs_set (ps_set (i := 2) sc_Board_call.nd rfl (.inl rfl) (ve_call (ok_wrong_content T) (hr.mono (by decide)) rfl T.g_wrong_content (T.f_wrong_content).kp T.b_wrong_content (passXV tk) (va_cons (ve_fld (ve_var 0 (pv 0))) (va_cons (ve_var 1 (pv 1)) va_nil))))) (vss_cons (vs_if (vt_cmp op_notNV (ve_var 2 (pv 2)) ve_non rfl) (vss_cons (vs_raise (ps_raiseOwn rfl T.e_InvalidSetting T.g_InvalidSetting htop (hr.r.mono (Nat.zero_le _)) tk (va_cons (ve_var 2 (pv 2)) va_nil))) vss_nil) vss_nil) (vss_cons (vs_ret (ve_ix (ve_fld (ve_var 0 (pv 0))) (ve_call (ok_setting_number T) (hr.mono (by decide)) rfl T.g_setting_number (T.f_setting_number).kp T.b_setting_number (passXV tk) (va_cons (ve_fld (ve_var 0 (pv 0))) (va_cons (ve_var 1 (pv 1)) va_nil))) (fun _ _ => rfl))) vss_nil)))
def w_Board_text (K : PySem.W.Frag) (A : Ad) : SW := wSeq (wSet 1 (wJoin " " (wLc (.nm 2) [2] (wIt (wFld K "sizes" (wVar 0))) (wYes) (wCB dStr (wCons (wVar 2) wNil))))) (wSeq (wSet 3 (wLst (wCons (wFmt "marks " (wFld K "many" (wVar 0))) (wCons (wFmt "parts " (wVar 1)) wNil)))) (wSeq (wSet 4 (wOp dIx (wFld K "sizes" (wVar 0)) (wNeg (wC (.int 1))))) (wSeq (wFor (.nm 5) (wRg3 (wCons (wC (.int 0)) (wCons (wCB dLen (wCons (wFld K "marks" (wVar 0)) wNil)) (wCons (wVar 4) wNil)))) (wSeq (wDrop (wApp (wVar 3) (wJoin "" (wLc (.nm 6) [6] (wIt (wSlS (wFld K "marks" (wVar 0)) (wOSome (wVar 5)) (wOSome (wOp dAdd (wVar 5) (wVar 4))))) (wYes) (wCB dStr (wCons (wVar 6) wNil)))))) (wNext))) (wSeq (wRet (wJoin "\n" (wVar 3))) (wNext)))))
def p_Board_text (K : PySem.W.Frag) (A : Ad) : VSp := bodyV 7 1 (w_Board_text K A)
theorem ok_Board_text (T : Txt K mg A) : FnG PP w K mg base (L2.CX PP w) 2 A.a_Board_text A.d_Board_text ["self"] (spV K (p_Board_text K A)) := fn_okXV T.f_Board_text sc_Board_text fun cdv A0 outer s H E hr => by
  have tk : Takes (cxOf (L2.CX PP w) PP w K mg base ["self", "told", "size", "rows", "width", "at", "mark"] "Board.text" (defScope st_Board_text) A.a_Board_text cdv A0 outer s H E) (fun cls d _ H => E cls d H) := takes_of rfl rfl rfl rfl
  have po : PassesOwn (model PP w) (cxOf (L2.CX PP w) PP w K mg base ["self", "told", "size", "rows", "width", "at", "mark"] "Board.text" (defScope st_Board_text) A.a_Board_text cdv A0 outer s H E).A (cxOf (L2.CX PP w) PP w K mg base ["self", "told", "size", "rows", "width", "at", "mark"] "Board.text" (defScope st_Board_text) A.a_Board_text cdv A0 outer s H E).env (cxOf (L2.CX PP w) PP w K mg base ["self", "told", "size", "rows", "width", "at", "mark"] "Board.text" (defScope st_Board_text) A.a_Board_text cdv A0 outer s H E).xe := passes_of rfl
  have h64 := hu64 hr
  have h65 := hu65 hr
  have h200 := hu200 hr
  have hg0 := hr.g
  exact (vss_cons (vs_set (ps_set (i := 1) sc_Board_text.nd rfl (.inl rfl) (ve_join (ve_lc (own := [("size", 2)]) rfl sc_Board_text.nd (vi_seq (ve_fld (ve_var 0 (pv 0)))) (blkOk_by rfl) (by decide) (fun _ _ _ _ _ => (pg_name (i := 2) sc_Board_text.nd rfl (.inl rfl))) (fun _ _ _ _ _ => vts_nil) (fun _ _ _ _ _ => (ve_callTy call_strV rfl T.n_str bt_str (va_cons (ve_var 2 (pv 2)) va_nil))))))) (vss_cons (vs_set (ps_set (i := 3) sc_Board_text.nd rfl (.inl rfl) (ve_lst (va_cons (ve_fmt (ve_fld (ve_var 0 (pv 0)))) (va_cons (ve_fmt (ve_var 1 (pv 1))) va_nil))))) (vss_cons (vs_set (ps_set (i := 4) sc_Board_text.nd rfl (.inl rfl) (ve_ix (ve_fld (ve_var 0 (pv 0))) (ve_neg ve_int) (fun _ _ => rfl)))) (vss_cons (vs_for (vg_of (t := .nm 5) (pg_name (i := 5) sc_Board_text.nd rfl (.inl rfl))) fun g hg => ps_for po rfl (vi_rng3 (pi_range3 rfl T.n_range (va_cons ve_int (va_cons (ve_callB call_lenV rfl T.n_len bt_len (va_cons (ve_fld (ve_var 0 (pv 0))) va_nil)) (va_cons (ve_var 4 (pv 4)) va_nil))))) hg (vss_cons (vs_expr (ve_append (pe_bm PySem.F.plainAttrs_list PySem.F.slot_list_append PySem.F.type_list_append mt_append (ve_var 3 (pv 3)) (va_cons (ve_join (ve_lc (own := [("mark", 6)]) rfl sc_Board_text.nd (vi_seq (ve_sliceS fun h => pe_slice h (ve_fld (ve_var 0 (pv 0))) (vo_some (ve_var 5 (pv 5))) (vo_some (ve_op op_addV (ve_var 5 (pv 5)) (ve_var 4 (pv 4)))))) (blkOk_by rfl) (by decide) (fun _ _ _ _ _ => (pg_name (i := 6) sc_Board_text.nd rfl (.inl rfl))) (fun _ _ _ _ _ => vts_nil) (fun _ _ _ _ _ => (ve_callTy call_strV rfl T.n_str bt_str (va_cons (ve_var 6 (pv 6)) va_nil))))) va_nil)))) vss_nil)) (vss_cons (vs_ret (ve_join (ve_var 3 (pv 3)))) vss_nil)))))
def w_many_of_row (K : PySem.W.Frag) (A : Ad) : SW := wSeq (wSet 1 (wSplit " " (wVar 0))) (wSeq (wIfS (wOr (wTst (wOp dNe (wCB dLen (wCons (wVar 1) wNil)) (wC (.int 2)))) (wOr (wTst (wOp dNe (wOp dIx (wVar 1) (wC (.int 0))) (wC (.str "marks")))) (wNot (wTru (wCall (p_is_number_text K A) (wCons (wOp dIx (wVar 1) (wC (.int 1))) (wCons (wC (.int 1)) wNil))))))) (wSeq (wRet (wC .none)) (wNext)) (wNext)) (wSeq (wRet (wIf (wTst (wChain dLe dLe (wC (.int 2)) (wCB dIntS (wCons (wOp dIx (wVar 1) (wC (.int 1))) wNil)) (wC (.int 8)))) (wCB dIntS (wCons (wOp dIx (wVar 1) (wC (.int 1))) wNil)) (wC .none))) (wNext)))
def p_many_of_row (K : PySem.W.Frag) (A : Ad) : VSp := bodyV 2 1 (w_many_of_row K A)
theorem ok_many_of_row (T : Txt K mg A) : FnG PP w K mg base (L2.CX PP w) 3 A.a_many_of_row A.d_many_of_row ["row"] (spV K (p_many_of_row K A)) := fn_okXV T.f_many_of_row sc_many_of_row fun cdv A0 outer s H E hr => by
  have tk : Takes (cxOf (L2.CX PP w) PP w K mg base ["row", "words"] "many_of_row" (defScope st_many_of_row) A.a_many_of_row cdv A0 outer s H E) (fun cls d _ H => E cls d H) := takes_of rfl rfl rfl rfl
  have po : PassesOwn (model PP w) (cxOf (L2.CX PP w) PP w K mg base ["row", "words"] "many_of_row" (defScope st_many_of_row) A.a_many_of_row cdv A0 outer s H E).A (cxOf (L2.CX PP w) PP w K mg base ["row", "words"] "many_of_row" (defScope st_many_of_row) A.a_many_of_row cdv A0 outer s H E).env (cxOf (L2.CX PP w) PP w K mg base ["row", "words"] "many_of_row" (defScope st_many_of_row) A.a_many_of_row cdv A0 outer s H E).xe := passes_of rfl
  have h64 := hu64 hr
  have h65 := hu65 hr
  have h200 := hu200 hr
  have hg0 := hr.g
  exact (vss_cons (vs_set (ps_set (i := 1) sc_many_of_row.nd rfl (.inl rfl) (ve_split rfl (ve_var 0 (pv 0))))) (vss_cons (vs_if (vt_w (vw_or (vt_cmp (op_neV h64) (ve_callB call_lenV rfl T.n_len bt_len (va_cons (ve_var 1 (pv 1)) va_nil)) ve_int rfl) (vw_or (vt_cmp (op_neV h64) (ve_ix (ve_var 1 (pv 1)) ve_int (fun _ _ => rfl)) ve_str rfl) (vw_or1 (vt_not (vt_tru (ve_call (ok_is_number_text T) (hr.mono (by decide)) rfl T.g_is_number_text (T.f_is_number_text).kp T.b_is_number_text (passXV tk) (va_cons (ve_ix (ve_var 1 (pv 1)) ve_int (fun _ _ => rfl)) (va_cons ve_int va_nil))))))))) (vss_cons (vs_ret ve_non) vss_nil) vss_nil) (vss_cons (vs_ret (ve_if (vt_chain op_leV op_leV ve_int (ve_callTy call_intSV rfl T.n_int bt_int (va_cons (ve_ix (ve_var 1 (pv 1)) ve_int (fun _ _ => rfl)) va_nil)) (ve_c (by obtain ⟨t, ht⟩ := T.c_MOST_MARKS; exact pe_glob rfl ht ⟨t, rfl⟩) fun _ _ => .int 8)) (ve_callTy call_intSV rfl T.n_int bt_int (va_cons (ve_ix (ve_var 1 (pv 1)) ve_int (fun _ _ => rfl)) va_nil)) ve_non)) vss_nil)))
def w_sizes_of_row (K : PySem.W.Frag) (A : Ad) : SW := wSeq (wSet 1 (wSplit " " (wVar 0))) (wSeq (wIfS (wOr (wTst (wOp dNe (wOp dIx (wVar 1) (wC (.int 0))) (wC (.str "parts")))) (wNot (wTst (wChain dLe dLe (wC (.int 2)) (wCB dLen (wCons (wVar 1) wNil)) (wOp dAdd (wC (.int 8)) (wC (.int 1))))))) (wSeq (wRet (wC .none)) (wNext)) (wNext)) (wSeq (wIfS (wNot (wTru (wCB (dBools fun bs => bs.all id) (wCons (wLc (.nm 2) [2] (wIt (wSlS (wVar 1) (wOSome (wC (.int 1))) (wONone))) (wYes) (wAndV (wCall (p_is_number_text K A) (wCons (wVar 2) (wCons (wC (.int 5)) wNil))) (wOp dNe (wVar 2) (wC (.str "0"))))) wNil)))) (wSeq (wRet (wC .none)) (wNext)) (wNext)) (wSeq (wRet (wCB dTuple (wCons (wLc (.nm 2) [2] (wIt (wSlS (wVar 1) (wOSome (wC (.int 1))) (wONone))) (wYes) (wCB dIntS (wCons (wVar 2) wNil))) wNil))) (wNext))))
def p_sizes_of_row (K : PySem.W.Frag) (A : Ad) : VSp := bodyV 3 1 (w_sizes_of_row K A)
theorem ok_sizes_of_row (T : Txt K mg A) : FnG PP w K mg base (L2.CX PP w) 3 A.a_sizes_of_row A.d_sizes_of_row ["row"] (spV K (p_sizes_of_row K A)) := fn_okXV T.f_sizes_of_row sc_sizes_of_row fun cdv A0 outer s H E hr => by
  have tk : Takes (cxOf (L2.CX PP w) PP w K mg base ["row", "words", "word"] "sizes_of_row" (defScope st_sizes_of_row) A.a_sizes_of_row cdv A0 outer s H E) (fun cls d _ H => E cls d H) := takes_of rfl rfl rfl rfl
  have po : PassesOwn (model PP w) (cxOf (L2.CX PP w) PP w K mg base ["row", "words", "word"] "sizes_of_row" (defScope st_sizes_of_row) A.a_sizes_of_row cdv A0 outer s H E).A (cxOf (L2.CX PP w) PP w K mg base ["row", "words", "word"] "sizes_of_row" (defScope st_sizes_of_row) A.a_sizes_of_row cdv A0 outer s H E).env (cxOf (L2.CX PP w) PP w K mg base ["row", "words", "word"] "sizes_of_row" (defScope st_sizes_of_row) A.a_sizes_of_row cdv A0 outer s H E).xe := passes_of rfl
  have h64 := hu64 hr
  have h65 := hu65 hr
  have h200 := hu200 hr
  have hg0 := hr.g
  exact (vss_cons (vs_set (ps_set (i := 1) sc_sizes_of_row.nd rfl (.inl rfl) (ve_split rfl (ve_var 0 (pv 0))))) (vss_cons (vs_if (vt_w (vw_or (vt_cmp (op_neV h64) (ve_ix (ve_var 1 (pv 1)) ve_int (fun _ _ => rfl)) ve_str rfl) (vw_or1 (vt_not (vt_chain op_leV op_leV ve_int (ve_callB call_lenV rfl T.n_len bt_len (va_cons (ve_var 1 (pv 1)) va_nil)) (ve_op op_addV (ve_c (by obtain ⟨t, ht⟩ := T.c_MOST_PARTS; exact pe_glob rfl ht ⟨t, rfl⟩) fun _ _ => .int 8) ve_int)))))) (vss_cons (vs_ret ve_non) vss_nil) vss_nil) (vss_cons (vs_if (vt_not (vt_tru (ve_callB (call_allV rfl) rfl T.n_all bt_all (va_cons (ve_lc (own := [("word", 2)]) rfl sc_sizes_of_row.nd (vi_seq (ve_sliceS fun h => pe_slice h (ve_var 1 (pv 1)) (vo_some ve_int) vo_none)) (blkOk_by rfl) (by decide) (fun _ _ _ _ _ => (pg_name (i := 2) sc_sizes_of_row.nd rfl (.inl rfl))) (fun _ _ _ _ _ => vts_nil) (fun _ _ _ _ _ => (ve_and (ve_call (ok_is_number_text T) (hr.mono (by decide)) rfl T.g_is_number_text (T.f_is_number_text).kp T.b_is_number_text passLV (va_cons (ve_var 2 (pv 2)) (va_cons ve_int va_nil))) (ve_one (ve_cmp (op_neV h64) (ve_var 2 (pv 2)) ve_str rfl))))) va_nil)))) (vss_cons (vs_ret ve_non) vss_nil) vss_nil) (vss_cons (vs_ret (ve_callTy call_tupleV rfl T.n_tuple bt_tuple (va_cons (ve_lc (own := [("word", 2)]) rfl sc_sizes_of_row.nd (vi_seq (ve_sliceS fun h => pe_slice h (ve_var 1 (pv 1)) (vo_some ve_int) vo_none)) (blkOk_by rfl) (by decide) (fun _ _ _ _ _ => (pg_name (i := 2) sc_sizes_of_row.nd rfl (.inl rfl))) (fun _ _ _ _ _ => vts_nil) (fun _ _ _ _ _ => (ve_callTy call_intSV rfl T.n_int bt_int (va_cons (ve_var 2 (pv 2)) va_nil)))) va_nil))) vss_nil))))
def w_Board_read (K : PySem.W.Frag) (A : Ad) : SW := wSeq (wIfS (wNot (wTru (wCall (p_is_text K A) (wCons (wVar 0) wNil)))) (wSeq (wRaise A.a_InvalidText "at" (wNeg (wC (.int 1)))) (wNext)) (wNext)) (wSeq (wSet 1 (wSplit "\n" (wVar 0))) (wSeq (wSet 2 (wCall (p_many_of_row K A) (wCons (wOp dIx (wVar 1) (wC (.int 0))) wNil))) (wSeq (wIfS (wTst (wOp dIsN (wVar 2) (wC .none))) (wSeq (wRaise A.a_InvalidText "at" (wC (.int 0))) (wNext)) (wNext)) (wSeq (wSet 3 (wIf (wTst (wOp dGt (wCB dLen (wCons (wVar 1) wNil)) (wC (.int 1)))) (wCall (p_sizes_of_row K A) (wCons (wOp dIx (wVar 1) (wC (.int 1))) wNil)) (wC .none))) (wSeq (wIfS (wTst (wOp dIsN (wVar 3) (wC .none))) (wSeq (wRaise A.a_InvalidText "at" (wC (.int 1))) (wNext)) (wNext)) (wSeq (wSet 4 (wCall (p_settings_count K A) (wCons (wVar 3) wNil))) (wSeq (wIfS (wTst (wOp dGt (wVar 4) (wC (.int 20000)))) (wSeq (wRaise A.a_InvalidSize "word" (wC (.str "settings"))) (wNext)) (wNext)) (wSeq (wPar 5 6 (wLst (wNil)) (wOp dAdd (wC (.int 2)) (wOp dFdv (wVar 4) (wOp dIx (wVar 3) (wNeg (wC (.int 1))))))) (wSeq (wFor (.tp [.nm 7, .nm 8]) (wEnu (wSlS (wVar 1) (wOSome (wC (.int 2))) (wOSome (wVar 6)))) (wSeq (wIfS (wOr (wTst (wOp dNe (wCB dLen (wCons (wVar 8) wNil)) (wOp dIx (wVar 3) (wNeg (wC (.int 1)))))) (wNot (wTru (wCB (dBools fun bs => bs.all id) (wCons (wLc (.nm 9) [9] (wItS (wVar 8)) (wYes) (wAndV (wCall (p_is_number_text K A) (wCons (wVar 9) (wCons (wC (.int 1)) wNil))) (wOp dLt (wCB dIntS (wCons (wVar 9) wNil)) (wVar 2)))) wNil))))) (wSeq (wRaise A.a_InvalidText "at" (wOp dAdd (wC (.int 2)) (wVar 7))) (wNext)) (wNext)) (wSeq (wDrop (wExt (wVar 5) (wCons (wLc (.nm 9) [9] (wItS (wVar 8)) (wYes) (wCB dIntS (wCons (wVar 9) wNil))) wNil))) (wNext)))) (wSeq (wIfS (wTst (wOp dNe (wCB dLen (wCons (wVar 1) wNil)) (wVar 6))) (wSeq (wRaise A.a_InvalidText "at" (wCB dMin (wCons (wCB dLen (wCons (wVar 1) wNil)) (wCons (wVar 6) wNil)))) (wNext)) (wNext)) (wSeq (wRet (wMake A.a_Board (i_Board K A) (wCons (wVar 2) (wCons (wVar 3) (wCons (wVar 5) wNil))))) (wNext))))))))))))
def p_Board_read (K : PySem.W.Frag) (A : Ad) : VSp := bodyV 10 1 (w_Board_read K A)
theorem ok_Board_read (T : Txt K mg A) : FnG PP w K mg base (L2.CX PP w) 7 A.a_Board_read A.d_Board_read ["text"] (spV K (p_Board_read K A)) := fn_okXV T.f_Board_read sc_Board_read fun cdv A0 outer s H E hr => by
  have tk : Takes (cxOf (L2.CX PP w) PP w K mg base ["text", "rows", "many", "sizes", "count", "marks", "due", "at", "row", "sign"] "Board.read" (defScope st_Board_read) A.a_Board_read cdv A0 outer s H E) (fun cls d _ H => E cls d H) := takes_of rfl rfl rfl rfl
  have po : PassesOwn (model PP w) (cxOf (L2.CX PP w) PP w K mg base ["text", "rows", "many", "sizes", "count", "marks", "due", "at", "row", "sign"] "Board.read" (defScope st_Board_read) A.a_Board_read cdv A0 outer s H E).A (cxOf (L2.CX PP w) PP w K mg base ["text", "rows", "many", "sizes", "count", "marks", "due", "at", "row", "sign"] "Board.read" (defScope st_Board_read) A.a_Board_read cdv A0 outer s H E).env (cxOf (L2.CX PP w) PP w K mg base ["text", "rows", "many", "sizes", "count", "marks", "due", "at", "row", "sign"] "Board.read" (defScope st_Board_read) A.a_Board_read cdv A0 outer s H E).xe := passes_of rfl
  have h64 := hu64 hr
  have h65 := hu65 hr
  have h200 := hu200 hr
  have hg0 := hr.g
  exact (vss_cons (vs_if (vt_not (vt_tru (ve_call (ok_is_text T) (hr.mono (by decide)) rfl T.g_is_text (T.f_is_text).kp T.b_is_text (passXV tk) (va_cons (ve_var 0 (pv 0)) va_nil)))) (vss_cons (vs_raise (ps_raiseOwn rfl T.e_InvalidText T.g_InvalidText htop (hr.r.mono (Nat.zero_le _)) tk (va_cons (ve_neg ve_int) va_nil))) vss_nil) vss_nil) (vss_cons (vs_set (ps_set (i := 1) sc_Board_read.nd rfl (.inl rfl) (ve_split rfl (ve_var 0 (pv 0))))) (vss_cons (vs_set (ps_set (i := 2) sc_Board_read.nd rfl (.inr rfl) (ve_call (ok_many_of_row T) (hr.mono (by decide)) rfl T.g_many_of_row (T.f_many_of_row).kp T.b_many_of_row (passXV tk) (va_cons (ve_ix (ve_var 1 (pv 1)) ve_int (fun _ _ => rfl)) va_nil)))) (vss_cons (vs_if (vt_cmp op_isNV (ve_var 2 (pv 2)) ve_non rfl) (vss_cons (vs_raise (ps_raiseOwn rfl T.e_InvalidText T.g_InvalidText htop (hr.r.mono (Nat.zero_le _)) tk (va_cons ve_int va_nil))) vss_nil) vss_nil) (vss_cons (vs_set (ps_set (i := 3) sc_Board_read.nd rfl (.inl rfl) (ve_if (vt_cmp op_gtV (ve_callB call_lenV rfl T.n_len bt_len (va_cons (ve_var 1 (pv 1)) va_nil)) ve_int rfl) (ve_call (ok_sizes_of_row T) (hr.mono (by decide)) rfl T.g_sizes_of_row (T.f_sizes_of_row).kp T.b_sizes_of_row (passXV tk) (va_cons (ve_ix (ve_var 1 (pv 1)) ve_int (fun _ _ => rfl)) va_nil)) ve_non))) (vss_cons (vs_if (vt_cmp op_isNV (ve_var 3 (pv 3)) ve_non rfl) (vss_cons (vs_raise (ps_raiseOwn rfl T.e_InvalidText T.g_InvalidText htop (hr.r.mono (Nat.zero_le _)) tk (va_cons ve_int va_nil))) vss_nil) vss_nil) (vss_cons (vs_set (ps_set (i := 4) sc_Board_read.nd rfl (.inl rfl) (ve_call (ok_settings_count T) (hr.mono (by decide)) rfl T.g_settings_count (T.f_settings_count).kp T.b_settings_count (passXV tk) (va_cons (ve_var 3 (pv 3)) va_nil)))) (vss_cons (vs_if (vt_cmp op_gtV (ve_var 4 (pv 4)) (ve_c (by obtain ⟨t, ht⟩ := T.c_MOST_SETTINGS; exact pe_glob rfl ht ⟨t, rfl⟩) fun _ _ => .int 20000) rfl) (vss_cons (vs_raise (ps_raiseOwn rfl T.e_InvalidSize T.g_InvalidSize htop (hr.r.mono (Nat.zero_le _)) tk (va_cons ve_str va_nil))) vss_nil) vss_nil) (vss_cons (vs_par (ps_par (i := 5) (j := 6) rfl sc_Board_read.nd rfl rfl (by decide) rfl rfl (va_cons (ve_lst va_nil) (va_cons (ve_op op_addV ve_int (ve_op op_fdvV (ve_var 4 (pv 4)) (ve_ix (ve_var 3 (pv 3)) (ve_neg ve_int) (fun _ _ => rfl)))) va_nil)) (by rfl))) (vss_cons (vs_for (vg_of (t := .tp [.nm 7, .nm 8]) (pg_tup rfl (pgs_cons (pg_name (i := 7) sc_Board_read.nd rfl (.inl rfl)) (pgs_cons (pg_name (i := 8) sc_Board_read.nd rfl (.inl rfl)) pgs_nil)))) fun g hg => ps_for po rfl (vi_enu (pi_enuA rfl T.n_enumerate (ve_sliceS fun h => pe_slice h (ve_var 1 (pv 1)) (vo_some ve_int) (vo_some (ve_var 6 (pv 6)))))) hg (vss_cons (vs_if (vt_w (vw_or (vt_cmp (op_neV h64) (ve_callB call_lenV rfl T.n_len bt_len (va_cons (ve_var 8 (pv 8)) va_nil)) (ve_ix (ve_var 3 (pv 3)) (ve_neg ve_int) (fun _ _ => rfl)) rfl) (vw_or1 (vt_not (vt_tru (ve_callB (call_allV rfl) rfl T.n_all bt_all (va_cons (ve_lc (own := [("sign", 9)]) rfl sc_Board_read.nd (vi_str (ve_var 8 (pv 8))) (blkOk_by rfl) (by decide) (fun _ _ _ _ _ => (pg_name (i := 9) sc_Board_read.nd rfl (.inl rfl))) (fun _ _ _ _ _ => vts_nil) (fun _ _ _ _ _ => (ve_and (ve_call (ok_is_number_text T) (hr.mono (by decide)) rfl T.g_is_number_text (T.f_is_number_text).kp T.b_is_number_text passLV (va_cons (ve_var 9 (pv 9)) (va_cons ve_int va_nil))) (ve_one (ve_cmp op_ltV (ve_callTy call_intSV rfl T.n_int bt_int (va_cons (ve_var 9 (pv 9)) va_nil)) (ve_var 2 (pv 2)) rfl))))) va_nil))))))) (vss_cons (vs_raise (ps_raiseOwn rfl T.e_InvalidText T.g_InvalidText htop (hr.r.mono (Nat.zero_le _)) tk (va_cons (ve_op op_addV ve_int (ve_var 7 (pv 7))) va_nil))) vss_nil) vss_nil) (vss_cons (vs_expr (ve_extend (pe_bm PySem.F.plainAttrs_list PySem.F.slot_list_extend PySem.F.type_list_extend mt_extA (ve_var 5 (pv 5)) (va_cons (ve_lc (own := [("sign", 9)]) rfl sc_Board_read.nd (vi_str (ve_var 8 (pv 8))) (blkOk_by rfl) (by decide) (fun _ _ _ _ _ => (pg_name (i := 9) sc_Board_read.nd rfl (.inl rfl))) (fun _ _ _ _ _ => vts_nil) (fun _ _ _ _ _ => (ve_callTy call_intSV rfl T.n_int bt_int (va_cons (ve_var 9 (pv 9)) va_nil)))) va_nil)))) vss_nil))) (vss_cons (vs_if (vt_cmp (op_neV h64) (ve_callB call_lenV rfl T.n_len bt_len (va_cons (ve_var 1 (pv 1)) va_nil)) (ve_var 6 (pv 6)) rfl) (vss_cons (vs_raise (ps_raiseOwn rfl T.e_InvalidText T.g_InvalidText htop (hr.r.mono (Nat.zero_le _)) tk (va_cons (ve_callB (call_minV rfl) rfl T.n_min bt_min (va_cons (ve_callB call_lenV rfl T.n_len bt_len (va_cons (ve_var 1 (pv 1)) va_nil)) (va_cons (ve_var 6 (pv 6)) va_nil))) va_nil))) vss_nil) vss_nil) (vss_cons (vs_ret (ve_make (pe_makeG T.mk_Board (ok_Board_init T) (hr.mono (by decide)) rfl T.g_Board T.b_Board_init (passXV tk) (va_cons (ve_var 2 (pv 2)) (va_cons (ve_var 3 (pv 3)) (va_cons (ve_var 5 (pv 5)) va_nil)))))) vss_nil))))))))))))
def w_law_box (K : PySem.W.Frag) (A : Ad) : SW := wSeq (wSet 2 (wOp dAdd (wOp dMul (wC (.int 8117)) (wVar 1)) (wC (.int 197)))) (wSeq (wIfS (wTst (wOp dLt (wVar 1) (wScrLen 0))) (wSeq (wSet 2 (wCB dAbs (wCons (wScrIx 0 (wVar 1)) wNil))) (wNext)) (wSeq (wIfS (wTst (wOp dGt (wScrLen 0) (wC (.int 0)))) (wSeq (wSet 2 (wOp dAdd (wVar 2) (wOp dMul (wOp dMod (wCB dInt (wCons (wCB dAbs (wCons (wScrIx 0 (wOp dMod (wCB dInt (wCons (wVar 1) wNil)) (wScrLen 0))) wNil)) wNil)) (wC (.int 2147483629))) (wC (.int 67103))))) (wNext)) (wNext)) (wNext))) (wSeq (wHand (wLst (wCons (wOp dIx (wLst (wCons (wC (.int 0)) (wCons (wVar 2) wNil))) (wCB dInt (wCons (wOp dGe (wVar 2) (wOp dPow (wC (.int 10)) (wC (.int 18)))) wNil))) (wCons (wOp dAdd (wOp dMod (wCB dInt (wCons (wOp dAdd (wOp dMul (wOp dMod (wCB dInt (wCons (wVar 2) wNil)) (wC (.int 2147483629))) (wC (.int 48271))) (wOp dMul (wC (.int 40127)) (wVar 1))) wNil)) (wC (.int 2147483629))) (wC (.int 1))) (wCons (wC (.int 0)) wNil))))) (wNext)))
def p_law_box (K : PySem.W.Frag) (A : Ad) : VSp := bodyV 3 2 (w_law_box K A)
theorem ok_law_box (T : Txt K mg A) : FnG PP w K mg base (L2.CX PP w) 2 A.a_law_box A.d_law_box ["script", "k"] (spV K (p_law_box K A)) := fn_okXV T.f_law_box sc_law_box fun cdv A0 outer s H E hr => by
  have tk : Takes (cxOf (L2.CX PP w) PP w K mg base ["script", "k", "cell"] "_law_box" (defScope st_law_box) A.a_law_box cdv A0 outer s H E) (fun cls d _ H => E cls d H) := takes_of rfl rfl rfl rfl
  have po : PassesOwn (model PP w) (cxOf (L2.CX PP w) PP w K mg base ["script", "k", "cell"] "_law_box" (defScope st_law_box) A.a_law_box cdv A0 outer s H E).A (cxOf (L2.CX PP w) PP w K mg base ["script", "k", "cell"] "_law_box" (defScope st_law_box) A.a_law_box cdv A0 outer s H E).env (cxOf (L2.CX PP w) PP w K mg base ["script", "k", "cell"] "_law_box" (defScope st_law_box) A.a_law_box cdv A0 outer s H E).xe := passes_of rfl
  have h64 := hu64 hr
  have h65 := hu65 hr
  have h200 := hu200 hr
  have hg0 := hr.g
  exact (vss_cons (vs_set (ps_set (i := 2) sc_law_box.nd rfl (.inl rfl) (ve_op op_addV (ve_op op_mulV ve_int (ve_var 1 (pv 1))) ve_int))) (vss_cons (vs_if (vt_cmp op_ltV (ve_var 1 (pv 1)) (ve_scrLen (pe_callB call_len_seq rfl T.n_len bt_len (pa_cons (pv 0) pa_nil))) rfl) (vss_cons (vs_set (ps_set (i := 2) sc_law_box.nd rfl (.inl rfl) (ve_callB call_absV rfl T.n_abs bt_abs (va_cons (ve_scrIx (pe_ix ix_seq (pv 0) (ve_var 1 (pv 1)) (fun _ _ => rfl))) va_nil)))) vss_nil) (vss_cons (vs_if (vt_cmp op_gtV (ve_scrLen (pe_callB call_len_seq rfl T.n_len bt_len (pa_cons (pv 0) pa_nil))) ve_int rfl) (vss_cons (vs_set (ps_set (i := 2) sc_law_box.nd rfl (.inl rfl) (ve_op op_addV (ve_var 2 (pv 2)) (ve_op op_mulV (ve_op op_modV (ve_callTy call_intV rfl T.n_int bt_int (va_cons (ve_callB call_absV rfl T.n_abs bt_abs (va_cons (ve_scrIx (pe_ix ix_seq (pv 0) (ve_op op_modV (ve_callTy call_intV rfl T.n_int bt_int (va_cons (ve_var 1 (pv 1)) va_nil)) (ve_scrLen (pe_callB call_len_seq rfl T.n_len bt_len (pa_cons (pv 0) pa_nil)))) (fun _ _ => rfl))) va_nil)) va_nil)) ve_int) ve_int)))) vss_nil) vss_nil) vss_nil)) (vss_cons (vs_hand (ve_lst (va_cons (ve_ix (ve_lst (va_cons ve_int (va_cons (ve_var 2 (pv 2)) va_nil))) (ve_callTy call_intV rfl T.n_int bt_int (va_cons (ve_cmp op_geV (ve_var 2 (pv 2)) (ve_op op_powV ve_int ve_int) rfl) va_nil)) (fun _ _ => rfl)) (va_cons (ve_op op_addV (ve_op op_modV (ve_callTy call_intV rfl T.n_int bt_int (va_cons (ve_op op_addV (ve_op op_mulV (ve_op op_modV (ve_callTy call_intV rfl T.n_int bt_int (va_cons (ve_var 2 (pv 2)) va_nil)) ve_int) ve_int) (ve_op op_mulV ve_int (ve_var 1 (pv 1)))) va_nil)) ve_int) ve_int) (va_cons ve_int va_nil))))) vss_nil)))
def w_law_take (K : PySem.W.Frag) (A : Ad) : SW := wSeq (wIfS (wTst (wOp dGt (wDealIx 0 0) (wC (.int 0)))) (wSeq (wSet 2 (wOp dMod (wCB dInt (wCons (wDealIx 0 0) wNil)) (wVar 1))) (wSeq (wSetDeal 0 0 (wOp dFdv (wDealIx 0 0) (wVar 1))) (wSeq (wRet (wVar 2)) (wNext)))) (wNext)) (wSeq (wSetDeal 0 2 (wOp dAdd (wDealIx 0 2) (wC (.int 1)))) (wSeq (wSet 3 (wOp dMod (wCB dInt (wCons (wOp dAdd (wOp dMul (wOp dAdd (wDealIx 0 1) (wOp dMul (wC (.int 101909)) (wDealIx 0 2))) (wC (.int 67819))) (wC (.int 41))) wNil)) (wC (.int 2147483563)))) (wSeq (wSetDeal 0 1 (wOp dAdd (wOp dMod (wCB dInt (wCons (wOp dAdd (wOp dMul (wVar 3) (wC (.int 39373))) (wC (.int 27901))) wNil)) (wC (.int 2147483629))) (wC (.int 1)))) (wSeq (wRet (wOp dMod (wCB dInt (wCons (wOp dFdv (wOp dAdd (wOp dMul (wVar 3) (wC (.int 2147483647))) (wDealIx 0 1)) (wC (.int 8191))) wNil)) (wVar 1))) (wNext)))))
def p_law_take (K : PySem.W.Frag) (A : Ad) : VSp := bodyV 4 2 (w_law_take K A)
theorem ok_law_take (T : Txt K mg A) : FnG PP w K mg base (L2.CX PP w) 2 A.a_law_take A.d_law_take ["box", "many"] (spV K (p_law_take K A)) := fn_okXV T.f_law_take sc_law_take fun cdv A0 outer s H E hr => by
  have tk : Takes (cxOf (L2.CX PP w) PP w K mg base ["box", "many", "digit", "raw"] "_law_take" (defScope st_law_take) A.a_law_take cdv A0 outer s H E) (fun cls d _ H => E cls d H) := takes_of rfl rfl rfl rfl
  have po : PassesOwn (model PP w) (cxOf (L2.CX PP w) PP w K mg base ["box", "many", "digit", "raw"] "_law_take" (defScope st_law_take) A.a_law_take cdv A0 outer s H E).A (cxOf (L2.CX PP w) PP w K mg base ["box", "many", "digit", "raw"] "_law_take" (defScope st_law_take) A.a_law_take cdv A0 outer s H E).env (cxOf (L2.CX PP w) PP w K mg base ["box", "many", "digit", "raw"] "_law_take" (defScope st_law_take) A.a_law_take cdv A0 outer s H E).xe := passes_of rfl
  have h64 := hu64 hr
  have h65 := hu65 hr
  have h200 := hu200 hr
  have hg0 := hr.g
  exact (vss_cons (vs_if (vt_cmp op_gtV (ve_dealIx (pe_ix ix_seq (pv 0) pe_int (fun _ _ => rfl))) ve_int rfl) (vss_cons (vs_set (ps_set (i := 2) sc_law_take.nd rfl (.inl rfl) (ve_op op_modV (ve_callTy call_intV rfl T.n_int bt_int (va_cons (ve_dealIx (pe_ix ix_seq (pv 0) pe_int (fun _ _ => rfl))) va_nil)) (ve_var 1 (pv 1))))) (vss_cons (vs_setDeal (ps_asg (ve_op op_fdvV (ve_dealIx (pe_ix ix_seq (pv 0) pe_int (fun _ _ => rfl))) (ve_var 1 (pv 1))) (pg_sub (pv 0) pe_int set_list))) (vss_cons (vs_ret (ve_var 2 (pv 2))) vss_nil))) vss_nil) (vss_cons (vs_setDeal (ps_asg (ve_op op_addV (ve_dealIx (pe_ix ix_seq (pv 0) pe_int (fun _ _ => rfl))) ve_int) (pg_sub (pv 0) pe_int set_list))) (vss_cons (vs_set (ps_set (i := 3) sc_law_take.nd rfl (.inl rfl) (ve_op op_modV (ve_callTy call_intV rfl T.n_int bt_int (va_cons (ve_op op_addV (ve_op op_mulV (ve_op op_addV (ve_dealIx (pe_ix ix_seq (pv 0) pe_int (fun _ _ => rfl))) (ve_op op_mulV ve_int (ve_dealIx (pe_ix ix_seq (pv 0) pe_int (fun _ _ => rfl))))) ve_int) ve_int) va_nil)) ve_int))) (vss_cons (vs_setDeal (ps_asg (ve_op op_addV (ve_op op_modV (ve_callTy call_intV rfl T.n_int bt_int (va_cons (ve_op op_addV (ve_op op_mulV (ve_var 3 (pv 3)) ve_int) ve_int) va_nil)) ve_int) ve_int) (pg_sub (pv 0) pe_int set_list))) (vss_cons (vs_ret (ve_op op_modV (ve_callTy call_intV rfl T.n_int bt_int (va_cons (ve_op op_fdvV (ve_op op_addV (ve_op op_mulV (ve_var 3 (pv 3)) ve_int) (ve_dealIx (pe_ix ix_seq (pv 0) pe_int (fun _ _ => rfl)))) ve_int) va_nil)) (ve_var 1 (pv 1)))) vss_nil)))))
def w_law_pick (K : PySem.W.Frag) (A : Ad) : SW := wSeq (wRet (wOp dIx (wVar 1) (wCall (p_law_take K A) (wCons (wVar 0) (wCons (wCB dLen (wCons (wVar 1) wNil)) wNil))))) (wNext)
def p_law_pick (K : PySem.W.Frag) (A : Ad) : VSp := bodyV 2 2 (w_law_pick K A)
theorem ok_law_pick (T : Txt K mg A) : FnG PP w K mg base (L2.CX PP w) 3 A.a_law_pick A.d_law_pick ["box", "some"] (spV K (p_law_pick K A)) := fn_okXV T.f_law_pick sc_law_pick fun cdv A0 outer s H E hr => by
  have tk : Takes (cxOf (L2.CX PP w) PP w K mg base ["box", "some"] "_law_pick" (defScope st_law_pick) A.a_law_pick cdv A0 outer s H E) (fun cls d _ H => E cls d H) := takes_of rfl rfl rfl rfl
  have po : PassesOwn (model PP w) (cxOf (L2.CX PP w) PP w K mg base ["box", "some"] "_law_pick" (defScope st_law_pick) A.a_law_pick cdv A0 outer s H E).A (cxOf (L2.CX PP w) PP w K mg base ["box", "some"] "_law_pick" (defScope st_law_pick) A.a_law_pick cdv A0 outer s H E).env (cxOf (L2.CX PP w) PP w K mg base ["box", "some"] "_law_pick" (defScope st_law_pick) A.a_law_pick cdv A0 outer s H E).xe := passes_of rfl
  have h64 := hu64 hr
  have h65 := hu65 hr
  have h200 := hu200 hr
  have hg0 := hr.g
  exact (vss_cons (vs_ret (ve_ix (ve_var 1 (pv 1)) (ve_call (ok_law_take T) (hr.mono (by decide)) rfl T.g_law_take (T.f_law_take).kp T.b_law_take (passXV tk) (va_cons (ve_var 0 (pv 0)) (va_cons (ve_callB call_lenV rfl T.n_len bt_len (va_cons (ve_var 1 (pv 1)) va_nil)) va_nil))) (fun _ _ => rfl))) vss_nil)
def w_law_count (K : PySem.W.Frag) (A : Ad) : SW := wSeq (wSet 1 (wC (.int 1))) (wSeq (wFor (.nm 2) (wIt (wVar 0)) (wSeq (wSet 1 (wOp dMul (wVar 1) (wVar 2))) (wNext))) (wSeq (wRet (wVar 1)) (wNext)))
def p_law_count (K : PySem.W.Frag) (A : Ad) : VSp := bodyV 3 1 (w_law_count K A)
theorem ok_law_count (T : Txt K mg A) : FnG PP w K mg base (L2.CX PP w) 2 A.a_law_count A.d_law_count ["sizes"] (spV K (p_law_count K A)) := fn_okXV T.f_law_count sc_law_count fun cdv A0 outer s H E hr => by
  have tk : Takes (cxOf (L2.CX PP w) PP w K mg base ["sizes", "count", "size"] "_law_count" (defScope st_law_count) A.a_law_count cdv A0 outer s H E) (fun cls d _ H => E cls d H) := takes_of rfl rfl rfl rfl
  have po : PassesOwn (model PP w) (cxOf (L2.CX PP w) PP w K mg base ["sizes", "count", "size"] "_law_count" (defScope st_law_count) A.a_law_count cdv A0 outer s H E).A (cxOf (L2.CX PP w) PP w K mg base ["sizes", "count", "size"] "_law_count" (defScope st_law_count) A.a_law_count cdv A0 outer s H E).env (cxOf (L2.CX PP w) PP w K mg base ["sizes", "count", "size"] "_law_count" (defScope st_law_count) A.a_law_count cdv A0 outer s H E).xe := passes_of rfl
  have h64 := hu64 hr
  have h65 := hu65 hr
  have h200 := hu200 hr
  have hg0 := hr.g
  exact (vss_cons (vs_set (ps_set (i := 1) sc_law_count.nd rfl (.inl rfl) ve_int)) (vss_cons (vs_for (vg_of (t := .nm 2) (pg_name (i := 2) sc_law_count.nd rfl (.inl rfl))) fun g hg => ps_for po rfl (vi_seq (ve_var 0 (pv 0))) hg (vss_cons (vs_set (ps_set (i := 1) sc_law_count.nd rfl (.inl rfl) (ve_op op_mulV (ve_var 1 (pv 1)) (ve_var 2 (pv 2))))) vss_nil)) (vss_cons (vs_ret (ve_var 1 (pv 1))) vss_nil)))
def w_law_number (K : PySem.W.Frag) (A : Ad) : SW := wSeq (wIfS (wOr (wTst (wOp dLt (wCB dLen (wCons (wVar 0) wNil)) (wC (.int 1)))) (wOr (wTst (wOp dGt (wCB dLen (wCons (wVar 0) wNil)) (wVar 1))) (wTst (wOp dNe (wLc (.nm 2) [2] (wItS (wVar 0)) (wTst (wOp dNotInS (wVar 2) (wC (.str "0123456789")))) (wVar 2)) (wLst (wNil)))))) (wSeq (wRet (wC .none)) (wNext)) (wNext)) (wSeq (wRet (wIf (wAnd (wTst (wOp dGt (wCB dLen (wCons (wVar 0) wNil)) (wC (.int 1)))) (wTst (wOp dEq (wOp dIx (wVar 0) (wC (.int 0))) (wC (.str "0"))))) (wC .none) (wCB dIntS (wCons (wVar 0) wNil)))) (wNext))
def p_law_number (K : PySem.W.Frag) (A : Ad) : VSp := bodyV 3 2 (w_law_number K A)
theorem ok_law_number (T : Txt K mg A) : FnG PP w K mg base (L2.CX PP w) 2 A.a_law_number A.d_law_number ["text", "most"] (spV K (p_law_number K A)) := fn_okXV T.f_law_number sc_law_number fun cdv A0 outer s H E hr => by
  have tk : Takes (cxOf (L2.CX PP w) PP w K mg base ["text", "most", "sign"] "_law_number" (defScope st_law_number) A.a_law_number cdv A0 outer s H E) (fun cls d _ H => E cls d H) := takes_of rfl rfl rfl rfl
  have po : PassesOwn (model PP w) (cxOf (L2.CX PP w) PP w K mg base ["text", "most", "sign"] "_law_number" (defScope st_law_number) A.a_law_number cdv A0 outer s H E).A (cxOf (L2.CX PP w) PP w K mg base ["text", "most", "sign"] "_law_number" (defScope st_law_number) A.a_law_number cdv A0 outer s H E).env (cxOf (L2.CX PP w) PP w K mg base ["text", "most", "sign"] "_law_number" (defScope st_law_number) A.a_law_number cdv A0 outer s H E).xe := passes_of rfl
  have h64 := hu64 hr
  have h65 := hu65 hr
  have h200 := hu200 hr
  have hg0 := hr.g
  exact (vss_cons (vs_if (vt_w (vw_or (vt_cmp op_ltV (ve_callB call_lenV rfl T.n_len bt_len (va_cons (ve_var 0 (pv 0)) va_nil)) ve_int rfl) (vw_or (vt_cmp op_gtV (ve_callB call_lenV rfl T.n_len bt_len (va_cons (ve_var 0 (pv 0)) va_nil)) (ve_var 1 (pv 1)) rfl) (vw_or1 (vt_cmp (op_neV h64) (ve_lc (own := [("sign", 2)]) rfl sc_law_number.nd (vi_str (ve_var 0 (pv 0))) (blkOk_by rfl) (by decide) (fun _ _ _ _ _ => (pg_name (i := 2) sc_law_number.nd rfl (.inl rfl))) (fun _ _ _ _ _ => (vts_one (vt_cmp op_notInSV (ve_var 2 (pv 2)) ve_str rfl))) (fun _ _ _ _ _ => (ve_var 2 (pv 2)))) (ve_lst va_nil) rfl))))) (vss_cons (vs_ret ve_non) vss_nil) vss_nil) (vss_cons (vs_ret (ve_if (vt_w (vw_and (vt_cmp op_gtV (ve_callB call_lenV rfl T.n_len bt_len (va_cons (ve_var 0 (pv 0)) va_nil)) ve_int rfl) (vw_and1 (vt_cmp (op_eqV h64) (ve_ix (ve_var 0 (pv 0)) ve_int (fun _ _ => rfl)) ve_str rfl)))) ve_non (ve_callTy call_intSV rfl T.n_int bt_int (va_cons (ve_var 0 (pv 0)) va_nil)))) vss_nil))
def w_law_words (K : PySem.W.Frag) (A : Ad) : SW := wSeq (wSet 1 (wLst (wCons (wC (.str "")) wNil))) (wSeq (wFor (.nm 2) (wItS (wVar 0)) (wSeq (wIfS (wTst (wOp dEq (wVar 2) (wC (.str " ")))) (wSeq (wDrop (wApp (wVar 1) (wC (.str "")))) (wNext)) (wSeq (wSetIx 1 (wOp dSub (wCB dLen (wCons (wVar 1) wNil)) (wC (.int 1))) (wOp dAdd (wOp dIx (wVar 1) (wOp dSub (wCB dLen (wCons (wVar 1) wNil)) (wC (.int 1)))) (wVar 2))) (wNext))) (wNext))) (wSeq (wRet (wVar 1)) (wNext)))
def p_law_words (K : PySem.W.Frag) (A : Ad) : VSp := bodyV 3 1 (w_law_words K A)
theorem ok_law_words (T : Txt K mg A) : FnG PP w K mg base (L2.CX PP w) 2 A.a_law_words A.d_law_words ["text"] (spV K (p_law_words K A)) := fn_okXV T.f_law_words sc_law_words fun cdv A0 outer s H E hr => by
  have tk : Takes (cxOf (L2.CX PP w) PP w K mg base ["text", "words", "sign"] "_law_words" (defScope st_law_words) A.a_law_words cdv A0 outer s H E) (fun cls d _ H => E cls d H) := takes_of rfl rfl rfl rfl
  have po : PassesOwn (model PP w) (cxOf (L2.CX PP w) PP w K mg base ["text", "words", "sign"] "_law_words" (defScope st_law_words) A.a_law_words cdv A0 outer s H E).A (cxOf (L2.CX PP w) PP w K mg base ["text", "words", "sign"] "_law_words" (defScope st_law_words) A.a_law_words cdv A0 outer s H E).env (cxOf (L2.CX PP w) PP w K mg base ["text", "words", "sign"] "_law_words" (defScope st_law_words) A.a_law_words cdv A0 outer s H E).xe := passes_of rfl
  have h64 := hu64 hr
  have h65 := hu65 hr
  have h200 := hu200 hr
  have hg0 := hr.g
  exact (vss_cons (vs_set (ps_set (i := 1) sc_law_words.nd rfl (.inl rfl) (ve_lst (va_cons ve_str va_nil)))) (vss_cons (vs_for (vg_of (t := .nm 2) (pg_name (i := 2) sc_law_words.nd rfl (.inl rfl))) fun g hg => ps_for po rfl (vi_str (ve_var 0 (pv 0))) hg (vss_cons (vs_if (vt_cmp (op_eqV h64) (ve_var 2 (pv 2)) ve_str rfl) (vss_cons (vs_expr (ve_append (pe_bm PySem.F.plainAttrs_list PySem.F.slot_list_append PySem.F.type_list_append mt_append (ve_var 1 (pv 1)) (va_cons ve_str va_nil)))) vss_nil) (vss_cons (vs_setIx (ps_asg (ve_op op_addV (ve_ix (ve_var 1 (pv 1)) (ve_op op_subV (ve_callB call_lenV rfl T.n_len bt_len (va_cons (ve_var 1 (pv 1)) va_nil)) ve_int) (fun _ _ => rfl)) (ve_var 2 (pv 2))) (pg_sub (pv 1) (ve_op op_subV (ve_callB call_lenV rfl T.n_len bt_len (va_cons (ve_var 1 (pv 1)) va_nil)) ve_int) set_list))) vss_nil)) vss_nil)) (vss_cons (vs_ret (ve_var 1 (pv 1))) vss_nil)))
def w_law_rows (K : PySem.W.Frag) (A : Ad) : SW := wSeq (wSet 1 (wLst (wCons (wC (.str "")) wNil))) (wSeq (wFor (.nm 2) (wItS (wVar 0)) (wSeq (wIfS (wTst (wOp dEq (wVar 2) (wC (.str "\n")))) (wSeq (wDrop (wApp (wVar 1) (wC (.str "")))) (wNext)) (wSeq (wSetIx 1 (wOp dSub (wCB dLen (wCons (wVar 1) wNil)) (wC (.int 1))) (wOp dAdd (wOp dIx (wVar 1) (wOp dSub (wCB dLen (wCons (wVar 1) wNil)) (wC (.int 1)))) (wVar 2))) (wNext))) (wNext))) (wSeq (wRet (wVar 1)) (wNext)))
def p_law_rows (K : PySem.W.Frag) (A : Ad) : VSp := bodyV 3 1 (w_law_rows K A)
theorem ok_law_rows (T : Txt K mg A) : FnG PP w K mg base (L2.CX PP w) 2 A.a_law_rows A.d_law_rows ["text"] (spV K (p_law_rows K A)) := fn_okXV T.f_law_rows sc_law_rows fun cdv A0 outer s H E hr => by
  have tk : Takes (cxOf (L2.CX PP w) PP w K mg base ["text", "rows", "sign"] "_law_rows" (defScope st_law_rows) A.a_law_rows cdv A0 outer s H E) (fun cls d _ H => E cls d H) := takes_of rfl rfl rfl rfl
  have po : PassesOwn (model PP w) (cxOf (L2.CX PP w) PP w K mg base ["text", "rows", "sign"] "_law_rows" (defScope st_law_rows) A.a_law_rows cdv A0 outer s H E).A (cxOf (L2.CX PP w) PP w K mg base ["text", "rows", "sign"] "_law_rows" (defScope st_law_rows) A.a_law_rows cdv A0 outer s H E).env (cxOf (L2.CX PP w) PP w K mg base ["text", "rows", "sign"] "_law_rows" (defScope st_law_rows) A.a_law_rows cdv A0 outer s H E).xe := passes_of rfl
  have h64 := hu64 hr
  have h65 := hu65 hr
  have h200 := hu200 hr
  have hg0 := hr.g
  exact (vss_cons (vs_set (ps_set (i := 1) sc_law_rows.nd rfl (.inl rfl) (ve_lst (va_cons ve_str va_nil)))) (vss_cons (vs_for (vg_of (t := .nm 2) (pg_name (i := 2) sc_law_rows.nd rfl (.inl rfl))) fun g hg => ps_for po rfl (vi_str (ve_var 0 (pv 0))) hg (vss_cons (vs_if (vt_cmp (op_eqV h64) (ve_var 2 (pv 2)) ve_str rfl) (vss_cons (vs_expr (ve_append (pe_bm PySem.F.plainAttrs_list PySem.F.slot_list_append PySem.F.type_list_append mt_append (ve_var 1 (pv 1)) (va_cons ve_str va_nil)))) vss_nil) (vss_cons (vs_setIx (ps_asg (ve_op op_addV (ve_ix (ve_var 1 (pv 1)) (ve_op op_subV (ve_callB call_lenV rfl T.n_len bt_len (va_cons (ve_var 1 (pv 1)) va_nil)) ve_int) (fun _ _ => rfl)) (ve_var 2 (pv 2))) (pg_sub (pv 1) (ve_op op_subV (ve_callB call_lenV rfl T.n_len bt_len (va_cons (ve_var 1 (pv 1)) va_nil)) ve_int) set_list))) vss_nil)) vss_nil)) (vss_cons (vs_ret (ve_var 1 (pv 1))) vss_nil)))
def w_law_head (K : PySem.W.Frag) (A : Ad) : SW := wSeq (wSet 1 (wCall (p_law_words K A) (wCons (wOp dIx (wVar 0) (wC (.int 0))) wNil))) (wSeq (wSet 2 (wIf (wAnd (wTst (wOp dEq (wCB dLen (wCons (wVar 1) wNil)) (wC (.int 2)))) (wTst (wOp dEq (wOp dIx (wVar 1) (wC (.int 0))) (wC (.str "marks"))))) (wCall (p_law_number K A) (wCons (wOp dIx (wVar 1) (wC (.int 1))) (wCons (wC (.int 1)) wNil))) (wC .none))) (wSeq (wIfS (wOr (wTst (wOp dIsN (wVar 2) (wC .none))) (wOr (wTst (wOp dLt (wVar 2) (wC (.int 2)))) (wTst (wOp dGt (wVar 2) (wC (.int 8)))))) (wSeq (wRet (wC (.int 0))) (wNext)) (wNext)) (wSeq (wIfS (wTst (wOp dLt (wCB dLen (wCons (wVar 0) wNil)) (wC (.int 2)))) (wSeq (wRet (wC (.int 1))) (wNext)) (wNext)) (wSeq (wSet 1 (wCall (p_law_words K A) (wCons (wOp dIx (wVar 0) (wC (.int 1))) wNil))) (wSeq (wIfS (wOr (wTst (wOp dNe (wOp dIx (wVar 1) (wC (.int 0))) (wC (.str "parts")))) (wOr (wTst (wOp dLt (wCB dLen (wCons (wVar 1) wNil)) (wC (.int 2)))) (wTst (wOp dGt (wCB dLen (wCons (wVar 1) wNil)) (wC (.int 9)))))) (wSeq (wRet (wC (.int 1))) (wNext)) (wNext)) (wSeq (wSet 3 (wLc (.nm 4) [4] (wIt (wSlS (wVar 1) (wOSome (wC (.int 1))) (wONone))) (wYes) (wCall (p_law_number K A) (wCons (wVar 4) (wCons (wC (.int 5)) wNil))))) (wSeq (wIfS (wTst (wOp dNe (wLc (.nm 5) [5] (wIt (wVar 3)) (wOr (wTst (wOp dIsN (wVar 5) (wC .none))) (wTst (wOp dEq (wVar 5) (wC (.int 0))))) (wVar 5)) (wLst (wNil)))) (wSeq (wRet (wC (.int 1))) (wNext)) (wNext)) (wSeq (wRet (wLst (wCons (wVar 2) (wCons (wVar 3) wNil)))) (wNext)))))))))
def p_law_head (K : PySem.W.Frag) (A : Ad) : VSp := bodyV 6 1 (w_law_head K A)
theorem ok_law_head (T : Txt K mg A) : FnG PP w K mg base (L2.CX PP w) 3 A.a_law_head A.d_law_head ["rows"] (spV K (p_law_head K A)) := fn_okXV T.f_law_head sc_law_head fun cdv A0 outer s H E hr => by
  have tk : Takes (cxOf (L2.CX PP w) PP w K mg base ["rows", "words", "many", "sizes", "word", "size"] "_law_head" (defScope st_law_head) A.a_law_head cdv A0 outer s H E) (fun cls d _ H => E cls d H) := takes_of rfl rfl rfl rfl
  have po : PassesOwn (model PP w) (cxOf (L2.CX PP w) PP w K mg base ["rows", "words", "many", "sizes", "word", "size"] "_law_head" (defScope st_law_head) A.a_law_head cdv A0 outer s H E).A (cxOf (L2.CX PP w) PP w K mg base ["rows", "words", "many", "sizes", "word", "size"] "_law_head" (defScope st_law_head) A.a_law_head cdv A0 outer s H E).env (cxOf (L2.CX PP w) PP w K mg base ["rows", "words", "many", "sizes", "word", "size"] "_law_head" (defScope st_law_head) A.a_law_head cdv A0 outer s H E).xe := passes_of rfl
  have h64 := hu64 hr
  have h65 := hu65 hr
  have h200 := hu200 hr
  have hg0 := hr.g
  exact (vss_cons (vs_set (ps_set (i := 1) sc_law_head.nd rfl (.inl rfl) (ve_call (ok_law_words T) (hr.mono (by decide)) rfl T.g_law_words (T.f_law_words).kp T.b_law_words (passXV tk) (va_cons (ve_ix (ve_var 0 (pv 0)) ve_int (fun _ _ => rfl)) va_nil)))) (vss_cons (vs_set (ps_set (i := 2) sc_law_head.nd rfl (.inl rfl) (ve_if (vt_w (vw_and (vt_cmp (op_eqV h64) (ve_callB call_lenV rfl T.n_len bt_len (va_cons (ve_var 1 (pv 1)) va_nil)) ve_int rfl) (vw_and1 (vt_cmp (op_eqV h64) (ve_ix (ve_var 1 (pv 1)) ve_int (fun _ _ => rfl)) ve_str rfl)))) (ve_call (ok_law_number T) (hr.mono (by decide)) rfl T.g_law_number (T.f_law_number).kp T.b_law_number (passXV tk) (va_cons (ve_ix (ve_var 1 (pv 1)) ve_int (fun _ _ => rfl)) (va_cons ve_int va_nil))) ve_non))) (vss_cons (vs_if (vt_w (vw_or (vt_cmp op_isNV (ve_var 2 (pv 2)) ve_non rfl) (vw_or (vt_cmp op_ltV (ve_var 2 (pv 2)) ve_int rfl) (vw_or1 (vt_cmp op_gtV (ve_var 2 (pv 2)) ve_int rfl))))) (vss_cons (vs_ret ve_int) vss_nil) vss_nil) (vss_cons (vs_if (vt_cmp op_ltV (ve_callB call_lenV rfl T.n_len bt_len (va_cons (ve_var 0 (pv 0)) va_nil)) ve_int rfl) (vss_cons (vs_ret ve_int) vss_nil) vss_nil) (vss_cons (vs_set (ps_set (i := 1) sc_law_head.nd rfl (.inl rfl) (ve_call (ok_law_words T) (hr.mono (by decide)) rfl T.g_law_words (T.f_law_words).kp T.b_law_words (passXV tk) (va_cons (ve_ix (ve_var 0 (pv 0)) ve_int (fun _ _ => rfl)) va_nil)))) (vss_cons (vs_if (vt_w (vw_or (vt_cmp (op_neV h64) (ve_ix (ve_var 1 (pv 1)) ve_int (fun _ _ => rfl)) ve_str rfl) (vw_or (vt_cmp op_ltV (ve_callB call_lenV rfl T.n_len bt_len (va_cons (ve_var 1 (pv 1)) va_nil)) ve_int rfl) (vw_or1 (vt_cmp op_gtV (ve_callB call_lenV rfl T.n_len bt_len (va_cons (ve_var 1 (pv 1)) va_nil)) ve_int rfl))))) (vss_cons (vs_ret ve_int) vss_nil) vss_nil) (vss_cons (vs_setLc (i := 3) (own := [("word", 4)]) rfl sc_law_head.nd rfl rfl (sw_true rfl rfl (by decide) (by decide +kernel)) (vi_seq (ve_sliceS fun h => pe_slice h (ve_var 1 (pv 1)) (vo_some ve_int) vo_none)) (blkOk_by rfl) (by decide) (fun _ _ _ _ _ => (pg_name (i := 4) sc_law_head.nd rfl (.inl rfl))) (fun _ _ _ _ _ => vts_nil) (fun _ _ _ _ _ => (ve_call (ok_law_number T) (hr.mono (by decide)) rfl T.g_law_number (T.f_law_number).kp T.b_law_number passLV (va_cons (ve_var 4 (pv 4)) (va_cons ve_int va_nil))))) (vss_cons (vs_if (vt_cmp (op_neV h64) (ve_lc (own := [("size", 5)]) rfl sc_law_head.nd (vi_seq (ve_var 3 (pv 3))) (blkOk_by rfl) (by decide) (fun _ _ _ _ _ => (pg_name (i := 5) sc_law_head.nd rfl (.inl rfl))) (fun _ _ _ _ _ => (vts_one (vt_w (vw_or (vt_cmp op_isNV (ve_var 5 (pv 5)) ve_non rfl) (vw_or1 (vt_cmp (op_eqV h64) (ve_var 5 (pv 5)) ve_int rfl)))))) (fun _ _ _ _ _ => (ve_var 5 (pv 5)))) (ve_lst va_nil) rfl) (vss_cons (vs_ret ve_int) vss_nil) vss_nil) (vss_cons (vs_ret (ve_lst (va_cons (ve_var 2 (pv 2)) (va_cons (ve_var 3 (pv 3)) va_nil)))) vss_nil)))))))))
def w_law_due (K : PySem.W.Frag) (A : Ad) : SW := wSeq (wSet 1 (wCall (p_law_rows K A) (wCons (wVar 0) wNil))) (wSeq (wSet 2 (wCallG (p_law_head K A) (wCons (wVar 1) wNil))) (wSeq (wIfS (wTru (wIsC K (.type "int") (wVar 2))) (wSeq (wRet (wTup (wCons (wC (.str "text")) (wCons (wVar 2) wNil)))) (wNext)) (wNext)) (wSeq (wUnp (.tp [.nm 3, .nm 4]) (wTup (wCons (wOp dIx (wVar 2) (wC (.int 0))) (wCons (wOp dIx (wVar 2) (wC (.int 1))) wNil)))) (wSeq (wIfS (wTst (wOp dGt (wCall (p_law_count K A) (wCons (wVar 4) wNil)) (wC (.int 20000)))) (wSeq (wRet (wTup (wCons (wC (.str "size")) (wCons (wC (.str "settings")) wNil)))) (wNext)) (wNext)) (wSeq (wPar 5 6 (wOp dIx (wVar 4) (wOp dSub (wCB dLen (wCons (wVar 4) wNil)) (wC (.int 1)))) (wLst (wNil))) (wSeq (wFor (.nm 7) (wRg2 (wCons (wC (.int 2)) (wCons (wOp dAdd (wC (.int 2)) (wCall (p_law_count K A) (wCons (wSlS (wVar 4) (wONone) (wOSome (wOp dSub (wCB dLen (wCons (wVar 4) wNil)) (wC (.int 1))))) wNil))) wNil))) (wSeq (wIfS (wOr (wTst (wOp dGe (wVar 7) (wCB dLen (wCons (wVar 1) wNil)))) (wTst (wOp dNe (wCB dLen (wCons (wOp dIx (wVar 1) (wVar 7)) wNil)) (wVar 5)))) (wSeq (wRet (wTup (wCons (wC (.str "text")) (wCons (wVar 7) wNil)))) (wNext)) (wNext)) (wSeq (wIfS (wTst (wOp dNe (wLc (.nm 8) [8] (wItS (wOp dIx (wVar 1) (wVar 7))) (wTst (wOp dNotInS (wVar 8) (wSlS (wC (.str "01234567")) (wONone) (wOSome (wVar 3))))) (wVar 8)) (wLst (wNil)))) (wSeq (wRet (wTup (wCons (wC (.str "text")) (wCons (wVar 7) wNil)))) (wNext)) (wNext)) (wSeq (wDrop (wExt (wVar 6) (wCons (wLc (.nm 8) [8] (wItS (wOp dIx (wVar 1) (wVar 7))) (wYes) (wCB dIntS (wCons (wVar 8) wNil))) wNil))) (wNext))))) (wSeq (wIfS (wTst (wOp dGt (wCB dLen (wCons (wVar 1) wNil)) (wOp dAdd (wC (.int 2)) (wCall (p_law_count K A) (wCons (wSlS (wVar 4) (wONone) (wOSome (wOp dSub (wCB dLen (wCons (wVar 4) wNil)) (wC (.int 1))))) wNil))))) (wSeq (wRet (wTup (wCons (wC (.str "text")) (wCons (wOp dAdd (wC (.int 2)) (wCall (p_law_count K A) (wCons (wSlS (wVar 4) (wONone) (wOSome (wOp dSub (wCB dLen (wCons (wVar 4) wNil)) (wC (.int 1))))) wNil))) wNil)))) (wNext)) (wNext)) (wSeq (wRet (wTup (wCons (wVar 3) (wCons (wCB dTuple (wCons (wVar 4) wNil)) (wCons (wCB dTuple (wCons (wVar 6) wNil)) wNil))))) (wNext)))))))))
def p_law_due (K : PySem.W.Frag) (A : Ad) : VSp := bodyV 9 1 (w_law_due K A)
theorem ok_law_due (T : Txt K mg A) : FnG PP w K mg base (L2.CX PP w) 4 A.a_law_due A.d_law_due ["text"] (spV K (p_law_due K A)) := fn_okXV T.f_law_due sc_law_due fun cdv A0 outer s H E hr => by
  have tk : Takes (cxOf (L2.CX PP w) PP w K mg base ["text", "rows", "head", "many", "sizes", "width", "marks", "at", "sign"] "_law_due" (defScope st_law_due) A.a_law_due cdv A0 outer s H E) (fun cls d _ H => E cls d H) := takes_of rfl rfl rfl rfl
  have po : PassesOwn (model PP w) (cxOf (L2.CX PP w) PP w K mg base ["text", "rows", "head", "many", "sizes", "width", "marks", "at", "sign"] "_law_due" (defScope st_law_due) A.a_law_due cdv A0 outer s H E).A (cxOf (L2.CX PP w) PP w K mg base ["text", "rows", "head", "many", "sizes", "width", "marks", "at", "sign"] "_law_due" (defScope st_law_due) A.a_law_due cdv A0 outer s H E).env (cxOf (L2.CX PP w) PP w K mg base ["text", "rows", "head", "many", "sizes", "width", "marks", "at", "sign"] "_law_due" (defScope st_law_due) A.a_law_due cdv A0 outer s H E).xe := passes_of rfl
  have h64 := hu64 hr
  have h65 := hu65 hr
  have h200 := hu200 hr
  have hg0 := hr.g
  exact (vss_cons (vs_set (ps_set (i := 1) sc_law_due.nd rfl (.inl rfl) (ve_call (ok_law_rows T) (hr.mono (by decide)) rfl T.g_law_rows (T.f_law_rows).kp T.b_law_rows (passXV tk) (va_cons (ve_var 0 (pv 0)) va_nil)))) (vss_cons (vs_set (ps_set (i := 2) sc_law_due.nd rfl (.inl rfl) (ve_callG (pe_callG (ok_law_head T) (hr.mono (by decide)) rfl T.g_law_head (T.f_law_head).kp T.b_law_head (passXV tk) (va_cons (ve_var 1 (pv 1)) va_nil))))) (vss_cons (vs_if (vt_tru (ve_isB rfl T.n_isinstance rfl T.n_int bt_int (ve_var 2 (pv 2)))) (vss_cons (vs_ret (ve_tup (va_cons ve_str (va_cons (ve_var 2 (pv 2)) va_nil)))) vss_nil) vss_nil) (vss_cons (vs_unp (vg_of (t := .tp [.nm 3, .nm 4]) (pg_tup rfl (pgs_cons (pg_name (i := 3) sc_law_due.nd rfl (.inr rfl)) (pgs_cons (pg_name (i := 4) sc_law_due.nd rfl (.inl rfl)) pgs_nil)))) fun g hg => ps_asg (ve_tup (va_cons (ve_ix (ve_var 2 (pv 2)) ve_int (fun _ _ => rfl)) (va_cons (ve_ix (ve_var 2 (pv 2)) ve_int (fun _ _ => rfl)) va_nil))) hg) (vss_cons (vs_if (vt_cmp op_gtV (ve_call (ok_law_count T) (hr.mono (by decide)) rfl T.g_law_count (T.f_law_count).kp T.b_law_count (passXV tk) (va_cons (ve_var 4 (pv 4)) va_nil)) ve_int rfl) (vss_cons (vs_ret (ve_tup (va_cons ve_str (va_cons ve_str va_nil)))) vss_nil) vss_nil) (vss_cons (vs_par (ps_par (i := 5) (j := 6) rfl sc_law_due.nd rfl rfl (by decide) rfl rfl (va_cons (ve_ix (ve_var 4 (pv 4)) (ve_op op_subV (ve_callB call_lenV rfl T.n_len bt_len (va_cons (ve_var 4 (pv 4)) va_nil)) ve_int) (fun _ _ => rfl)) (va_cons (ve_lst va_nil) va_nil)) (by rfl))) (vss_cons (vs_for (vg_of (t := .nm 7) (pg_name (i := 7) sc_law_due.nd rfl (.inl rfl))) fun g hg => ps_for po rfl (vi_rng2 (pi_range2 rfl T.n_range (va_cons ve_int (va_cons (ve_op op_addV ve_int (ve_call (ok_law_count T) (hr.mono (by decide)) rfl T.g_law_count (T.f_law_count).kp T.b_law_count (passXV tk) (va_cons (ve_sliceS fun h => pe_slice h (ve_var 4 (pv 4)) vo_none (vo_some (ve_op op_subV (ve_callB call_lenV rfl T.n_len bt_len (va_cons (ve_var 4 (pv 4)) va_nil)) ve_int))) va_nil))) va_nil)))) hg (vss_cons (vs_if (vt_w (vw_or (vt_cmp op_geV (ve_var 7 (pv 7)) (ve_callB call_lenV rfl T.n_len bt_len (va_cons (ve_var 1 (pv 1)) va_nil)) rfl) (vw_or1 (vt_cmp (op_neV h64) (ve_callB call_lenV rfl T.n_len bt_len (va_cons (ve_ix (ve_var 1 (pv 1)) (ve_var 7 (pv 7)) (fun _ _ => rfl)) va_nil)) (ve_var 5 (pv 5)) rfl)))) (vss_cons (vs_ret (ve_tup (va_cons ve_str (va_cons (ve_var 7 (pv 7)) va_nil)))) vss_nil) vss_nil) (vss_cons (vs_if (vt_cmp (op_neV h64) (ve_lc (own := [("sign", 8)]) rfl sc_law_due.nd (vi_str (ve_ix (ve_var 1 (pv 1)) (ve_var 7 (pv 7)) (fun _ _ => rfl))) (blkOk_by rfl) (by decide) (fun _ _ _ _ _ => (pg_name (i := 8) sc_law_due.nd rfl (.inl rfl))) (fun _ _ _ _ _ => (vts_one (vt_cmp op_notInSV (ve_var 8 (pv 8)) (ve_sliceS fun h => pe_slice h ve_str vo_none (vo_some (ve_var 3 (pv 3)))) rfl))) (fun _ _ _ _ _ => (ve_var 8 (pv 8)))) (ve_lst va_nil) rfl) (vss_cons (vs_ret (ve_tup (va_cons ve_str (va_cons (ve_var 7 (pv 7)) va_nil)))) vss_nil) vss_nil) (vss_cons (vs_expr (ve_extend (pe_bm PySem.F.plainAttrs_list PySem.F.slot_list_extend PySem.F.type_list_extend mt_extA (ve_var 6 (pv 6)) (va_cons (ve_lc (own := [("sign", 8)]) rfl sc_law_due.nd (vi_str (ve_ix (ve_var 1 (pv 1)) (ve_var 7 (pv 7)) (fun _ _ => rfl))) (blkOk_by rfl) (by decide) (fun _ _ _ _ _ => (pg_name (i := 8) sc_law_due.nd rfl (.inl rfl))) (fun _ _ _ _ _ => vts_nil) (fun _ _ _ _ _ => (ve_callTy call_intSV rfl T.n_int bt_int (va_cons (ve_var 8 (pv 8)) va_nil)))) va_nil)))) vss_nil)))) (vss_cons (vs_if (vt_cmp op_gtV (ve_callB call_lenV rfl T.n_len bt_len (va_cons (ve_var 1 (pv 1)) va_nil)) (ve_op op_addV ve_int (ve_call (ok_law_count T) (hr.mono (by decide)) rfl T.g_law_count (T.f_law_count).kp T.b_law_count (passXV tk) (va_cons (ve_sliceS fun h => pe_slice h (ve_var 4 (pv 4)) vo_none (vo_some (ve_op op_subV (ve_callB call_lenV rfl T.n_len bt_len (va_cons (ve_var 4 (pv 4)) va_nil)) ve_int))) va_nil))) rfl) (vss_cons (vs_ret (ve_tup (va_cons ve_str (va_cons (ve_op op_addV ve_int (ve_call (ok_law_count T) (hr.mono (by decide)) rfl T.g_law_count (T.f_law_count).kp T.b_law_count (passXV tk) (va_cons (ve_sliceS fun h => pe_slice h (ve_var 4 (pv 4)) vo_none (vo_some (ve_op op_subV (ve_callB call_lenV rfl T.n_len bt_len (va_cons (ve_var 4 (pv 4)) va_nil)) ve_int))) va_nil))) va_nil)))) vss_nil) vss_nil) (vss_cons (vs_ret (ve_tup (va_cons (ve_var 3 (pv 3)) (va_cons (ve_callTy call_tupleV rfl T.n_tuple bt_tuple (va_cons (ve_var 4 (pv 4)) va_nil)) (va_cons (ve_callTy call_tupleV rfl T.n_tuple bt_tuple (va_cons (ve_var 6 (pv 6)) va_nil)) va_nil))))) vss_nil)))))))))
def w_law_told (K : PySem.W.Frag) (A : Ad) : SW := wSeq (wTryA K 1 (wCallS (p_Board_read K A) (wCons (wVar 0) wNil)) (wSeq (wRet (wTup (wCons (wFld K "many" (wVar 1)) (wCons (wFld K "sizes" (wVar 1)) (wCons (wFld K "marks" (wVar 1)) wNil))))) (wNext)) [(.ref A.a_InvalidText, 2, fun a cls d => wSeq (wRet (wIf (wAnd (wTru (wIsE K a cls d A.a_InvalidText (.ref A.a_BoardError) 2)) (wNot (wTru (wIsE K a cls d A.a_InvalidText (.type "ValueError") 2)))) (wTup (wCons (wC (.str "text")) (wCons (wXf a cls d A.a_InvalidText "at" 2) wNil))) (wC (.str "wrong")))) (wNext)), (.ref A.a_InvalidSize, 2, fun a cls d => wSeq (wRet (wIf (wTru (wIsE K a cls d A.a_InvalidSize (.ref A.a_BoardError) 2)) (wTup (wCons (wC (.str "size")) (wCons (wXf a cls d A.a_InvalidSize "word" 2) wNil))) (wC (.str "wrong")))) (wNext))]) (wNext)
def p_law_told (K : PySem.W.Frag) (A : Ad) : VSp := bodyV 3 1 (w_law_told K A)
theorem ok_law_told (T : Txt K mg A) : FnG PP w K mg base (L2.CX PP w) 8 A.a_law_told A.d_law_told ["text"] (spV K (p_law_told K A)) := fn_okXV T.f_law_told sc_law_told fun cdv A0 outer s H E hr => by
  have tk : Takes (cxOf (L2.CX PP w) PP w K mg base ["text", "board", "e"] "_law_told" (defScope st_law_told) A.a_law_told cdv A0 outer s H E) (fun cls d _ H => E cls d H) := takes_of rfl rfl rfl rfl
  have po : PassesOwn (model PP w) (cxOf (L2.CX PP w) PP w K mg base ["text", "board", "e"] "_law_told" (defScope st_law_told) A.a_law_told cdv A0 outer s H E).A (cxOf (L2.CX PP w) PP w K mg base ["text", "board", "e"] "_law_told" (defScope st_law_told) A.a_law_told cdv A0 outer s H E).env (cxOf (L2.CX PP w) PP w K mg base ["text", "board", "e"] "_law_told" (defScope st_law_told) A.a_law_told cdv A0 outer s H E).xe := passes_of rfl
  have h64 := hu64 hr
  have h65 := hu65 hr
  have h200 := hu200 hr
  have hg0 := hr.g
  exact (by refine vss_cons (vs_tryAA (hs := [(.ref A.a_InvalidText, 2, fun a cls d => wSeq (wRet (wIf (wAnd (wTru (wIsE K a cls d A.a_InvalidText (.ref A.a_BoardError) 2)) (wNot (wTru (wIsE K a cls d A.a_InvalidText (.type "ValueError") 2)))) (wTup (wCons (wC (.str "text")) (wCons (wXf a cls d A.a_InvalidText "at" 2) wNil))) (wC (.str "wrong")))) (wNext)), (.ref A.a_InvalidSize, 2, fun a cls d => wSeq (wRet (wIf (wTru (wIsE K a cls d A.a_InvalidSize (.ref A.a_BoardError) 2)) (wTup (wCons (wC (.str "size")) (wCons (wXf a cls d A.a_InvalidSize "word" 2) wNil))) (wC (.str "wrong")))) (wNext))]) tk ?_ ?_ rfl rfl sc_law_told.nd) ?_; exact (fun W pn xe tkW hpo => pss_cons (ps_set (i := 1) sc_law_told.nd rfl (.inl rfl) (ve_callS (pe_smethG (ok_Board_read T) (hr.mono (by decide)) rfl T.g_Board T.sm_Board_read T.b_Board_read (fun σ => passAt tkW σ) (va_cons (ve_var 0 (pv 0)) va_nil)))) (vss_cons (vs_ret (ve_tup (va_cons (ve_fld (ve_var 1 (pv 1))) (va_cons (ve_fld (ve_var 1 (pv 1))) (va_cons (ve_fld (ve_var 1 (pv 1))) va_nil))))) vss_nil)); refine HdsA.cons (i := 2) ?_ ?_ ?_ ?_ ?_; exact rfl; exact rfl; exact ⟨rfl, by decide, .inl T.g_InvalidText⟩; intro a oe cls d pn hz hf; change VSs _ E0 _ (wSeq (wRet (wIf (wAnd (wTru (wIsE K a cls d A.a_InvalidText (.ref A.a_BoardError) 2)) (wNot (wTru (wIsE K a cls d A.a_InvalidText (.type "ValueError") 2)))) (wTup (wCons (wC (.str "text")) (wCons (wXf a cls d A.a_InvalidText "at" 2) wNil))) (wC (.str "wrong")))) (wNext)); exact (vss_cons (vs_ret (ve_if (vt_w (vw_and (vt_tru (ve_isE (c := .ref A.a_BoardError) (cv := .ref A.a_BoardError) (fun _ r => r) (pe_callB (call_isE2 T.exc_InvalidText hz hf) rfl T.n_isinstance bt_isinstance (pa_cons (pv 2) (pa_cons (pe_glob rfl T.g_BoardError rfl) pa_nil))))) (vw_and1 (vt_not (vt_tru (ve_isE (c := .ty "ValueError") (cv := .type "ValueError") (fun _ r => r) (pe_callB (call_isE2 T.exc_InvalidText hz hf) rfl T.n_isinstance bt_isinstance (pa_cons (pv 2) (pa_cons (pe_bltn rfl T.n_ValueError bt_ValueError rfl) pa_nil))))))))) (ve_tup (va_cons ve_str (va_cons (ve_xf (pe_xf (T.xf_InvalidText) T.nx_InvalidText hz hf (pv 2))) va_nil))) ve_str)) vss_nil); refine HdsA.cons (i := 2) ?_ ?_ ?_ ?_ ?_; exact rfl; exact rfl; exact ⟨rfl, by decide, .inl T.g_InvalidSize⟩; intro a oe cls d pn hz hf; change VSs _ E0 _ (wSeq (wRet (wIf (wTru (wIsE K a cls d A.a_InvalidSize (.ref A.a_BoardError) 2)) (wTup (wCons (wC (.str "size")) (wCons (wXf a cls d A.a_InvalidSize "word" 2) wNil))) (wC (.str "wrong")))) (wNext)); exact (vss_cons (vs_ret (ve_if (vt_tru (ve_isE (c := .ref A.a_BoardError) (cv := .ref A.a_BoardError) (fun _ r => r) (pe_callB (call_isE2 T.exc_InvalidSize hz hf) rfl T.n_isinstance bt_isinstance (pa_cons (pv 2) (pa_cons (pe_glob rfl T.g_BoardError rfl) pa_nil))))) (ve_tup (va_cons ve_str (va_cons (ve_xf (pe_xf (T.xf_InvalidSize) T.nx_InvalidSize hz hf (pv 2))) va_nil))) ve_str)) vss_nil); exact HdsA.nil; exact vss_nil)
def w_law_spoilt (K : PySem.W.Frag) (A : Ad) : SW := wSeq (wPar 2 3 (wCall (p_law_take K A) (wCons (wVar 0) (wCons (wC (.int 10)) wNil))) (wCall (p_law_take K A) (wCons (wVar 0) (wCons (wCB dLen (wCons (wVar 1) wNil)) wNil)))) (wSeq (wSet 4 (wCallG (p_law_pick K A) (wCons (wVar 0) (wCons (wLst (wCons (wC (.str "0")) (wCons (wC (.str "1")) (wCons (wC (.str "7")) (wCons (wC (.str "8")) (wCons (wC (.str "9")) (wCons (wC (.str " ")) (wCons (wC (.str "\n")) (wCons (wC (.str "-")) (wCons (wC (.str "+")) (wCons (wC (.str "a")) (wCons (wC (.str "m")) (wCons (wC (.str "s")) (wCons (wC (.str "_")) wNil)))))))))))))) wNil)))) (wSeq (wSet 5 (wSplit "\n" (wVar 1))) (wSeq (wSet 6 (wCall (p_law_take K A) (wCons (wVar 0) (wCons (wCB dLen (wCons (wVar 5) wNil)) wNil)))) (wSeq (wIfS (wTst (wOp dEq (wVar 2) (wC (.int 0)))) (wSeq (wRet (wOp dAdd (wSlS (wVar 1) (wONone) (wOSome (wVar 3))) (wSlS (wVar 1) (wOSome (wOp dAdd (wVar 3) (wC (.int 1)))) (wONone)))) (wNext)) (wNext)) (wSeq (wIfS (wTst (wOp dEq (wVar 2) (wC (.int 1)))) (wSeq (wRet (wOp dAdd (wOp dAdd (wSlS (wVar 1) (wONone) (wOSome (wVar 3))) (wVar 4)) (wSlS (wVar 1) (wOSome (wVar 3)) (wONone)))) (wNext)) (wNext)) (wSeq (wIfS (wOr (wTst (wOp dEq (wVar 2) (wC (.int 2)))) (wTst (wOp dEq (wVar 2) (wC (.int 3))))) (wSeq (wRet (wOp dAdd (wOp dAdd (wSlS (wVar 1) (wONone) (wOSome (wVar 3))) (wVar 4)) (wSlS (wVar 1) (wOSome (wOp dAdd (wVar 3) (wC (.int 1)))) (wONone)))) (wNext)) (wNext)) (wSeq (wIfS (wTst (wOp dEq (wVar 2) (wC (.int 4)))) (wSeq (wRet (wJoin "\n" (wOp dAdd (wSlS (wVar 5) (wONone) (wOSome (wVar 6))) (wSlS (wVar 5) (wOSome (wOp dAdd (wVar 6) (wC (.int 1)))) (wONone))))) (wNext)) (wNext)) (wSeq (wIfS (wTst (wOp dEq (wVar 2) (wC (.int 5)))) (wSeq (wRet (wJoin "\n" (wOp dAdd (wOp dAdd (wSlS (wVar 5) (wONone) (wOSome (wVar 6))) (wLst (wCons (wOp dIx (wVar 5) (wVar 6)) wNil))) (wSlS (wVar 5) (wOSome (wVar 6)) (wONone))))) (wNext)) (wNext)) (wSeq (wIfS (wTst (wOp dEq (wVar 2) (wC (.int 6)))) (wSeq (wRet (wJoin "\n" (wOp dAdd (wLst (wCons (wCallG (p_law_pick K A) (wCons (wVar 0) (wCons (wLst (wCons (wC (.str "marks 9")) (wCons (wC (.str "marks 1")) (wCons (wC (.str "marks 08")) (wCons (wC (.str "marks")) (wCons (wC (.str "marks 8")) (wCons (wC (.str "mark 3")) (wCons (wC (.str "")) wNil)))))))) wNil))) wNil)) (wSlS (wVar 5) (wOSome (wC (.int 1))) (wONone))))) (wNext)) (wNext)) (wSeq (wIfS (wTst (wOp dEq (wVar 2) (wC (.int 7)))) (wSeq (wSet 7 (wLst (wCons (wC (.str "parts")) (wCons (wC (.str "parts 0")) (wCons (wC (.str "parts 2 03")) (wCons (wC (.str "parts 20 1001")) (wCons (wC (.str "parts 100000")) (wCons (wC (.str "parts 1 1 1 1 1 1 1 1 1")) (wCons (wC (.str "parts 20001 x")) (wCons (wC (.str "")) wNil)))))))))) (wSeq (wRet (wJoin "\n" (wOp dAdd (wLst (wCons (wOp dIx (wVar 5) (wC (.int 0))) (wCons (wCallG (p_law_pick K A) (wCons (wVar 0) (wCons (wVar 7) wNil))) wNil))) (wSlS (wVar 5) (wOSome (wC (.int 2))) (wONone))))) (wNext))) (wNext)) (wSeq (wIfS (wTst (wOp dEq (wVar 2) (wC (.int 8)))) (wSeq (wRet (wOp dAdd (wVar 1) (wCallG (p_law_pick K A) (wCons (wVar 0) (wCons (wLst (wCons (wC (.str "\n")) (wCons (wC (.str " ")) (wCons (wC (.str "\n0")) (wCons (wC (.str "0")) (wCons (wC (.str "")) wNil)))))) wNil))))) (wNext)) (wNext)) (wSeq (wRet (wJoin "\n" (wSlS (wVar 5) (wONone) (wOSome (wVar 6))))) (wNext)))))))))))))
def p_law_spoilt (K : PySem.W.Frag) (A : Ad) : VSp := bodyV 8 2 (w_law_spoilt K A)
theorem ok_law_spoilt (T : Txt K mg A) : FnG PP w K mg base (L2.CX PP w) 4 A.a_law_spoilt A.d_law_spoilt ["box", "text"] (spV K (p_law_spoilt K A)) := fn_okXV T.f_law_spoilt sc_law_spoilt fun cdv A0 outer s H E hr => by
  have tk : Takes (cxOf (L2.CX PP w) PP w K mg base ["box", "text", "form", "at", "sign", "rows", "row", "odd"] "_law_spoilt" (defScope st_law_spoilt) A.a_law_spoilt cdv A0 outer s H E) (fun cls d _ H => E cls d H) := takes_of rfl rfl rfl rfl
  have po : PassesOwn (model PP w) (cxOf (L2.CX PP w) PP w K mg base ["box", "text", "form", "at", "sign", "rows", "row", "odd"] "_law_spoilt" (defScope st_law_spoilt) A.a_law_spoilt cdv A0 outer s H E).A (cxOf (L2.CX PP w) PP w K mg base ["box", "text", "form", "at", "sign", "rows", "row", "odd"] "_law_spoilt" (defScope st_law_spoilt) A.a_law_spoilt cdv A0 outer s H E).env (cxOf (L2.CX PP w) PP w K mg base ["box", "text", "form", "at", "sign", "rows", "row", "odd"] "_law_spoilt" (defScope st_law_spoilt) A.a_law_spoilt cdv A0 outer s H E).xe := passes_of rfl
  have h64 := hu64 hr
  have h65 := hu65 hr
  have h200 := hu200 hr
  have hg0 := hr.g
  exact (vss_cons (vs_par (ps_par (i := 2) (j := 3) rfl sc_law_spoilt.nd rfl rfl (by decide) rfl rfl (va_cons (ve_call (ok_law_take T) (hr.mono (by decide)) rfl T.g_law_take (T.f_law_take).kp T.b_law_take (passXV tk) (va_cons (ve_var 0 (pv 0)) (va_cons ve_int va_nil))) (va_cons (ve_call (ok_law_take T) (hr.mono (by decide)) rfl T.g_law_take (T.f_law_take).kp T.b_law_take (passXV tk) (va_cons (ve_var 0 (pv 0)) (va_cons (ve_callB call_lenV rfl T.n_len bt_len (va_cons (ve_var 1 (pv 1)) va_nil)) va_nil))) va_nil)) (by rfl))) (vss_cons (vs_set (ps_set (i := 4) sc_law_spoilt.nd rfl (.inl rfl) (ve_callG (pe_callG (ok_law_pick T) (hr.mono (by decide)) rfl T.g_law_pick (T.f_law_pick).kp T.b_law_pick (passXV tk) (va_cons (ve_var 0 (pv 0)) (va_cons (ve_lst (va_cons ve_str (va_cons ve_str (va_cons ve_str (va_cons ve_str (va_cons ve_str (va_cons ve_str (va_cons ve_str (va_cons ve_str (va_cons ve_str (va_cons ve_str (va_cons ve_str (va_cons ve_str (va_cons ve_str va_nil)))))))))))))) va_nil)))))) (vss_cons (vs_set (ps_set (i := 5) sc_law_spoilt.nd rfl (.inl rfl) (ve_split rfl (ve_var 1 (pv 1))))) (vss_cons (vs_set (ps_set (i := 6) sc_law_spoilt.nd rfl (.inl rfl) (ve_call (ok_law_take T) (hr.mono (by decide)) rfl T.g_law_take (T.f_law_take).kp T.b_law_take (passXV tk) (va_cons (ve_var 0 (pv 0)) (va_cons (ve_callB call_lenV rfl T.n_len bt_len (va_cons (ve_var 5 (pv 5)) va_nil)) va_nil))))) (vss_cons (vs_if (vt_cmp (op_eqV h64) (ve_var 2 (pv 2)) ve_int rfl) (vss_cons (vs_ret (ve_op op_addV (ve_sliceS fun h => pe_slice h (ve_var 1 (pv 1)) vo_none (vo_some (ve_var 3 (pv 3)))) (ve_sliceS fun h => pe_slice h (ve_var 1 (pv 1)) (vo_some (ve_op op_addV (ve_var 3 (pv 3)) ve_int)) vo_none))) vss_nil) vss_nil) (vss_cons (vs_if (vt_cmp (op_eqV h64) (ve_var 2 (pv 2)) ve_int rfl) (vss_cons (vs_ret (ve_op op_addV (ve_op op_addV (ve_sliceS fun h => pe_slice h (ve_var 1 (pv 1)) vo_none (vo_some (ve_var 3 (pv 3)))) (ve_var 4 (pv 4))) (ve_sliceS fun h => pe_slice h (ve_var 1 (pv 1)) (vo_some (ve_var 3 (pv 3))) vo_none))) vss_nil) vss_nil) (vss_cons (vs_if (vt_w (vw_or (vt_cmp (op_eqV h64) (ve_var 2 (pv 2)) ve_int rfl) (vw_or1 (vt_cmp (op_eqV h64) (ve_var 2 (pv 2)) ve_int rfl)))) (vss_cons (vs_ret (ve_op op_addV (ve_op op_addV (ve_sliceS fun h => pe_slice h (ve_var 1 (pv 1)) vo_none (vo_some (ve_var 3 (pv 3)))) (ve_var 4 (pv 4))) (ve_sliceS fun h => pe_slice h (ve_var 1 (pv 1)) (vo_some (ve_op op_addV (ve_var 3 (pv 3)) ve_int)) vo_none))) vss_nil) vss_nil) (vss_cons (vs_if (vt_cmp (op_eqV h64) (ve_var 2 (pv 2)) ve_int rfl) (vss_cons (vs_ret (ve_join (ve_op op_addV (ve_sliceS fun h => pe_slice h (ve_var 5 (pv 5)) vo_none (vo_some (ve_var 6 (pv 6)))) (ve_sliceS fun h => pe_slice h (ve_var 5 (pv 5)) (vo_some (ve_op op_addV (ve_var 6 (pv 6)) ve_int)) vo_none)))) vss_nil) vss_nil) (vss_cons (vs_if (vt_cmp (op_eqV h64) (ve_var 2 (pv 2)) ve_int rfl) (vss_cons (vs_ret (ve_join (ve_op op_addV (ve_op op_addV (ve_sliceS fun h => pe_slice h (ve_var 5 (pv 5)) vo_none (vo_some (ve_var 6 (pv 6)))) (ve_lst (va_cons (ve_ix (ve_var 5 (pv 5)) (ve_var 6 (pv 6)) (fun _ _ => rfl)) va_nil))) (ve_sliceS fun h => pe_slice h (ve_var 5 (pv 5)) (vo_some (ve_var 6 (pv 6))) vo_none)))) vss_nil) vss_nil) (vss_cons (vs_if (vt_cmp (op_eqV h64) (ve_var 2 (pv 2)) ve_int rfl) (vss_cons (vs_ret (ve_join (ve_op op_addV (ve_lst (va_cons (ve_callG (pe_callG (ok_law_pick T) (hr.mono (by decide)) rfl T.g_law_pick (T.f_law_pick).kp T.b_law_pick (passXV tk) (va_cons (ve_var 0 (pv 0)) (va_cons (ve_lst (va_cons ve_str (va_cons ve_str (va_cons ve_str (va_cons ve_str (va_cons ve_str (va_cons ve_str (va_cons ve_str va_nil)))))))) va_nil)))) va_nil)) (ve_sliceS fun h => pe_slice h (ve_var 5 (pv 5)) (vo_some ve_int) vo_none)))) vss_nil) vss_nil) (vss_cons (vs_if (vt_cmp (op_eqV h64) (ve_var 2 (pv 2)) ve_int rfl) (vss_cons (vs_set (ps_set (i := 7) sc_law_spoilt.nd rfl (.inl rfl) (ve_lst (va_cons ve_str (va_cons ve_str (va_cons ve_str (va_cons ve_str (va_cons ve_str (va_cons ve_str (va_cons ve_str (va_cons ve_str va_nil))))))))))) (vss_cons (vs_ret (ve_join (ve_op op_addV (ve_lst (va_cons (ve_ix (ve_var 5 (pv 5)) ve_int (fun _ _ => rfl)) (va_cons (ve_callG (pe_callG (ok_law_pick T) (hr.mono (by decide)) rfl T.g_law_pick (T.f_law_pick).kp T.b_law_pick (passXV tk) (va_cons (ve_var 0 (pv 0)) (va_cons (ve_var 7 (pv 7)) va_nil)))) va_nil))) (ve_sliceS fun h => pe_slice h (ve_var 5 (pv 5)) (vo_some ve_int) vo_none)))) vss_nil)) vss_nil) (vss_cons (vs_if (vt_cmp (op_eqV h64) (ve_var 2 (pv 2)) ve_int rfl) (vss_cons (vs_ret (ve_op op_addV (ve_var 1 (pv 1)) (ve_callG (pe_callG (ok_law_pick T) (hr.mono (by decide)) rfl T.g_law_pick (T.f_law_pick).kp T.b_law_pick (passXV tk) (va_cons (ve_var 0 (pv 0)) (va_cons (ve_lst (va_cons ve_str (va_cons ve_str (va_cons ve_str (va_cons ve_str (va_cons ve_str va_nil)))))) va_nil)))))) vss_nil) vss_nil) (vss_cons (vs_ret (ve_join (ve_sliceS fun h => pe_slice h (ve_var 5 (pv 5)) vo_none (vo_some (ve_var 6 (pv 6)))))) vss_nil)))))))))))))
def w_law_board_right (K : PySem.W.Frag) (A : Ad) : SW := wSeq (wUnp (.tp [.nm 1, .nm 2]) (wTup (wCons (wOp dAdd (wC (.int 2)) (wCall (p_law_take K A) (wCons (wVar 0) (wCons (wC (.int 7)) wNil)))) (wCons (wLc (.nm 3) [3] (wRg1 (wCons (wOp dAdd (wC (.int 1)) (wCall (p_law_take K A) (wCons (wVar 0) (wCons (wC (.int 4)) wNil)))) wNil)) (wYes) (wOp dAdd (wC (.int 1)) (wCall (p_law_take K A) (wCons (wVar 0) (wCons (wC (.int 4)) wNil))))) wNil)))) (wSeq (wIfS (wTst (wOp dEq (wCall (p_law_take K A) (wCons (wVar 0) (wCons (wC (.int 8)) wNil))) (wC (.int 7)))) (wSeq (wSet 2 (wCallG (p_law_pick K A) (wCons (wVar 0) (wCons (wLst (wCons (wLst (wCons (wC (.int 12)) wNil)) (wCons (wLst (wCons (wC (.int 1)) (wCons (wC (.int 1)) (wCons (wC (.int 1)) (wCons (wC (.int 1)) (wCons (wC (.int 1)) (wCons (wC (.int 1)) (wCons (wC (.int 2)) (wCons (wC (.int 3)) wNil))))))))) (wCons (wLst (wCons (wC (.int 3)) (wCons (wC (.int 11)) wNil))) wNil)))) wNil)))) (wNext)) (wNext)) (wSeq (wSet 4 (wLc (.nm 5) [5] (wRg1 (wCons (wCall (p_law_count K A) (wCons (wVar 2) wNil)) wNil)) (wYes) (wCall (p_law_take K A) (wCons (wVar 0) (wCons (wVar 1) wNil))))) (wSeq (wPar 6 7 (wLst (wCons (wOp dAdd (wC (.str "marks ")) (wCB dStr (wCons (wVar 1) wNil))) (wCons (wOp dAdd (wC (.str "parts ")) (wJoin " " (wLc (.nm 8) [8] (wIt (wVar 2)) (wYes) (wCB dStr (wCons (wVar 8) wNil))))) wNil))) (wOp dIx (wVar 2) (wOp dSub (wCB dLen (wCons (wVar 2) wNil)) (wC (.int 1))))) (wSeq (wFor (.nm 9) (wRg1 (wCons (wOp dFdv (wCB dLen (wCons (wVar 4) wNil)) (wVar 7)) wNil)) (wSeq (wDrop (wApp (wVar 6) (wJoin "" (wLc (.nm 10) [10] (wIt (wSlS (wVar 4) (wOSome (wOp dMul (wVar 9) (wVar 7))) (wOSome (wOp dMul (wOp dAdd (wVar 9) (wC (.int 1))) (wVar 7))))) (wYes) (wCB dStr (wCons (wVar 10) wNil)))))) (wNext))) (wSeq (wSet 11 (wMethO A.a_Board "text" (p_Board_text K A) (wMake A.a_Board (i_Board K A) (wCons (wVar 1) (wCons (wVar 2) (wCons (wVar 4) wNil)))))) (wSeq (wIfS (wOr (wTst (wOp dNe (wVar 11) (wJoin "\n" (wVar 6)))) (wOr (wTst (wOp dNe (wCall (p_law_told K A) (wCons (wVar 11) wNil)) (wTup (wCons (wVar 1) (wCons (wCB dTuple (wCons (wVar 2) wNil)) (wCons (wCB dTuple (wCons (wVar 4) wNil)) wNil)))))) (wTst (wOp dNe (wCall (p_law_due K A) (wCons (wVar 11) wNil)) (wCall (p_law_told K A) (wCons (wVar 11) wNil)))))) (wSeq (wRet (wC (.bool false))) (wNext)) (wNext)) (wSeq (wIfS (wTst (wEqO K A.a_Board (p_Board_eq K A) true (wCallK (p_Board_read K A) [0] wNil (wCons (wVar 11) (wNil))) (wMake A.a_Board (i_Board K A) (wCons (wVar 1) (wCons (wVar 2) (wCons (wVar 4) wNil)))))) (wSeq (wRet (wC (.bool false))) (wNext)) (wNext)) (wSeq (wFor (.nm 5) (wRg1 (wCons (wC (.int 6)) wNil)) (wSeq (wSet 12 (wCall (p_law_spoilt K A) (wCons (wVar 0) (wCons (wVar 11) wNil)))) (wSeq (wIfS (wTst (wOp dGt (wVar 5) (wC (.int 3)))) (wSeq (wSet 12 (wCall (p_law_spoilt K A) (wCons (wVar 0) (wCons (wIf (wTst (wOp dNe (wVar 12) (wC (.str "")))) (wVar 12) (wVar 11)) wNil)))) (wNext)) (wNext)) (wSeq (wIfS (wTst (wOp dNe (wCB dRepr (wCons (wCall (p_law_told K A) (wCons (wVar 12) wNil)) wNil)) (wCB dRepr (wCons (wCall (p_law_due K A) (wCons (wVar 12) wNil)) wNil)))) (wSeq (wRet (wC (.bool false))) (wNext)) (wNext)) (wNext))))) (wSeq (wRet (wOp dEq (wLc (.nm 13) [13] (wIt (wTup (wCons (wC .none) (wCons (wC (.int 3)) (wCons (wLst (wCons (wVar 11) wNil)) (wCons (wC (.bool true)) (wCons (wTup (wCons (wVar 11) wNil)) wNil))))))) (wTst (wOp dNe (wCall (p_law_told K A) (wCons (wVar 13) wNil)) (wTup (wCons (wC (.str "text")) (wCons (wOp dSub (wC (.int 0)) (wC (.int 1))) wNil))))) (wVar 13)) (wLst (wNil)))) (wNext))))))))))
def p_law_board_right (K : PySem.W.Frag) (A : Ad) : VSp := bodyV 14 1 (w_law_board_right K A)
theorem ok_law_board_right (T : Txt K mg A) : FnG PP w K mg base (L2.CX PP w) 9 A.a_law_board_right A.d_law_board_right ["box"] (spV K (p_law_board_right K A)) := fn_okXV T.f_law_board_right sc_law_board_right fun cdv A0 outer s H E hr => by
  have tk : Takes (cxOf (L2.CX PP w) PP w K mg base ["box", "many", "sizes", "part", "marks", "turn", "rows", "width", "size", "at", "mark", "text", "other", "value"] "_law_board_right" (defScope st_law_board_right) A.a_law_board_right cdv A0 outer s H E) (fun cls d _ H => E cls d H) := takes_of rfl rfl rfl rfl
  have po : PassesOwn (model PP w) (cxOf (L2.CX PP w) PP w K mg base ["box", "many", "sizes", "part", "marks", "turn", "rows", "width", "size", "at", "mark", "text", "other", "value"] "_law_board_right" (defScope st_law_board_right) A.a_law_board_right cdv A0 outer s H E).A (cxOf (L2.CX PP w) PP w K mg base ["box", "many", "sizes", "part", "marks", "turn", "rows", "width", "size", "at", "mark", "text", "other", "value"] "_law_board_right" (defScope st_law_board_right) A.a_law_board_right cdv A0 outer s H E).env (cxOf (L2.CX PP w) PP w K mg base ["box", "many", "sizes", "part", "marks", "turn", "rows", "width", "size", "at", "mark", "text", "other", "value"] "_law_board_right" (defScope st_law_board_right) A.a_law_board_right cdv A0 outer s H E).xe := passes_of rfl
  have h64 := hu64 hr
  have h65 := hu65 hr
  have h200 := hu200 hr
  have hg0 := hr.g
  exact (vss_cons (vs_unp (vg_of (t := .tp [.nm 1, .nm 2]) (pg_tup rfl (pgs_cons (pg_name (i := 1) sc_law_board_right.nd rfl (.inr rfl)) (pgs_cons (pg_name (i := 2) sc_law_board_right.nd rfl (.inl rfl)) pgs_nil)))) fun g hg => ps_asg (ve_tup (va_cons (ve_op op_addV ve_int (ve_call (ok_law_take T) (hr.mono (by decide)) rfl T.g_law_take (T.f_law_take).kp T.b_law_take (passXV tk) (va_cons (ve_var 0 (pv 0)) (va_cons ve_int va_nil)))) (va_cons (ve_lc (own := [("part", 3)]) rfl sc_law_board_right.nd (vi_rng1 (pi_range1 rfl T.n_range (va_cons (ve_op op_addV ve_int (ve_call (ok_law_take T) (hr.mono (by decide)) rfl T.g_law_take (T.f_law_take).kp T.b_law_take (passXV tk) (va_cons (ve_var 0 (pv 0)) (va_cons ve_int va_nil)))) va_nil))) (blkOk_by rfl) (by decide) (fun _ _ _ _ _ => (pg_name (i := 3) sc_law_board_right.nd rfl (.inl rfl))) (fun _ _ _ _ _ => vts_nil) (fun _ _ _ _ _ => (ve_op op_addV ve_int (ve_call (ok_law_take T) (hr.mono (by decide)) rfl T.g_law_take (T.f_law_take).kp T.b_law_take passLV (va_cons (ve_var 0 (pv 0)) (va_cons ve_int va_nil)))))) va_nil))) hg) (vss_cons (vs_if (vt_cmp (op_eqV h64) (ve_call (ok_law_take T) (hr.mono (by decide)) rfl T.g_law_take (T.f_law_take).kp T.b_law_take (passXV tk) (va_cons (ve_var 0 (pv 0)) (va_cons ve_int va_nil))) ve_int rfl) (vss_cons (vs_set (ps_set (i := 2) sc_law_board_right.nd rfl (.inl rfl) (ve_callG (pe_callG (ok_law_pick T) (hr.mono (by decide)) rfl T.g_law_pick (T.f_law_pick).kp T.b_law_pick (passXV tk) (va_cons (ve_var 0 (pv 0)) (va_cons (ve_lst (va_cons (ve_lst (va_cons ve_int va_nil)) (va_cons (ve_lst (va_cons ve_int (va_cons ve_int (va_cons ve_int (va_cons ve_int (va_cons ve_int (va_cons ve_int (va_cons ve_int (va_cons ve_int va_nil))))))))) (va_cons (ve_lst (va_cons ve_int (va_cons ve_int va_nil))) va_nil)))) va_nil)))))) vss_nil) vss_nil) (vss_cons (vs_setLc (i := 4) (own := [("turn", 5)]) rfl sc_law_board_right.nd rfl rfl (sw_true rfl rfl (by decide) (by decide +kernel)) (vi_rng1 (pi_range1 rfl T.n_range (va_cons (ve_call (ok_law_count T) (hr.mono (by decide)) rfl T.g_law_count (T.f_law_count).kp T.b_law_count (passXV tk) (va_cons (ve_var 2 (pv 2)) va_nil)) va_nil))) (blkOk_by rfl) (by decide) (fun _ _ _ _ _ => (pg_name (i := 5) sc_law_board_right.nd rfl (.inl rfl))) (fun _ _ _ _ _ => vts_nil) (fun _ _ _ _ _ => (ve_call (ok_law_take T) (hr.mono (by decide)) rfl T.g_law_take (T.f_law_take).kp T.b_law_take passLV (va_cons (ve_var 0 (pv 0)) (va_cons (ve_var 1 (pv 1)) va_nil))))) (vss_cons (vs_par (ps_par (i := 6) (j := 7) rfl sc_law_board_right.nd rfl rfl (by decide) rfl rfl (va_cons (ve_lst (va_cons (ve_op op_addV ve_str (ve_callTy call_strV rfl T.n_str bt_str (va_cons (ve_var 1 (pv 1)) va_nil))) (va_cons (ve_op op_addV ve_str (ve_join (ve_lc (own := [("size", 8)]) rfl sc_law_board_right.nd (vi_seq (ve_var 2 (pv 2))) (blkOk_by rfl) (by decide) (fun _ _ _ _ _ => (pg_name (i := 8) sc_law_board_right.nd rfl (.inl rfl))) (fun _ _ _ _ _ => vts_nil) (fun _ _ _ _ _ => (ve_callTy call_strV rfl T.n_str bt_str (va_cons (ve_var 8 (pv 8)) va_nil)))))) va_nil))) (va_cons (ve_ix (ve_var 2 (pv 2)) (ve_op op_subV (ve_callB call_lenV rfl T.n_len bt_len (va_cons (ve_var 2 (pv 2)) va_nil)) ve_int) (fun _ _ => rfl)) va_nil)) (by rfl))) (vss_cons (vs_for (vg_of (t := .nm 9) (pg_name (i := 9) sc_law_board_right.nd rfl (.inl rfl))) fun g hg => ps_for po rfl (vi_rng1 (pi_range1 rfl T.n_range (va_cons (ve_op op_fdvV (ve_callB call_lenV rfl T.n_len bt_len (va_cons (ve_var 4 (pv 4)) va_nil)) (ve_var 7 (pv 7))) va_nil))) hg (vss_cons (vs_expr (ve_append (pe_bm PySem.F.plainAttrs_list PySem.F.slot_list_append PySem.F.type_list_append mt_append (ve_var 6 (pv 6)) (va_cons (ve_join (ve_lc (own := [("mark", 10)]) rfl sc_law_board_right.nd (vi_seq (ve_sliceS fun h => pe_slice h (ve_var 4 (pv 4)) (vo_some (ve_op op_mulV (ve_var 9 (pv 9)) (ve_var 7 (pv 7)))) (vo_some (ve_op op_mulV (ve_op op_addV (ve_var 9 (pv 9)) ve_int) (ve_var 7 (pv 7)))))) (blkOk_by rfl) (by decide) (fun _ _ _ _ _ => (pg_name (i := 10) sc_law_board_right.nd rfl (.inl rfl))) (fun _ _ _ _ _ => vts_nil) (fun _ _ _ _ _ => (ve_callTy call_strV rfl T.n_str bt_str (va_cons (ve_var 10 (pv 10)) va_nil))))) va_nil)))) vss_nil)) (vss_cons (vs_set (ps_set (i := 11) sc_law_board_right.nd rfl (.inl rfl) (ve_methO (pe_methG0 (ok_Board_text T) (hr.mono (by decide)) T.ok_Board.cl T.mt_Board_text T.b_Board_text (passXV tk) (ve_make (pe_makeG T.mk_Board (ok_Board_init T) (hr.mono (by decide)) rfl T.g_Board T.b_Board_init (passXV tk) (va_cons (ve_var 1 (pv 1)) (va_cons (ve_var 2 (pv 2)) (va_cons (ve_var 4 (pv 4)) va_nil))))))))) (vss_cons (vs_if (vt_w (vw_or (vt_cmp (op_neV h64) (ve_var 11 (pv 11)) (ve_join (ve_var 6 (pv 6))) rfl) (vw_or (vt_cmp (op_neV h64) (ve_call (ok_law_told T) (hr.mono (by decide)) rfl T.g_law_told (T.f_law_told).kp T.b_law_told (passXV tk) (va_cons (ve_var 11 (pv 11)) va_nil)) (ve_tup (va_cons (ve_var 1 (pv 1)) (va_cons (ve_callTy call_tupleV rfl T.n_tuple bt_tuple (va_cons (ve_var 2 (pv 2)) va_nil)) (va_cons (ve_callTy call_tupleV rfl T.n_tuple bt_tuple (va_cons (ve_var 4 (pv 4)) va_nil)) va_nil)))) rfl) (vw_or1 (vt_cmp (op_neV h64) (ve_call (ok_law_due T) (hr.mono (by decide)) rfl T.g_law_due (T.f_law_due).kp T.b_law_due (passXV tk) (va_cons (ve_var 11 (pv 11)) va_nil)) (ve_call (ok_law_told T) (hr.mono (by decide)) rfl T.g_law_told (T.f_law_told).kp T.b_law_told (passXV tk) (va_cons (ve_var 11 (pv 11)) va_nil)) rfl))))) (vss_cons (vs_ret ve_bl) vss_nil) vss_nil) (vss_cons (vs_if (vt_eqO (neg := true) (pt_cmpR (op_neO (E := E) (ok_Board_eq T) (hr.mono (by decide)) T.Board_eqAt T.Board_eqFn T.Board_neAt T.Board_mro T.b_Board_eq (passXV tk)) (ve_callKP (pe_smethKG0 (ok_Board_read T) (hr.mono (by decide)) rfl T.g_Board T.sm_Board_read T.kb_Board_read (passXV tk) (vk_cons (ve_var 11 (pv 11)) vk_nil))) (ve_make (pe_makeG T.mk_Board (ok_Board_init T) (hr.mono (by decide)) rfl T.g_Board T.b_Board_init (passXV tk) (va_cons (ve_var 1 (pv 1)) (va_cons (ve_var 2 (pv 2)) (va_cons (ve_var 4 (pv 4)) va_nil))))) rfl)) (vss_cons (vs_ret ve_bl) vss_nil) vss_nil) (vss_cons (vs_for (vg_of (t := .nm 5) (pg_name (i := 5) sc_law_board_right.nd rfl (.inl rfl))) fun g hg => ps_for po rfl (vi_rng1 (pi_range1 rfl T.n_range (va_cons ve_int va_nil))) hg (vss_cons (vs_set (ps_set (i := 12) sc_law_board_right.nd rfl (.inl rfl) (ve_call (ok_law_spoilt T) (hr.mono (by decide)) rfl T.g_law_spoilt (T.f_law_spoilt).kp T.b_law_spoilt (passXV tk) (va_cons (ve_var 0 (pv 0)) (va_cons (ve_var 11 (pv 11)) va_nil))))) (vss_cons (vs_if (vt_cmp op_gtV (ve_var 5 (pv 5)) ve_int rfl) (vss_cons (vs_set (ps_set (i := 12) sc_law_board_right.nd rfl (.inl rfl) (ve_call (ok_law_spoilt T) (hr.mono (by decide)) rfl T.g_law_spoilt (T.f_law_spoilt).kp T.b_law_spoilt (passXV tk) (va_cons (ve_var 0 (pv 0)) (va_cons (ve_if (vt_cmp (op_neV h64) (ve_var 12 (pv 12)) ve_str rfl) (ve_var 12 (pv 12)) (ve_var 11 (pv 11))) va_nil))))) vss_nil) vss_nil) (vss_cons (vs_if (vt_cmp (op_neV h64) (ve_callB (call_reprV hg0 h200) rfl T.n_repr bt_repr (va_cons (ve_call (ok_law_told T) (hr.mono (by decide)) rfl T.g_law_told (T.f_law_told).kp T.b_law_told (passXV tk) (va_cons (ve_var 12 (pv 12)) va_nil)) va_nil)) (ve_callB (call_reprV hg0 h200) rfl T.n_repr bt_repr (va_cons (ve_call (ok_law_due T) (hr.mono (by decide)) rfl T.g_law_due (T.f_law_due).kp T.b_law_due (passXV tk) (va_cons (ve_var 12 (pv 12)) va_nil)) va_nil)) rfl) (vss_cons (vs_ret ve_bl) vss_nil) vss_nil) vss_nil)))) (vss_cons (vs_ret (ve_cmp (op_eqV h64) (ve_lc (own := [("value", 13)]) rfl sc_law_board_right.nd (vi_seq (ve_tup (va_cons ve_non (va_cons ve_int (va_cons (ve_lst (va_cons (ve_var 11 (pv 11)) va_nil)) (va_cons ve_bl (va_cons (ve_tup (va_cons (ve_var 11 (pv 11)) va_nil)) va_nil))))))) (blkOk_by rfl) (by decide) (fun _ _ _ _ _ => (pg_name (i := 13) sc_law_board_right.nd rfl (.inl rfl))) (fun _ _ _ _ _ => (vts_one (vt_cmp (op_neV h64) (ve_call (ok_law_told T) (hr.mono (by decide)) rfl T.g_law_told (T.f_law_told).kp T.b_law_told passLV (va_cons (ve_var 13 (pv 13)) va_nil)) (ve_tup (va_cons ve_str (va_cons (ve_op op_subV ve_int ve_int) va_nil))) rfl))) (fun _ _ _ _ _ => (ve_var 13 (pv 13)))) (ve_lst va_nil) rfl)) vss_nil))))))))))
def w_law (K : PySem.W.Frag) (A : Ad) : SW := wSeq (wRet (wAndV (wCall (p_law_board_right K A) (wCons (wCall (p_law_box K A) (wCons (wVar 0) (wCons (wC (.int 0)) wNil))) wNil)) (wCall (p_law_board_right K A) (wCons (wCall (p_law_box K A) (wCons (wVar 0) (wCons (wC (.int 1)) wNil))) wNil)))) (wNext)
def p_law (K : PySem.W.Frag) (A : Ad) : VSp := bodyV 1 1 (w_law K A)
theorem ok_law (T : Txt K mg A) : FnG PP w K mg base (L2.CX PP w) 10 A.a_law A.d_law ["script"] (spV K (p_law K A)) := fn_okXV T.f_law sc_law fun cdv A0 outer s H E hr => by
  have tk : Takes (cxOf (L2.CX PP w) PP w K mg base ["script"] "law" (defScope st_law) A.a_law cdv A0 outer s H E) (fun cls d _ H => E cls d H) := takes_of rfl rfl rfl rfl
  have po : PassesOwn (model PP w) (cxOf (L2.CX PP w) PP w K mg base ["script"] "law" (defScope st_law) A.a_law cdv A0 outer s H E).A (cxOf (L2.CX PP w) PP w K mg base ["script"] "law" (defScope st_law) A.a_law cdv A0 outer s H E).env (cxOf (L2.CX PP w) PP w K mg base ["script"] "law" (defScope st_law) A.a_law cdv A0 outer s H E).xe := passes_of rfl
  have h64 := hu64 hr
  have h65 := hu65 hr
  have h200 := hu200 hr
  have hg0 := hr.g
  exact (vss_cons (vs_ret (ve_and (ve_call (ok_law_board_right T) (hr.mono (by decide)) rfl T.g_law_board_right (T.f_law_board_right).kp T.b_law_board_right (passXV tk) (va_cons (ve_call (ok_law_box T) (hr.mono (by decide)) rfl T.g_law_box (T.f_law_box).kp T.b_law_box (passXV tk) (va_cons (ve_var 0 (pv 0)) (va_cons ve_int va_nil))) va_nil)) (ve_one (ve_call (ok_law_board_right T) (hr.mono (by decide)) rfl T.g_law_board_right (T.f_law_board_right).kp T.b_law_board_right (passXV tk) (va_cons (ve_call (ok_law_box T) (hr.mono (by decide)) rfl T.g_law_box (T.f_law_box).kp T.b_law_box (passXV tk) (va_cons (ve_var 0 (pv 0)) (va_cons ve_int va_nil))) va_nil))))) vss_nil)
end LW
set_option Elab.async false
set_option linter.all false
set_option maxRecDepth 100000
set_option maxHeartbeats 1000000
/-! P02: what k02 takes of the older mathematics. -/
namespace LW
open PySem PySem.Spec PyProof.Rows L2 VL
variable {K : PySem.W.Frag} {mg : Str → Option Value} {A : Ad} {Q : TV → Prop} {E : QX}
def isI : PyData → Bool
  | .int _ => true
  | _ => false
theorem s_is_integer {x : PyData} (h : Q (.d (.bool (isI x)))) : p_is_integer K A [.d x] Q E := by
  cases x with
  | int i => exact ⟨rfl, .type "int", true, .inl ⟨_, rfl, rfl⟩, rfl, true, rfl, .type "int", false, .inl ⟨_, rfl, rfl⟩, rfl, false, rfl, _, rfl, h⟩
  | bool i => exact ⟨rfl, .type "bool", true, .inl ⟨_, rfl, rfl⟩, rfl, true, rfl, .type "bool", true, .inl ⟨_, rfl, rfl⟩, rfl, true, rfl, _, rfl, h⟩
  | none => exact ⟨rfl, .type "NoneType", false, .inl ⟨_, rfl, rfl⟩, rfl, false, rfl, _, rfl, h⟩
  | str _ => exact ⟨rfl, .type "str", false, .inl ⟨_, rfl, rfl⟩, rfl, false, rfl, _, rfl, h⟩
  | list _ => exact ⟨rfl, .type "list", false, .inl ⟨_, rfl, rfl⟩, rfl, false, rfl, _, rfl, h⟩
  | tuple _ => exact ⟨rfl, .type "tuple", false, .inl ⟨_, rfl, rfl⟩, rfl, false, rfl, _, rfl, h⟩
  | dict _ => exact ⟨rfl, .type "dict", false, .inl ⟨_, rfl, rfl⟩, rfl, false, rfl, _, rfl, h⟩
def isN : PyData → Bool
  | .int i => decide (0 ≤ i)
  | _ => false
theorem s_is_number {x : PyData} (h : Q (.d (.bool (isN x)))) : p_is_number K A [.d x] Q E := by
  refine ⟨rfl, [.d x], rfl, s_is_integer ?_⟩
  cases x with
  | int i => exact ⟨rfl, true, rfl, _, _, rfl, rfl, _, rfl, h⟩
  | bool i => exact ⟨rfl, false, rfl, _, rfl, h⟩
  | none => exact ⟨rfl, false, rfl, _, rfl, h⟩
  | str _ => exact ⟨rfl, false, rfl, _, rfl, h⟩
  | list _ => exact ⟨rfl, false, rfl, _, rfl, h⟩
  | tuple _ => exact ⟨rfl, false, rfl, _, rfl, h⟩
  | dict _ => exact ⟨rfl, false, rfl, _, rfl, h⟩
def isS : PyData → Bool
  | .list _ => true
  | .tuple _ => true
  | _ => false
theorem s_is_sequence {x : PyData} (h : Q (.d (.bool (isS x)))) : p_is_sequence K A [.d x] Q E := by
  cases x <;> exact ⟨rfl, _, _, rfl, rfl, _, rfl, h⟩
/-! ### counts -/
def sqOf (b : Bool) (xs : List PyData) : PyData := if b then .list xs else .tuple xs
def prodF : List Int → Int → Int
  | [], c => c
  | i :: r, c => prodF r (c * i)
def sm (i : Int) : Prop := -(2 ^ 64) < i ∧ i < 2 ^ 64
theorem count_loop {x : PyData} {P : Po} : ∀ (ns : List Int) (c : Int) (sv : Option SV), (∀ i ∈ ns, sm i) → (∀ sv, P.nx [some (.d x), some (.d (.int (prodF ns c))), sv]) →
    wLoop (.nm 2) (wSeq (wSet 1 (wOp dMul (wVar 1) (wVar 2))) wNext) (ns.map .int) [some (.d x), some (.d (.int c)), sv] P E
  | [], c, sv, _, h => h sv
  | i :: r, c, sv, hb, h => ⟨_, rfl, .int c, .int i, rfl, rfl, .inr (hb i List.mem_cons_self), _, _, rfl, count_loop r (c * i) _ (fun j hj => hb j (List.mem_cons_of_mem _ hj)) h⟩
theorem it_sq {b : Bool} {xs : List PyData} {Q : List PyData → SE → Prop} {ρ : SE} {i : Nat} (e : ρ[i]? = some (some (.d (sqOf b xs)))) (h : Q xs ρ) : wIt (wVar i) ρ Q E := by
  unfold wIt wVar
  rw [e]
  cases b
  · exact ⟨.tuple xs, ρ, xs, rfl, .inr rfl, h⟩
  · exact ⟨.list xs, ρ, xs, rfl, .inl rfl, h⟩
theorem for_it {t : Tg} {wb : SW} {i : Nat} {b : Bool} {xs : List PyData} {ρ : SE} {P : Po} (e : ρ[i]? = some (some (.d (sqOf b xs)))) (h : wLoop t wb xs ρ P E) : wFor t (wIt (wVar i)) wb ρ P E := it_sq (Q := fun items ρ1 => wLoop t wb items ρ1 P E) e h
theorem seq_i {w1 w2 : SW} {ρ : SE} {P : Po} (h : w1 ρ { P with nx := fun ρ1 => w2 ρ1 P E } E) : wSeq w1 w2 ρ P E := h
theorem s_settings_count {b : Bool} {ns : List Int} (ok : ∀ i ∈ ns, sm i) (h : Q (.d (.int (prodF ns 1)))) : p_settings_count K A [.d (sqOf b (ns.map .int))] Q E := by
  refine ⟨rfl, _, _, rfl, ?_⟩
  dsimp only
  refine seq_i (for_it (t := .nm 2) (i := 0) (b := b) (xs := ns.map .int) rfl ?_)
  exact count_loop ns 1 none ok fun sv => ⟨_, rfl, h⟩
theorem s_law_count {b : Bool} {ns : List Int} (ok : ∀ i ∈ ns, sm i) (h : Q (.d (.int (prodF ns 1)))) : p_law_count K A [.d (sqOf b (ns.map .int))] Q E := s_settings_count (K := K) (A := A) ok h
/-! ### the first wrong place -/
def firstBad (p : PyData → Bool) : Nat → List PyData → PyData
  | _, [] => .none
  | k, x :: r => if p x = true then .int (k : Nat) else firstBad p (k + 1) r
def badSize : PyData → Bool
  | .int i => decide (i < 1)
  | _ => true
abbrev wb_size (K : PySem.W.Frag) (A : Ad) : SW := wSeq (wIfS (wOr (wNot (wTru (wCall (p_is_integer K A) (wCons (wVar 2) wNil)))) (wTst (wOp dLt (wVar 2) (wC (.int 1))))) (wSeq (wRet (wVar 1)) (wNext)) (wNext)) (wNext)
theorem size_loop {y : PyData} {P : Po} : ∀ (xs : List PyData) (k : Nat) (s1 s2 : Option SV), (firstBad badSize k xs = .none → ∀ s1 s2, P.nx [some (.d y), s1, s2]) → (∀ i, firstBad badSize k xs = .int i → P.rt (.d (.int i))) →
    wLoop (.tp [.nm 1, .nm 2]) (wb_size K A) (enumD k xs) [some (.d y), s1, s2] P E
  | [], k, s1, s2, hn, hr => hn rfl s1 s2
  | x :: xs, k, s1, s2, hn, hr => by
    refine ⟨_, rfl, [.d x], rfl, s_is_integer ?_⟩
    cases x with
    | int i =>
      refine ⟨rfl, _, true, rfl, rfl, _, _, rfl, rfl, _, rfl, ?_⟩
      by_cases h : i < 1
      · have e : firstBad badSize k (.int i :: xs) = .int (k : Nat) := if_pos (decide_eq_true h)
        rw [decide_eq_true h]
        exact ⟨_, rfl, hr k e⟩
      · have e : firstBad badSize k (.int i :: xs) = firstBad badSize (k + 1) xs := if_neg (by show ¬ decide (i < 1) = true; rw [decide_eq_false h]; decide)
        rw [decide_eq_false h]
        exact size_loop xs (k + 1) _ _ (fun z => hn (e.trans z)) fun j z => hr j (e.trans z)
    | bool i => exact ⟨rfl, _, false, rfl, rfl, _, rfl, hr k rfl⟩
    | none => exact ⟨rfl, _, false, rfl, rfl, _, rfl, hr k rfl⟩
    | str _ => exact ⟨rfl, _, false, rfl, rfl, _, rfl, hr k rfl⟩
    | list _ => exact ⟨rfl, _, false, rfl, rfl, _, rfl, hr k rfl⟩
    | tuple _ => exact ⟨rfl, _, false, rfl, rfl, _, rfl, hr k rfl⟩
    | dict _ => exact ⟨rfl, _, false, rfl, rfl, _, rfl, hr k rfl⟩
def wrongSize (x : PyData) : PyData := match seqD x with
  | some xs => if 1 ≤ xs.length ∧ xs.length ≤ 8 then firstBad badSize 0 xs else .int (-1)
  | none => .int (-1)
theorem enu_sq {b : Bool} {xs : List PyData} {Q : List PyData → SE → Prop} {ρ : SE} {i : Nat} (e : ρ[i]? = some (some (.d (sqOf b xs)))) (h : Q (enumD 0 xs) ρ) : wEnu (wVar i) ρ Q E := by
  unfold wEnu wVar
  rw [e]
  cases b
  · exact ⟨.tuple xs, ρ, xs, rfl, .inr rfl, h⟩
  · exact ⟨.list xs, ρ, xs, rfl, .inl rfl, h⟩
theorem for_enu {t : Tg} {wb : SW} {i : Nat} {b : Bool} {xs : List PyData} {ρ : SE} {P : Po} (e : ρ[i]? = some (some (.d (sqOf b xs)))) (h : wLoop t wb (enumD 0 xs) ρ P E) : wFor t (wEnu (wVar i)) wb ρ P E := enu_sq (Q := fun items ρ1 => wLoop t wb items ρ1 P E) e h
theorem firstBad_cases (p : PyData → Bool) : ∀ (xs : List PyData) (k : Nat), firstBad p k xs = .none ∨ ∃ i : Nat, firstBad p k xs = .int (i : Nat)
  | [], _ => .inl rfl
  | x :: xs, k => by
    unfold firstBad
    split
    · exact .inr ⟨k, rfl⟩
    · exact firstBad_cases p xs (k + 1)
theorem s_wrong_size {x : PyData} (h : Q (.d (wrongSize x))) : p_wrong_size K A [.d x] Q E := by
  have sq : ∀ (b : Bool) (xs : List PyData), Q (.d (if 1 ≤ xs.length ∧ xs.length ≤ 8 then firstBad badSize 0 xs else .int (-1))) → p_wrong_size K A [.d (sqOf b xs)] Q E := fun b xs h => by
    have hl : ∀ R : TV → Prop, R (.d (.int (xs.length : Nat))) → dLen [sqOf b xs] R := fun R r => by cases b <;> exact r
    refine ⟨rfl, [.d (sqOf b xs)], rfl, s_is_sequence ?_⟩
    have e1 : isS (sqOf b xs) = true := by cases b <;> rfl
    rw [e1]
    refine ⟨rfl, _, true, rfl, rfl, [sqOf b xs], rfl, hl _ ⟨_, _, rfl, rfl, _, rfl, ?_⟩⟩
    by_cases h1 : (1 : Int) ≤ (xs.length : Nat)
    · rw [decide_eq_true h1]
      refine ⟨_, _, rfl, rfl, _, rfl, ?_⟩
      by_cases h2 : ((xs.length : Nat) : Int) ≤ 8
      · rw [decide_eq_true h2]
        rw [if_pos ⟨by omega, by omega⟩] at h
        refine for_enu (E := E) (t := .tp [.nm 1, .nm 2]) (wb := wb_size K A) (i := 0) (b := b) (xs := xs) (ρ := [some (.d (sqOf b xs)), none, none]) rfl (size_loop xs 0 _ _ (fun z s1 s2 => ?_) fun i z => ?_)
        · rw [z] at h
          exact ⟨_, rfl, h⟩
        · rw [z] at h
          exact h
      · rw [decide_eq_false h2]
        rw [if_neg (by omega)] at h
        exact ⟨_, rfl, _, rfl, h⟩
    · rw [decide_eq_false h1]
      rw [if_neg (by omega)] at h
      exact ⟨_, rfl, _, rfl, _, rfl, h⟩
  cases x with
  | list xs => exact sq true xs h
  | tuple xs => exact sq false xs h
  | int i => exact ⟨rfl, [.d _], rfl, s_is_sequence ⟨rfl, _, false, rfl, rfl, _, rfl, _, rfl, h⟩⟩
  | bool i => exact ⟨rfl, [.d _], rfl, s_is_sequence ⟨rfl, _, false, rfl, rfl, _, rfl, _, rfl, h⟩⟩
  | none => exact ⟨rfl, [.d _], rfl, s_is_sequence ⟨rfl, _, false, rfl, rfl, _, rfl, _, rfl, h⟩⟩
  | str _ => exact ⟨rfl, [.d _], rfl, s_is_sequence ⟨rfl, _, false, rfl, rfl, _, rfl, _, rfl, h⟩⟩
  | dict _ => exact ⟨rfl, [.d _], rfl, s_is_sequence ⟨rfl, _, false, rfl, rfl, _, rfl, _, rfl, h⟩⟩
theorem atI_nat {α : Type} {xs : List α} {k : Nat} {z : α} (h : xs[k]? = some z) : L2.atI xs (k : Nat) = some z := by
  unfold L2.atI
  have hl : k < xs.length := (List.getElem?_eq_some_iff.mp h).1
  have e : ixN xs.length (k : Nat) = some k := by
    unfold ixN
    rw [if_pos (by omega), if_pos (by omega)]
    rfl
  rw [e]
  exact h
theorem ix_sq {b : Bool} {xs : List PyData} {k : Nat} {z : PyData} {R : TV → Prop} (h : xs[k]? = some z) (r : R (.d z)) : dIx (sqOf b xs) (.int (k : Nat)) R := by
  cases b
  · exact ⟨z, atI_nat h, r⟩
  · exact ⟨z, atI_nat h, r⟩
/-! ### contents -/
def firstBadI (p : Nat → PyData → Bool) : Nat → List PyData → PyData
  | _, [] => .none
  | k, x :: r => if p k x = true then .int (k : Nat) else firstBadI p (k + 1) r
theorem firstBadI_cases (p : Nat → PyData → Bool) : ∀ (xs : List PyData) (k : Nat), firstBadI p k xs = .none ∨ ∃ i : Nat, firstBadI p k xs = .int (i : Nat)
  | [], _ => .inl rfl
  | x :: xs, k => by
    unfold firstBadI
    split
    · exact .inr ⟨k, rfl⟩
    · exact firstBadI_cases p xs (k + 1)
/-- a content out of the range of its size -/
def badC (ns : List Int) (k : Nat) : PyData → Bool
  | .int i => !(decide (0 ≤ i)) || decide (ns.getD k 0 ≤ i)
  | _ => true
abbrev wb_cont (K : PySem.W.Frag) (A : Ad) : SW := wSeq (wIfS (wOr (wNot (wTru (wCall (p_is_number K A) (wCons (wVar 3) wNil)))) (wTst (wOp dGe (wVar 3) (wOp dIx (wVar 0) (wVar 2))))) (wSeq (wRet (wVar 2)) (wNext)) (wNext)) (wNext)
theorem cont_loop {b : Bool} {ns : List Int} {y : PyData} {P : Po} : ∀ (xs : List PyData) (k : Nat) (s1 s2 : Option SV), k + xs.length ≤ ns.length → (firstBadI (badC ns) k xs = .none → ∀ s1 s2, P.nx [some (.d (sqOf b (ns.map .int))), some (.d y), s1, s2]) → (∀ i, firstBadI (badC ns) k xs = .int i → P.rt (.d (.int i))) →
    wLoop (.tp [.nm 2, .nm 3]) (wb_cont K A) (enumD k xs) [some (.d (sqOf b (ns.map .int))), some (.d y), s1, s2] P E
  | [], k, s1, s2, hl, hn, hr => hn rfl s1 s2
  | x :: xs, k, s1, s2, hl, hn, hr => by
    rw [List.length_cons] at hl
    refine ⟨_, rfl, [.d x], rfl, s_is_number ?_⟩
    cases x with
    | int i =>
      have hk : k < ns.length := by omega
      by_cases h0 : 0 ≤ i
      · have e0 : isN (.int i) = true := decide_eq_true h0
        rw [e0]
        refine ⟨rfl, _, true, rfl, rfl, _, _, rfl, rfl, ix_sq (z := .int (ns.getD k 0)) ?_ ⟨_, _, rfl, rfl, _, rfl, ?_⟩⟩
        · rw [List.getElem?_map, List.getElem?_eq_getElem hk, List.getD_eq_getElem?_getD, List.getElem?_eq_getElem hk]
          rfl
        · by_cases h : ns.getD k 0 ≤ i
          · have e : firstBadI (badC ns) k (.int i :: xs) = .int (k : Nat) := if_pos (by show (!(decide (0 ≤ i)) || decide (ns.getD k 0 ≤ i)) = true; rw [decide_eq_true h, Bool.or_true])
            rw [decide_eq_true h]
            exact ⟨_, rfl, hr k e⟩
          · have e : firstBadI (badC ns) k (.int i :: xs) = firstBadI (badC ns) (k + 1) xs := if_neg (by show ¬ (!(decide (0 ≤ i)) || decide (ns.getD k 0 ≤ i)) = true; rw [decide_eq_false h, decide_eq_true h0]; decide)
            rw [decide_eq_false h]
            exact cont_loop xs (k + 1) _ _ (by omega) (fun z => hn (e.trans z)) fun j z => hr j (e.trans z)
      · have e0 : isN (.int i) = false := decide_eq_false h0
        have e : firstBadI (badC ns) k (.int i :: xs) = .int (k : Nat) := if_pos (by show (!(decide (0 ≤ i)) || decide (ns.getD k 0 ≤ i)) = true; rw [decide_eq_false h0]; rfl)
        rw [e0]
        exact ⟨rfl, _, false, rfl, rfl, _, rfl, hr k e⟩
    | bool i => exact ⟨rfl, _, false, rfl, rfl, _, rfl, hr k rfl⟩
    | none => exact ⟨rfl, _, false, rfl, rfl, _, rfl, hr k rfl⟩
    | str _ => exact ⟨rfl, _, false, rfl, rfl, _, rfl, hr k rfl⟩
    | list _ => exact ⟨rfl, _, false, rfl, rfl, _, rfl, hr k rfl⟩
    | tuple _ => exact ⟨rfl, _, false, rfl, rfl, _, rfl, hr k rfl⟩
    | dict _ => exact ⟨rfl, _, false, rfl, rfl, _, rfl, hr k rfl⟩
/-! ### marks -/
def badM (m : Int) : PyData → Bool
  | .int i => !(decide (0 ≤ i)) || decide (m ≤ i)
  | _ => true
abbrev wb_mark (K : PySem.W.Frag) (A : Ad) : SW := wSeq (wIfS (wOr (wNot (wTru (wCall (p_is_number K A) (wCons (wVar 4) wNil)))) (wTst (wOp dGe (wVar 4) (wVar 2)))) (wSeq (wRet (wVar 3)) (wNext)) (wNext)) (wNext)
theorem mark_loop {m : Int} {y c : PyData} {P : Po} : ∀ (xs : List PyData) (k : Nat) (s1 s2 : Option SV), (firstBad (badM m) k xs = .none → ∀ s1 s2, P.nx [some (.d y), some (.d c), some (.d (.int m)), s1, s2]) → (∀ i, firstBad (badM m) k xs = .int i → P.rt (.d (.int i))) →
    wLoop (.tp [.nm 3, .nm 4]) (wb_mark K A) (enumD k xs) [some (.d y), some (.d c), some (.d (.int m)), s1, s2] P E
  | [], k, s1, s2, hn, hr => hn rfl s1 s2
  | x :: xs, k, s1, s2, hn, hr => by
    refine ⟨_, rfl, [.d x], rfl, s_is_number ?_⟩
    cases x with
    | int i =>
      by_cases h0 : 0 ≤ i
      · have e0 : isN (.int i) = true := decide_eq_true h0
        rw [e0]
        refine ⟨rfl, _, true, rfl, rfl, _, _, rfl, rfl, _, rfl, ?_⟩
        by_cases h : m ≤ i
        · have e : firstBad (badM m) k (.int i :: xs) = .int (k : Nat) := if_pos (by show (!(decide (0 ≤ i)) || decide (m ≤ i)) = true; rw [decide_eq_true h, Bool.or_true])
          rw [decide_eq_true h]
          exact ⟨_, rfl, hr k e⟩
        · have e : firstBad (badM m) k (.int i :: xs) = firstBad (badM m) (k + 1) xs := if_neg (by show ¬ (!(decide (0 ≤ i)) || decide (m ≤ i)) = true; rw [decide_eq_false h, decide_eq_true h0]; decide)
          rw [decide_eq_false h]
          exact mark_loop xs (k + 1) _ _ (fun z => hn (e.trans z)) fun j z => hr j (e.trans z)
      · have e0 : isN (.int i) = false := decide_eq_false h0
        have e : firstBad (badM m) k (.int i :: xs) = .int (k : Nat) := if_pos (by show (!(decide (0 ≤ i)) || decide (m ≤ i)) = true; rw [decide_eq_false h0]; rfl)
        rw [e0]
        exact ⟨rfl, _, false, rfl, rfl, _, rfl, hr k e⟩
    | bool i => exact ⟨rfl, _, false, rfl, rfl, _, rfl, hr k rfl⟩
    | none => exact ⟨rfl, _, false, rfl, rfl, _, rfl, hr k rfl⟩
    | str _ => exact ⟨rfl, _, false, rfl, rfl, _, rfl, hr k rfl⟩
    | list _ => exact ⟨rfl, _, false, rfl, rfl, _, rfl, hr k rfl⟩
    | tuple _ => exact ⟨rfl, _, false, rfl, rfl, _, rfl, hr k rfl⟩
    | dict _ => exact ⟨rfl, _, false, rfl, rfl, _, rfl, hr k rfl⟩
theorem eqv_int (a b : Int) : PyData.eqv (.int a) (.int b) = decide (a = b) := by
  unfold PyData.eqv
  by_cases h : a = b
  · subst h
    simp
  · simp [h]
def wrongContent (ns : List Int) (x : PyData) : PyData := match seqD x with
  | some xs => if xs.length = ns.length then firstBadI (badC ns) 0 xs else .int (-1)
  | none => .int (-1)
theorem len_sq {b : Bool} {xs : List PyData} (R : TV → Prop) (r : R (.d (.int (xs.length : Nat)))) : dLen [sqOf b xs] R := by cases b <;> exact r
theorem isS_sq {b : Bool} {xs : List PyData} : isS (sqOf b xs) = true := by cases b <;> rfl
theorem s_wrong_content {b : Bool} {ns : List Int} {x : PyData} (h : Q (.d (wrongContent ns x))) : p_wrong_content K A [.d (sqOf b (ns.map .int)), .d x] Q E := by
  have sq : ∀ (b2 : Bool) (xs : List PyData), Q (.d (if xs.length = ns.length then firstBadI (badC ns) 0 xs else .int (-1))) → p_wrong_content K A [.d (sqOf b (ns.map .int)), .d (sqOf b2 xs)] Q E := fun b2 xs h => by
    refine ⟨rfl, [.d (sqOf b2 xs)], rfl, s_is_sequence ?_⟩
    rw [isS_sq]
    refine ⟨rfl, _, true, rfl, rfl, [sqOf b2 xs], rfl, len_sq _ ⟨[sqOf b (ns.map .int)], rfl, len_sq _ ⟨_, _, rfl, rfl, rfl, rfl, _, rfl, ?_⟩⟩⟩
    rw [eqv_int, List.length_map]
    by_cases h1 : xs.length = ns.length
    · rw [decide_eq_true (by omega)]
      rw [if_pos h1] at h
      refine for_enu (E := E) (t := .tp [.nm 2, .nm 3]) (wb := wb_cont K A) (i := 1) (b := b2) (xs := xs) (ρ := [some (.d (sqOf b (ns.map .int))), some (.d (sqOf b2 xs)), none, none]) rfl (cont_loop xs 0 _ _ (by omega) (fun z s1 s2 => ?_) fun i z => ?_)
      · rw [z] at h
        exact ⟨_, rfl, h⟩
      · rw [z] at h
        exact h
    · rw [decide_eq_false (by omega)]
      rw [if_neg h1] at h
      exact ⟨_, rfl, _, rfl, h⟩
  cases x with
  | list xs => exact sq true xs h
  | tuple xs => exact sq false xs h
  | int i => exact ⟨rfl, [.d _], rfl, s_is_sequence ⟨rfl, _, false, rfl, rfl, _, rfl, _, rfl, h⟩⟩
  | bool i => exact ⟨rfl, [.d _], rfl, s_is_sequence ⟨rfl, _, false, rfl, rfl, _, rfl, _, rfl, h⟩⟩
  | none => exact ⟨rfl, [.d _], rfl, s_is_sequence ⟨rfl, _, false, rfl, rfl, _, rfl, _, rfl, h⟩⟩
  | str _ => exact ⟨rfl, [.d _], rfl, s_is_sequence ⟨rfl, _, false, rfl, rfl, _, rfl, _, rfl, h⟩⟩
  | dict _ => exact ⟨rfl, [.d _], rfl, s_is_sequence ⟨rfl, _, false, rfl, rfl, _, rfl, _, rfl, h⟩⟩
def wrongMark (x : PyData) (c m : Int) : PyData := match seqD x with
  | some xs => if (xs.length : Int) = c then firstBad (badM m) 0 xs else .int (-1)
  | none => .int (-1)
theorem s_wrong_mark {x : PyData} {c m : Int} (h : Q (.d (wrongMark x c m))) : p_wrong_mark K A [.d x, .d (.int c), .d (.int m)] Q E := by
  have sq : ∀ (b2 : Bool) (xs : List PyData), Q (.d (if (xs.length : Int) = c then firstBad (badM m) 0 xs else .int (-1))) → p_wrong_mark K A [.d (sqOf b2 xs), .d (.int c), .d (.int m)] Q E := fun b2 xs h => by
    refine ⟨rfl, [.d (sqOf b2 xs)], rfl, s_is_sequence ?_⟩
    rw [isS_sq]
    refine ⟨rfl, _, true, rfl, rfl, [sqOf b2 xs], rfl, len_sq _ ⟨_, _, rfl, rfl, rfl, rfl, _, rfl, ?_⟩⟩
    rw [eqv_int]
    by_cases h1 : (xs.length : Int) = c
    · rw [decide_eq_true h1]
      rw [if_pos h1] at h
      refine for_enu (E := E) (t := .tp [.nm 3, .nm 4]) (wb := wb_mark K A) (i := 0) (b := b2) (xs := xs) (ρ := [some (.d (sqOf b2 xs)), some (.d (.int c)), some (.d (.int m)), none, none]) rfl (mark_loop xs 0 _ _ (fun z s1 s2 => ?_) fun i z => ?_)
      · rw [z] at h
        exact ⟨_, rfl, h⟩
      · rw [z] at h
        exact h
    · rw [decide_eq_false h1]
      rw [if_neg h1] at h
      exact ⟨_, rfl, _, rfl, h⟩
  cases x with
  | list xs => exact sq true xs h
  | tuple xs => exact sq false xs h
  | int i => exact ⟨rfl, [.d _], rfl, s_is_sequence ⟨rfl, _, false, rfl, rfl, _, rfl, _, rfl, h⟩⟩
  | bool i => exact ⟨rfl, [.d _], rfl, s_is_sequence ⟨rfl, _, false, rfl, rfl, _, rfl, _, rfl, h⟩⟩
  | none => exact ⟨rfl, [.d _], rfl, s_is_sequence ⟨rfl, _, false, rfl, rfl, _, rfl, _, rfl, h⟩⟩
  | str _ => exact ⟨rfl, [.d _], rfl, s_is_sequence ⟨rfl, _, false, rfl, rfl, _, rfl, _, rfl, h⟩⟩
  | dict _ => exact ⟨rfl, [.d _], rfl, s_is_sequence ⟨rfl, _, false, rfl, rfl, _, rfl, _, rfl, h⟩⟩
/-! ### steps, numbers -/
def stepsR : List Int → Int → List Int
  | [], _ => []
  | s :: r, st => st :: stepsR r (st * s)
abbrev wb_steps : SW := wSeq (wDrop (wApp (wVar 1) (wVar 2))) (wSeq (wSet 2 (wOp dMul (wVar 2) (wVar 3))) (wNext))
theorem steps_loop {y : PyData} {P : Po} : ∀ (ns : List Int) (acc : List PyData) (st : Int) (s3 : Option SV), (∀ i ∈ ns, sm i) → acc.length + ns.length ≤ 1000 →
    (∀ st' s3, P.nx [some (.d y), some (.own (acc ++ (stepsR ns st).map .int)), some (.d (.int st')), s3]) → wLoop (.nm 3) wb_steps (ns.map .int) [some (.d y), some (.own acc), some (.d (.int st)), s3] P E
  | [], acc, st, s3, _, _, h => by
    have := h st s3
    rw [show stepsR [] st = [] from rfl, List.map_nil, List.append_nil] at this
    exact this
  | i :: r, acc, st, s3, hb, hl, h => by
    rw [List.length_cons] at hl
    refine ⟨_, rfl, 1, acc, rfl, rfl, .int st, _, acc, rfl, rfl, by rw [sizeLine_eq]; omega, .int st, .int i, rfl, rfl, .inr (hb i List.mem_cons_self), _, _, rfl, ?_⟩
    refine steps_loop r (acc ++ [.int st]) (st * i) _ (fun j hj => hb j (List.mem_cons_of_mem _ hj)) (by rw [List.length_append, List.length_singleton]; omega) fun st' s3 => ?_
    rw [List.append_assoc]
    exact h st' s3
theorem rev_sq {b : Bool} {xs : List PyData} {Q : List PyData → SE → Prop} {ρ : SE} {i : Nat} (e : ρ[i]? = some (some (.d (sqOf b xs)))) (h : Q xs.reverse ρ) : wRev (wVar i) ρ Q E := by
  unfold wRev wVar
  rw [e]
  cases b
  · exact ⟨.tuple xs, ρ, xs, rfl, .inr rfl, h⟩
  · exact ⟨.list xs, ρ, xs, rfl, .inl rfl, h⟩
theorem for_rev {t : Tg} {wb : SW} {i : Nat} {b : Bool} {xs ys : List PyData} {ρ : SE} {P : Po} (e : ρ[i]? = some (some (.d (sqOf b xs)))) (ey : xs.reverse = ys) (h : wLoop t wb ys ρ P E) : wFor t (wRev (wVar i)) wb ρ P E := rev_sq (Q := fun items ρ1 => wLoop t wb items ρ1 P E) e (by rw [ey]; exact h)
def stepsF (ns : List Int) : List Int := (stepsR ns.reverse 1).reverse
theorem s_steps_of {b : Bool} {ns : List Int} (hb : ∀ i ∈ ns, sm i) (hl : ns.length ≤ 1000) (h : Q (.d (.tuple ((stepsF ns).map .int)))) : p_steps_of K A [.d (sqOf b (ns.map .int))] Q E := by
  refine ⟨rfl, [], _, rfl, Nat.zero_le _, _, _, rfl, _, _, rfl, ?_⟩
  refine for_rev (E := E) (t := .nm 3) (wb := wb_steps) (i := 0) (b := b) (xs := ns.map .int) (ys := ns.reverse.map .int) (ρ := [some (.d (sqOf b (ns.map .int))), some (.own []), some (.d (.int 1)), none]) rfl List.map_reverse.symm (steps_loop ns.reverse [] 1 none (fun i hi => hb i (List.mem_reverse.mp hi)) (by rw [List.length_reverse, List.length_nil]; omega) fun st' s3 => ⟨_, rfl, _, rfl, ?_⟩)
  have e : ([] ++ (stepsR ns.reverse 1).map PyData.int).reverse = (stepsF ns).map .int := by
    rw [List.nil_append, stepsF, List.map_reverse]
  rw [e]
  exact h
/-! ### the setting's number -/
def numF : List Int → List Int → Int → Int
  | n :: ns, c :: cs, a => numF ns cs (a * n + c)
  | _, _, a => a
abbrev wb_num : SW := wSeq (wSet 2 (wOp dAdd (wOp dMul (wVar 2) (wVar 3)) (wVar 4))) (wNext)
theorem num_loop {x y : PyData} {P : Po} : ∀ (ns cs : List Int) (a : Int) (s3 s4 : Option SV), (∀ i ∈ ns, sm i) → (∀ s3 s4, P.nx [some (.d x), some (.d y), some (.d (.int (numF ns cs a))), s3, s4]) →
    wLoop (.tp [.nm 3, .nm 4]) wb_num (zipD (ns.map .int) (cs.map .int)) [some (.d x), some (.d y), some (.d (.int a)), s3, s4] P E
  | [], cs, a, s3, s4, _, h => by cases cs <;> exact h s3 s4
  | n :: ns, [], a, s3, s4, _, h => h s3 s4
  | n :: ns, c :: cs, a, s3, s4, hb, h => ⟨_, rfl, _, _, rfl, rfl, .inr (hb n List.mem_cons_self), _, _, rfl, rfl, _, _, rfl, num_loop ns cs _ _ _ (fun j hj => hb j (List.mem_cons_of_mem _ hj)) h⟩
theorem s_setting_number {b b2 : Bool} {ns cs : List Int} (hb : ∀ i ∈ ns, sm i) (h : Q (.d (.int (numF ns cs 0)))) : p_setting_number K A [.d (sqOf b (ns.map .int)), .d (sqOf b2 (cs.map .int))] Q E := by
  refine ⟨rfl, _, _, rfl, ?_⟩
  have kd : ∀ (b : Bool) (xs : List PyData), ∃ c, kindD (sqOf b xs) = some (c, xs) := fun b xs => by cases b <;> exact ⟨_, rfl⟩
  obtain ⟨c1, e1⟩ := kd b (ns.map .int)
  obtain ⟨c2, e2⟩ := kd b2 (cs.map .int)
  exact ⟨_, _, _, c1, c2, _, _, rfl, e1, e2, num_loop ns cs 0 none none hb fun s3 s4 => ⟨_, rfl, h⟩⟩
inductive BR where
  | board (x : PyData)
  | size
  | good (m : Int) (ns cs : List Int)
def intsOf (x : PyData) : List Int := ((seqD x).getD []).map fun y => match y with
  | .int i => i
  | _ => 0
def marksR (m : Int) (ns : List Int) (marks : PyData) : BR := match wrongMark marks (prodF ns 1) m with
  | .none => .good m ns (intsOf marks)
  | y => .board (.tuple [.str "marks", y])
def sizesR (m : Int) (sizes marks : PyData) : BR := match wrongSize sizes with
  | .none => if 20000 < prodF (intsOf sizes) 1 then .size else marksR m (intsOf sizes) marks
  | y => .board (.tuple [.str "sizes", y])
def boardR (many sizes marks : PyData) : BR := match many with
  | .int m => if 2 ≤ m ∧ m ≤ 8 then sizesR m sizes marks else .board (.str "many")
  | _ => .board (.str "many")
def fields (m : Int) (ns cs : List Int) : List (Str × PyData) := [("many", .int m), ("sizes", .tuple (ns.map .int)), ("marks", .tuple (cs.map .int)), ("steps", .tuple ((stepsF ns).map .int))]
def brP (A : Ad) (Qf : List (Str × PyData) → Prop) (E : QX) : BR → Prop
  | .board x => E ⟨.ref A.a_InvalidBoard, [("at", x)]⟩
  | .size => E ⟨.ref A.a_InvalidSize, [("word", .str "settings")]⟩
  | .good m ns cs => Qf (fields m ns cs)
theorem good_size : ∀ (xs : List PyData) (k : Nat), firstBad badSize k xs = .none → ∃ ns : List Int, xs = ns.map .int ∧ ∀ i ∈ ns, 1 ≤ i
  | [], _, _ => ⟨[], rfl, fun _ z => nomatch z⟩
  | x :: xs, k, h => by
    unfold firstBad at h
    split at h
    · cases h
    · rename_i hb
      obtain ⟨ns, e, g⟩ := good_size xs (k + 1) h
      cases x with
      | int i =>
        refine ⟨i :: ns, by rw [e]; rfl, fun j hj => ?_⟩
        rcases List.mem_cons.mp hj with rfl | hj
        · have : ¬ j < 1 := fun z => hb (decide_eq_true z)
          omega
        · exact g j hj
      | bool _ => exact absurd rfl hb
      | none => exact absurd rfl hb
      | str _ => exact absurd rfl hb
      | list _ => exact absurd rfl hb
      | tuple _ => exact absurd rfl hb
      | dict _ => exact absurd rfl hb
theorem good_mark {m : Int} : ∀ (xs : List PyData) (k : Nat), firstBad (badM m) k xs = .none → ∃ ns : List Int, xs = ns.map .int ∧ ∀ i ∈ ns, 0 ≤ i ∧ i < m
  | [], _, _ => ⟨[], rfl, fun _ z => nomatch z⟩
  | x :: xs, k, h => by
    unfold firstBad at h
    split at h
    · cases h
    · rename_i hb
      obtain ⟨ns, e, g⟩ := good_mark xs (k + 1) h
      cases x with
      | int i =>
        refine ⟨i :: ns, by rw [e]; rfl, fun j hj => ?_⟩
        rcases List.mem_cons.mp hj with rfl | hj
        · have hb' : ¬ (!(decide (0 ≤ j)) || decide (m ≤ j)) = true := hb
          simp at hb'
          omega
        · exact g j hj
      | bool _ => exact absurd rfl hb
      | none => exact absurd rfl hb
      | str _ => exact absurd rfl hb
      | list _ => exact absurd rfl hb
      | tuple _ => exact absurd rfl hb
      | dict _ => exact absurd rfl hb
theorem intsOf_sq {b : Bool} {ns : List Int} : intsOf (sqOf b (ns.map .int)) = ns := by
  have : ∀ ns : List Int, (ns.map PyData.int).map (fun y => match y with | .int i => i | _ => (0 : Int)) = ns := fun ns => by
    induction ns with
    | nil => rfl
    | cons i r ih => rw [List.map_cons, List.map_cons, ih]
  cases b <;> exact this ns
theorem wrongSize_cases (x : PyData) : (wrongSize x = .none ∧ ∃ (b : Bool) (ns : List Int), x = sqOf b (ns.map .int) ∧ ns.length ≤ 8 ∧ 1 ≤ ns.length ∧ ∀ i ∈ ns, 1 ≤ i) ∨ ∃ i : Int, wrongSize x = .int i := by
  unfold wrongSize
  split
  · rename_i xs e
    split
    · rename_i hl
      rcases firstBad_cases badSize xs 0 with h | ⟨i, h⟩
      · refine .inl ⟨h, ?_⟩
        obtain ⟨ns, en, g⟩ := good_size xs 0 h
        rw [en, List.length_map] at hl
        cases x with
        | list ys => cases e; exact ⟨true, ns, by rw [en]; rfl, hl.2, hl.1, g⟩
        | tuple ys => cases e; exact ⟨false, ns, by rw [en]; rfl, hl.2, hl.1, g⟩
        | int _ => cases e
        | bool _ => cases e
        | none => cases e
        | str _ => cases e
        | dict _ => cases e
      · exact .inr ⟨_, h⟩
    · exact .inr ⟨_, rfl⟩
  · exact .inr ⟨_, rfl⟩
theorem wrongMark_cases (x : PyData) (c m : Int) : (wrongMark x c m = .none ∧ ∃ (b : Bool) (ns : List Int), x = sqOf b (ns.map .int) ∧ (ns.length : Int) = c ∧ ∀ i ∈ ns, 0 ≤ i ∧ i < m) ∨ ∃ i : Int, wrongMark x c m = .int i := by
  unfold wrongMark
  split
  · rename_i xs e
    split
    · rename_i hl
      rcases firstBad_cases (badM m) xs 0 with h | ⟨i, h⟩
      · refine .inl ⟨h, ?_⟩
        obtain ⟨ns, en, g⟩ := good_mark xs 0 h
        rw [en, List.length_map] at hl
        cases x with
        | list ys => cases e; exact ⟨true, ns, by rw [en]; rfl, hl, g⟩
        | tuple ys => cases e; exact ⟨false, ns, by rw [en]; rfl, hl, g⟩
        | int _ => cases e
        | bool _ => cases e
        | none => cases e
        | str _ => cases e
        | dict _ => cases e
      · exact .inr ⟨_, h⟩
    · exact .inr ⟨_, rfl⟩
  · exact .inr ⟨_, rfl⟩
theorem tup_sq {b : Bool} {xs : List PyData} (R : TV → Prop) (r : R (.d (.tuple xs))) : dTuple [sqOf b xs] R := by cases b <;> exact r
theorem sz {α : Type} {xs : List α} {n : Nat} (h : xs.length = n) (hn : n ≤ 1000) : xs.length ≤ sizeLine := by rw [sizeLine_eq]; omega
theorem nolist_ints (ns : List Int) : nolist (.tuple (ns.map .int)) = true := by
  induction ns with
  | nil => rfl
  | cons i r ih =>
    unfold nolist at ih
    unfold nolist
    rw [List.map_cons]
    unfold nolists
    rw [ih]
    rfl
theorem s_wrong_size' {x y : PyData} (e : wrongSize x = y) (h : Q (.d y)) : p_wrong_size K A [.d x] Q E := s_wrong_size (by rw [e]; exact h)
theorem s_wrong_mark' {x y : PyData} {c m : Int} (e : wrongMark x c m = y) (h : Q (.d y)) : p_wrong_mark K A [.d x, .d (.int c), .d (.int m)] Q E := s_wrong_mark (by rw [e]; exact h)
theorem s_Board_init (T : Txt K mg A) {many sizes marks : PyData} {Qf : List (Str × PyData) → Prop} (hs : ∀ xs, seqD sizes = some xs → ∀ i, .int i ∈ xs → sm i) (h : brP A Qf E (boardR many sizes marks)) : i_Board K A [.d many, .d sizes, .d marks] Qf E := by
  refine ⟨rfl, by decide, fun a => ?_⟩
  refine ⟨[.d many], rfl, s_is_integer ?_⟩
  cases many with
  | int m =>
    refine ⟨rfl, _, true, rfl, rfl, _, _, rfl, rfl, _, rfl, ?_⟩
    by_cases h1 : 2 ≤ m
    · rw [decide_eq_true h1]
      refine ⟨_, _, rfl, rfl, _, rfl, ?_⟩
      by_cases h2 : m ≤ 8
      · rw [decide_eq_true h2]
        have hb : boardR (.int m) sizes marks = sizesR m sizes marks := if_pos ⟨h1, h2⟩
        rw [hb] at h
        rcases wrongSize_cases sizes with ⟨e, b, ns, en, hl, hl1, hg⟩ | ⟨i, e⟩
        · unfold sizesR at h
          rw [e] at h
          refine ⟨[.d sizes], rfl, s_wrong_size' e ⟨rfl, _, _, rfl, _, _, rfl, rfl, rfl, _, rfl, ?_⟩⟩
          subst en
          have hsm : ∀ i ∈ ns, sm i := fun i hi => hs (ns.map .int) (by cases b <;> rfl) i (List.mem_map.mpr ⟨i, hi, rfl⟩)
          simp only [intsOf_sq] at h
          refine ⟨[.d (sqOf b (ns.map .int))], rfl, s_settings_count hsm ⟨rfl, _, _, rfl, _, _, rfl, rfl, _, rfl, ?_⟩⟩
          by_cases h3 : 20000 < prodF ns 1
          · rw [decide_eq_true h3]
            rw [if_pos h3] at h
            exact ⟨_, rfl, rfl, h⟩
          · rw [decide_eq_false h3]
            rw [if_neg h3] at h
            rcases wrongMark_cases marks (prodF ns 1) m with ⟨e2, b2, cs, ec, hc, hcg⟩ | ⟨i, e2⟩
            · unfold marksR at h
              rw [e2] at h
              subst ec
              simp only [intsOf_sq] at h
              refine ⟨[.d _, .d _, .d _], rfl, s_wrong_mark' e2 ⟨rfl, _, _, rfl, _, _, rfl, rfl, rfl, _, rfl, ?_⟩⟩
              refine ⟨rfl, fun j => by rcases j with _ | _ | _ | _ | _ | _ | j <;> rfl, ?_⟩
              refine ⟨by decide, [sqOf b (ns.map .int)], rfl, tup_sq _ ⟨[sqOf b2 (cs.map .int)], rfl, tup_sq _ ⟨_, _, rfl, sz (n := 3) rfl (by decide), _, rfl, rfl, fun j => by rcases j with _ | _ | _ | _ | _ | _ | j <;> rfl, ?_⟩⟩⟩
              refine ⟨by show 3 < 1000; decide, A.a_Board, _, .tuple (ns.map .int), rfl, T.cls_Board, T.na_Board _ (by decide), rfl, [.d (sqOf false (ns.map .int))], rfl, s_steps_of (b := false) hsm (by omega) ⟨nolist_ints _, _, _, rfl, fun j => by rcases j with _ | _ | _ | _ | _ | _ | j <;> rfl, h⟩⟩
            · unfold marksR at h
              rw [e2] at h
              refine ⟨[.d _, .d _, .d _], rfl, s_wrong_mark' e2 ⟨rfl, _, _, rfl, _, _, rfl, rfl, rfl, _, rfl, ?_⟩⟩
              exact ⟨_, _, rfl, sz (n := 2) rfl (by decide), _, rfl, rfl, h⟩
        · unfold sizesR at h
          rw [e] at h
          refine ⟨[.d sizes], rfl, s_wrong_size' e ⟨rfl, _, _, rfl, _, _, rfl, rfl, rfl, _, rfl, ?_⟩⟩
          exact ⟨_, _, rfl, sz (n := 2) rfl (by decide), _, rfl, rfl, h⟩
      · rw [decide_eq_false h2]
        have hb : boardR (.int m) sizes marks = .board (.str "many") := if_neg fun z => h2 z.2
        rw [hb] at h
        exact ⟨_, rfl, rfl, h⟩
    · rw [decide_eq_false h1]
      have hb : boardR (.int m) sizes marks = .board (.str "many") := if_neg fun z => h1 z.1
      rw [hb] at h
      exact ⟨_, rfl, _, rfl, rfl, h⟩
  | bool i => exact ⟨rfl, _, false, rfl, rfl, _, rfl, rfl, h⟩
  | none => exact ⟨rfl, _, false, rfl, rfl, _, rfl, rfl, h⟩
  | str _ => exact ⟨rfl, _, false, rfl, rfl, _, rfl, rfl, h⟩
  | list _ => exact ⟨rfl, _, false, rfl, rfl, _, rfl, rfl, h⟩
  | tuple _ => exact ⟨rfl, _, false, rfl, rfl, _, rfl, rfl, h⟩
  | dict _ => exact ⟨rfl, _, false, rfl, rfl, _, rfl, rfl, h⟩
/-- what the classes answer -/
structure Fx (K : PySem.W.Frag) (A : Ad) : Prop where
  kbb : PySem.W.kitOne K (.ref A.a_Board) (.ref A.a_Board) = some true
  kdb : ∀ x : PyData, PySem.W.kitOne K (.type (tyD x)) (.ref A.a_Board) = some false
  nfo : PySem.W.notFirst K A.a_Board (.ref A.a_Board) = true
  nfd : ∀ x : PyData, PySem.W.notFirst K A.a_Board (.type (tyD x)) = true
  ess : PySem.W.exmOne K (.ref A.a_InvalidSize) (.ref A.a_InvalidSize) = some true
  ebs : PySem.W.exmOne K (.ref A.a_InvalidBoard) (.ref A.a_InvalidSize) = some false
  ebb : PySem.W.exmOne K (.ref A.a_InvalidBoard) (.ref A.a_InvalidBoard) = some true
  ett : PySem.W.exmOne K (.ref A.a_InvalidSetting) (.ref A.a_InvalidSetting) = some true
  kse : PySem.W.kitOne K (.ref A.a_InvalidSize) (.ref A.a_BoardError) = some true
  ksb : PySem.W.kitOne K (.ref A.a_InvalidSize) (.ref A.a_InvalidBoard) = some false
  kbe : PySem.W.kitOne K (.ref A.a_InvalidBoard) (.ref A.a_BoardError) = some true
  kbv : PySem.W.kitOne K (.ref A.a_InvalidBoard) (.type "ValueError") = some false
  kte : PySem.W.kitOne K (.ref A.a_InvalidSetting) (.ref A.a_BoardError) = some true
theorem eqv_ints : ∀ ns cs : List Int, PyData.eqv (.tuple (ns.map .int)) (.tuple (cs.map .int)) = decide (ns = cs)
  | [], [] => rfl
  | [], _ :: _ => rfl
  | _ :: _, [] => rfl
  | n :: ns, c :: cs => by
    have ih := eqv_ints ns cs
    unfold PyData.eqv at ih
    unfold PyData.eqv
    rw [List.map_cons, List.map_cons]
    unfold PyData.eqvAll
    rw [ih, eqv_int]
    by_cases h1 : n = c
    · by_cases h2 : ns = cs
      · rw [decide_eq_true h1, decide_eq_true h2, h1, h2]
        simp
      · rw [decide_eq_true h1, decide_eq_false h2, h1]
        simp [h2]
    · rw [decide_eq_false h1]
      simp [h1]
theorem shaped_ints (ns : List Int) : SeqAt.shaped (.tuple (ns.map .int)) = true := by
  unfold SeqAt.shaped
  have h1 : PyData.canLay0 (.tuple (ns.map .int)) = true := by
    induction ns with
    | nil => rfl
    | cons i r ih =>
      unfold PyData.canLay0 at ih
      unfold PyData.canLay0
      rw [List.map_cons]
      unfold PyData.canLayAll0
      rw [ih]
      rfl
  have h2 : PyData.depth (.tuple (ns.map .int)) ≤ 64 := by
    have : ∀ ns : List Int, PyData.depthAll (ns.map .int) ≤ 1 := fun ns => by
      induction ns with
      | nil => decide
      | cons i r ih =>
        rw [List.map_cons]
        unfold PyData.depthAll
        unfold PyData.depth
        omega
    unfold PyData.depth
    have := this ns
    omega
  rw [h1, decide_eq_true h2]
  rfl
theorem s_Board_eq (T : Txt K mg A) (F : Fx K A) {m m' : Int} {ns ns' cs cs' : List Int} (h : Q (.d (.bool (decide (m = m') && (decide (ns = ns') && decide (cs = cs')))))) : p_Board_eq K A [.obj A.a_Board (fields m ns cs), .obj A.a_Board (fields m' ns' cs')] Q E := by
  refine ⟨rfl, .ref A.a_Board, true, .inr ⟨_, _, rfl, T.ok_Board, rfl⟩, F.kbb, _, true, rfl, rfl, ?_⟩
  refine ⟨_, _, .int m, rfl, T.cls_Board, T.na_Board _ (by decide), rfl, _, _, .int m', rfl, T.cls_Board, T.na_Board _ (by decide), rfl, _, _, rfl, rfl, rfl, rfl, _, rfl, ?_⟩
  rw [eqv_int]
  by_cases h1 : m = m'
  · rw [decide_eq_true h1] at h ⊢
    refine ⟨_, _, .tuple (ns.map .int), rfl, T.cls_Board, T.na_Board _ (by decide), rfl, _, _, .tuple (ns'.map .int), rfl, T.cls_Board, T.na_Board _ (by decide), rfl, _, _, rfl, rfl, shaped_ints _, shaped_ints _, _, rfl, ?_⟩
    rw [eqv_ints]
    by_cases h2 : ns = ns'
    · rw [decide_eq_true h2] at h ⊢
      refine ⟨_, _, .tuple (cs.map .int), rfl, T.cls_Board, T.na_Board _ (by decide), rfl, _, _, .tuple (cs'.map .int), rfl, T.cls_Board, T.na_Board _ (by decide), rfl, _, _, rfl, rfl, shaped_ints _, shaped_ints _, ?_⟩
      rw [eqv_ints]
      exact ⟨_, rfl, h⟩
    · rw [decide_eq_false h2] at h ⊢
      exact ⟨_, rfl, h⟩
  · rw [decide_eq_false h1] at h ⊢
    exact ⟨_, rfl, h⟩
theorem s_Board_eqD (T : Txt K mg A) (F : Fx K A) {x : PyData} {fs : List (Str × PyData)} (h : Q (.d (.bool false))) : p_Board_eq K A [.obj A.a_Board fs, .d x] Q E :=
  ⟨rfl, .type (tyD x), false, .inl ⟨_, rfl, rfl⟩, F.kdb x, _, false, rfl, rfl, _, rfl, h⟩
theorem atI_int {α : Type} {xs : List α} {i : Int} {z : α} (h : xs[i.toNat]? = some z) (h0 : 0 ≤ i) : L2.atI xs i = some z := by
  have := atI_nat h
  rwa [Int.toNat_of_nonneg h0] at this
theorem s_Board_len (T : Txt K mg A) {m : Int} {ns cs : List Int} (h : Q (.d (.int (ns.length : Nat)))) : p_Board_len K A [.obj A.a_Board (fields m ns cs)] Q E :=
  ⟨rfl, _, _, .tuple (ns.map .int), rfl, T.cls_Board, T.na_Board _ (by decide), rfl, [_], rfl, _, rfl, by
    show Q (.d (.int ((ns.map PyData.int).length : Nat)))
    rw [List.length_map]
    exact h⟩
theorem prodF_mono : ∀ (ns : List Int) (a b : Int), (∀ i ∈ ns, 1 ≤ i) → 0 ≤ a → a ≤ b → prodF ns a ≤ prodF ns b
  | [], a, b, _, _, h => h
  | n :: ns, a, b, hp, h0, h => by
    have h1 := hp n List.mem_cons_self
    exact prodF_mono ns (a * n) (b * n) (fun i hi => hp i (List.mem_cons_of_mem _ hi)) (Int.mul_nonneg h0 (by omega)) (Int.mul_le_mul_of_nonneg_right h (by omega))
theorem numF_lt : ∀ (ns cs : List Int) (a : Int), (∀ i ∈ ns, 1 ≤ i) → 0 ≤ a → cs.length = ns.length → (∀ (k : Nat) (n c : Int), ns[k]? = some n → cs[k]? = some c → 0 ≤ c ∧ c < n) → 0 ≤ numF ns cs a ∧ numF ns cs a < prodF ns (a + 1)
  | [], [], a, _, h0, _, _ => ⟨h0, by show a < a + 1; omega⟩
  | [], _ :: _, a, _, _, hl, _ => by cases hl
  | _ :: _, [], a, _, _, hl, _ => by cases hl
  | n :: ns, c :: cs, a, hp, h0, hl, hc => by
    have h1 := hp n List.mem_cons_self
    have h2 := hc 0 n c rfl rfl
    have h3 : 0 ≤ a * n := Int.mul_nonneg h0 (by omega)
    have ih := numF_lt ns cs (a * n + c) (fun i hi => hp i (List.mem_cons_of_mem _ hi)) (by omega) (by simpa using hl) (fun k n' c' e1 e2 => hc (k + 1) n' c' e1 e2)
    refine ⟨ih.1, Int.lt_of_lt_of_le ih.2 ?_⟩
    refine prodF_mono ns _ _ (fun i hi => hp i (List.mem_cons_of_mem _ hi)) (by omega) ?_
    rw [Int.add_mul, Int.one_mul]
    omega
theorem good_cont {ns : List Int} : ∀ (xs : List PyData) (k : Nat), firstBadI (badC ns) k xs = .none → ∃ vs : List Int, xs = vs.map .int ∧ ∀ (j : Nat) (c : Int), vs[j]? = some c → 0 ≤ c ∧ c < ns.getD (k + j) 0
  | [], _, _ => ⟨[], rfl, fun j c z => by cases z⟩
  | x :: xs, k, h => by
    unfold firstBadI at h
    split at h
    · cases h
    · rename_i hb
      obtain ⟨vs, e, g⟩ := good_cont xs (k + 1) h
      cases x with
      | int i =>
        refine ⟨i :: vs, by rw [e]; rfl, fun j c hj => ?_⟩
        cases j with
        | zero =>
          have : i = c := Option.some.inj hj
          subst this
          have hb' : ¬ (!(decide (0 ≤ i)) || decide (ns.getD k 0 ≤ i)) = true := hb
          simp at hb'
          rw [Nat.add_zero]
          simp
          omega
        | succ j =>
          have := g j c hj
          rwa [show k + 1 + j = k + (j + 1) by omega] at this
      | bool _ => exact absurd rfl hb
      | none => exact absurd rfl hb
      | str _ => exact absurd rfl hb
      | list _ => exact absurd rfl hb
      | tuple _ => exact absurd rfl hb
      | dict _ => exact absurd rfl hb
theorem wrongContent_cases (ns : List Int) (x : PyData) : (wrongContent ns x = .none ∧ ∃ (b : Bool) (vs : List Int), x = sqOf b (vs.map .int) ∧ vs.length = ns.length ∧ ∀ (k : Nat) (n c : Int), ns[k]? = some n → vs[k]? = some c → 0 ≤ c ∧ c < n) ∨ ∃ i : Int, wrongContent ns x = .int i := by
  unfold wrongContent
  split
  · rename_i xs e
    split
    · rename_i hl
      rcases firstBadI_cases (badC ns) xs 0 with h | ⟨i, h⟩
      · refine .inl ⟨h, ?_⟩
        obtain ⟨vs, en, g⟩ := good_cont xs 0 h
        rw [en, List.length_map] at hl
        have g2 : ∀ (k : Nat) (n c : Int), ns[k]? = some n → vs[k]? = some c → 0 ≤ c ∧ c < n := fun k n c e1 e2 => by
          have := g k c e2
          rw [Nat.zero_add, List.getD_eq_getElem?_getD, e1] at this
          exact this
        cases x with
        | list ys => cases e; exact ⟨true, vs, by rw [en]; rfl, hl, g2⟩
        | tuple ys => cases e; exact ⟨false, vs, by rw [en]; rfl, hl, g2⟩
        | int _ => cases e
        | bool _ => cases e
        | none => cases e
        | str _ => cases e
        | dict _ => cases e
      · exact .inr ⟨_, h⟩
    · exact .inr ⟨_, rfl⟩
  · exact .inr ⟨_, rfl⟩
theorem s_wrong_content' {b : Bool} {ns : List Int} {x y : PyData} (e : wrongContent ns x = y) (h : Q (.d y)) : p_wrong_content K A [.d (sqOf b (ns.map .int)), .d x] Q E := s_wrong_content (by rw [e]; exact h)
theorem s_Board_call (T : Txt K mg A) {m : Int} {ns cs : List Int} {x : PyData} (hsm : ∀ i ∈ ns, sm i) (hp : ∀ i ∈ ns, 1 ≤ i) (hl : (cs.length : Int) = prodF ns 1)
    (hn : wrongContent ns x = .none → ∀ c, cs[(numF ns (intsOf x) 0).toNat]? = some c → Q (.d (.int c))) (he : ∀ i, wrongContent ns x = .int i → E ⟨.ref A.a_InvalidSetting, [("at", .int i)]⟩) :
    p_Board_call K A [.obj A.a_Board (fields m ns cs), .d x] Q E := by
  rcases wrongContent_cases ns x with ⟨e, b, vs, rfl, hvl, hv⟩ | ⟨i, e⟩
  · obtain ⟨h0, h1⟩ := numF_lt ns vs 0 hp (by omega) hvl hv
    have hlt : (numF ns vs 0).toNat < cs.length := by
      rw [show (0 : Int) + 1 = 1 from rfl] at h1
      omega
    have hq := hn e cs[(numF ns vs 0).toNat] (by rw [intsOf_sq]; exact List.getElem?_eq_getElem hlt)
    refine ⟨rfl, _, _, .tuple (ns.map .int), rfl, T.cls_Board, T.na_Board _ (by decide), rfl, [.d (sqOf false (ns.map .int)), .d _], rfl, s_wrong_content' (b := false) e ⟨rfl, _, _, rfl, _, _, rfl, rfl, rfl, _, rfl, ?_⟩⟩
    refine ⟨_, _, .tuple (cs.map .int), rfl, T.cls_Board, T.na_Board _ (by decide), rfl, _, _, .tuple (ns.map .int), rfl, T.cls_Board, T.na_Board _ (by decide), rfl, [.d (sqOf false (ns.map .int)), .d _], rfl, s_setting_number (b := false) hsm ⟨rfl, _, _, rfl, rfl, .int cs[(numF ns vs 0).toNat], ?_, _, rfl, hq⟩⟩
    exact atI_int (by rw [List.getElem?_map, List.getElem?_eq_getElem hlt]; rfl) h0
  · exact ⟨rfl, _, _, .tuple (ns.map .int), rfl, T.cls_Board, T.na_Board _ (by decide), rfl, [.d (sqOf false (ns.map .int)), .d _], rfl, s_wrong_content' (b := false) e ⟨rfl, _, _, rfl, _, _, rfl, rfl, rfl, _, rfl, _, rfl, rfl, he i e⟩⟩
def rngK : Nat → Nat → List PyData
  | _, 0 => []
  | k, n + 1 => .int (k : Nat) :: rngK (k + 1) n
theorem rngD_k (n : Nat) : rngD 0 n = rngK 0 n := by
  have : ∀ (n k : Nat), (List.range' k n).map (fun i => PyData.int (0 + (i : Nat))) = rngK k n := fun n => by
    induction n with
    | zero => exact fun k => rfl
    | succ n ih =>
      intro k
      rw [List.range'_succ, List.map_cons, ih (k + 1), Int.zero_add]
      rfl
  unfold rngD
  rw [List.range_eq_range', this]
theorem drop_cons {α : Type} {xs ys : List α} {k : Nat} {y : α} (h : xs.drop k = y :: ys) : xs[k]? = some y ∧ xs.drop (k + 1) = ys := by
  constructor
  · have := congrArg (fun l => l[0]?) h
    rw [List.getElem?_drop] at this
    simpa using this
  · have := congrArg (List.drop 1) h
    rw [List.drop_drop] at this
    simpa [Nat.add_comm] using this
/-- range(len(x)) -/
theorem for_rg {t : Tg} {wb : SW} {i : Nat} {b : Bool} {xs : List PyData} {ρ : SE} {P : Po} (hl : xs.length ≤ 1000000) (e : ρ[i]? = some (some (.d (sqOf b xs)))) (h : wLoop t wb (rngK 0 xs.length) ρ P E) : wFor t (wRg1 (wCons (wCB dLen (wCons (wVar i) wNil)) wNil)) wb ρ P E := by
  have hr : rngD 0 ((xs.length : Nat) : Int).toNat = rngK 0 xs.length := by rw [Int.toNat_natCast, rngD_k]
  have key : ∀ R : TV → Prop, R (.d (.int (xs.length : Nat))) → dLen [sqOf b xs] R := fun R r => len_sq R r
  unfold wFor wRg1 wCons wCB wVar wNil
  dsimp only
  rw [e]
  exact ⟨[sqOf b xs], rfl, key _ ⟨((xs.length : Nat) : Int), rfl, by omega, by omega, by rw [hr]; exact h⟩⟩
def dueD : BR → PyData
  | .board x => .tuple [.str "board", x]
  | .size => .tuple [.str "size", .str "settings"]
  | .good _ _ _ => .none
theorem wrongSize_sq {b : Bool} {xs : List PyData} : wrongSize (sqOf b xs) = if 1 ≤ xs.length ∧ xs.length ≤ 8 then firstBad badSize 0 xs else .int (-1) := by cases b <;> rfl
theorem wrongMark_sq {b : Bool} {xs : List PyData} {c m : Int} : wrongMark (sqOf b xs) c m = if (xs.length : Int) = c then firstBad (badM m) 0 xs else .int (-1) := by cases b <;> rfl
theorem seqD_sq {b : Bool} {xs : List PyData} : seqD (sqOf b xs) = some xs := by cases b <;> rfl
theorem flat_fields {m : Int} {ns cs : List Int} : (fields m ns cs).all (fun p => nolist p.2) = true := by
  unfold fields
  simp only [List.all_cons, List.all_nil, nolist_ints, Bool.true_and, Bool.and_true]
  rfl
theorem s_law_take {n : Int} (h1 : 0 < n) (h2 : n < 1073741824) (h : ∀ r : Int, 0 ≤ r → r < n → Q (.d (.int r))) : p_law_take K A [.deal 1, .d (.int n)] Q E := by
  have hm : ∀ v : Int, Q (.d (.int (v % n))) := fun v => h _ (Int.emod_nonneg v (by omega)) (Int.emod_lt_of_pos v h1)
  refine ⟨rfl, rfl, .inl rfl, fun v => ⟨_, _, rfl, rfl, _, rfl, ?_⟩⟩
  by_cases h0 : 0 < v
  · rw [decide_eq_true h0]
    exact ⟨rfl, .inl rfl, fun v2 => ⟨[.int v2], rfl, _, _, rfl, rfl, h1, _, _, rfl, rfl, .inl rfl, fun v3 => ⟨_, _, rfl, rfl, ⟨h1, h2⟩, _, rfl, rfl, .inl rfl, _, rfl, hm v2⟩⟩⟩
  · rw [decide_eq_false h0]
    refine ⟨rfl, .inr (.inr rfl), fun v2 => ⟨_, _, rfl, rfl, _, rfl, rfl, .inr (.inr rfl), ?_⟩⟩
    refine ⟨rfl, .inr (.inl rfl), fun v3 => ⟨rfl, .inr (.inr rfl), fun v4 => ⟨_, _, rfl, rfl, .inl ⟨by decide, by decide⟩, _, _, rfl, rfl, _, _, rfl, rfl, .inr ⟨by decide, by decide⟩, _, _, rfl, rfl, [.int _], rfl, _, _, rfl, rfl, by decide, _, _, rfl, ?_⟩⟩⟩
    refine ⟨_, _, rfl, rfl, .inr ⟨by decide, by decide⟩, _, _, rfl, rfl, [.int _], rfl, _, _, rfl, rfl, by decide, _, _, rfl, rfl, _, rfl, rfl, .inr (.inl rfl), ?_⟩
    exact ⟨_, _, rfl, rfl, .inr ⟨by decide, by decide⟩, rfl, .inr (.inl rfl), fun v5 => ⟨_, _, rfl, rfl, _, _, rfl, rfl, ⟨by decide, by decide⟩, [.int _], rfl, _, _, rfl, rfl, h1, _, rfl, hm _⟩⟩
theorem s_law_pick {xs : List PyData} (h1 : 0 < xs.length) (h2 : xs.length ≤ 1000) (h : ∀ (j : Nat) (x : PyData), xs[j]? = some x → Q (.d x)) : p_law_pick K A [.deal 1, .d (.list xs)] Q E := by
  refine ⟨rfl, [.list xs], rfl, [.deal 1, .d (.int (xs.length : Nat))], rfl, s_law_take (by omega) (by omega) fun r r0 r1 => ⟨rfl, _, _, rfl, rfl, ?_⟩⟩
  have hr : r.toNat < xs.length := by omega
  exact ⟨_, atI_int (List.getElem?_eq_getElem hr) r0, _, rfl, h r.toNat _ (List.getElem?_eq_getElem hr)⟩
theorem list_sq {b : Bool} {xs : List PyData} (R : TV → Prop) (r : R (.fresh xs)) : dList [sqOf b xs] R := by cases b <;> exact r
theorem cutD_mem {α : Type} {xs : List α} {lo hi : Option Int} {y : α} (h : y ∈ VL.cutD xs lo hi) : y ∈ xs := by
  unfold VL.cutD at h
  exact List.mem_of_mem_drop (List.mem_of_mem_take h)
theorem cutD_le {α : Type} {xs : List α} {lo hi : Option Int} : (VL.cutD xs lo hi).length ≤ xs.length := by
  unfold VL.cutD
  rw [List.length_take, List.length_drop]
  omega
theorem box_fin {ns : List Int} {k c : Int} (h : Q (.deal 1)) : wSeq (wHand (wLst (wCons (wOp dIx (wLst (wCons (wC (.int 0)) (wCons (wVar 2) wNil))) (wCB dInt (wCons (wOp dGe (wVar 2) (wOp dPow (wC (.int 10)) (wC (.int 18)))) wNil))) (wCons (wOp dAdd (wOp dMod (wCB dInt (wCons (wOp dAdd (wOp dMul (wOp dMod (wCB dInt (wCons (wVar 2) wNil)) (wC (.int 2147483629))) (wC (.int 48271))) (wOp dMul (wC (.int 40127)) (wVar 1))) wNil)) (wC (.int 2147483629))) (wC (.int 1))) (wCons (wC (.int 0)) wNil))))) (wNext) [some (.scr ns), some (.d (.int k)), some (.d (.int c))] { nx := fun _ => Q (.d .none), rt := Q } E := by
  refine ⟨_, _, rfl, sz (n := 2) rfl (by decide), _, _, rfl, rfl, ⟨by decide, by decide, by decide⟩, _, _, rfl, rfl, [.bool _], rfl, ?_⟩
  have fin : ∀ i : Int, ∀ P : Po, P.rt (.deal 1) → wHand (fun ρ Q E => wCons (wOp dAdd (wOp dMod (wCB dInt (wCons (wOp dAdd (wOp dMul (wOp dMod (wCB dInt (wCons (wVar 2) wNil)) (wC (.int 2147483629))) (wC (.int 48271))) (wOp dMul (wC (.int 40127)) (wVar 1))) wNil)) (wC (.int 2147483629))) (wC (.int 1))) (wCons (wC (.int 0)) wNil) ρ (fun tvs ρ2 => ∃ xs ρ3, frzAll ρ2 (.d (.int i) :: tvs) = some (xs, ρ3) ∧ xs.length ≤ sizeLine ∧ Q (.fresh xs) ρ3) E) [some (.scr ns), some (.d (.int k)), some (.d (.int c))] P E := fun i P hP =>
    ⟨[.int c], rfl, _, _, rfl, rfl, by decide, _, _, rfl, rfl, .inr ⟨by decide, by decide⟩, _, _, rfl, rfl, .inl ⟨by decide, by decide⟩, _, _, rfl, rfl, [.int _], rfl, _, _, rfl, rfl, by decide, _, _, rfl, rfl, _, _, rfl, sz (n := 3) rfl (by decide), _, _, _, rfl, hP⟩
  by_cases h1 : (10 : Int) ^ Int.toNat 18 ≤ c
  · rw [decide_eq_true h1]
    exact ⟨_, _, rfl, rfl, .int c, rfl, fin c _ h⟩
  · rw [decide_eq_false h1]
    exact ⟨_, _, rfl, rfl, .int 0, rfl, fin 0 _ h⟩
theorem s_law_box {ns : List Int} {k : Int} (hk : 0 ≤ k) (h : Q (.deal 1)) : p_law_box K A [.scr ns, .d (.int k)] Q E := by
  refine ⟨rfl, _, _, rfl, rfl, .inl ⟨by decide, by decide⟩, _, _, rfl, rfl, _, _, rfl, ns, rfl, _, _, rfl, rfl, _, rfl, ?_⟩
  by_cases h1 : k < (ns.length : Nat)
  · rw [decide_eq_true h1]
    have hx : ns[k.toNat]? = some ns[k.toNat] := List.getElem?_eq_getElem (by omega)
    exact ⟨ns, rfl, k, _, rfl, atI_int hx hk, [.int _], rfl, _, _, rfl, box_fin h⟩
  · rw [decide_eq_false h1]
    refine ⟨ns, rfl, _, _, rfl, rfl, _, rfl, ?_⟩
    by_cases h2 : 0 < ((ns.length : Nat) : Int)
    · rw [decide_eq_true h2]
      have hm := Int.emod_nonneg k (b := ((ns.length : Nat) : Int)) (by omega)
      have hm2 := Int.emod_lt_of_pos k h2
      have hx : ns[(k % ((ns.length : Nat) : Int)).toNat]? = some ns[(k % ((ns.length : Nat) : Int)).toNat] := List.getElem?_eq_getElem (by omega)
      exact ⟨ns, rfl, [.int k], rfl, ns, rfl, _, _, rfl, rfl, h2, _, _, rfl, atI_int hx hm, [.int _], rfl, [.int _], rfl, _, _, rfl, rfl, by decide, _, _, rfl, rfl, .inr ⟨by decide, by decide⟩, _, _, rfl, rfl, _, _, rfl, box_fin h⟩
    · rw [decide_eq_false h2]
      exact box_fin h
/-- x == n, told -/
theorem if_eq {f n : Int} {i : Nat} {ρ : SE} {Qb : Bool → SE → Prop} (e : ρ[i]? = some (some (.d (.int f)))) (h : Qb (decide (f = n)) ρ) : wTst (wOp dEq (wVar i) (wC (.int n))) ρ Qb E := by
  unfold wTst wOp wVar wC
  dsimp only
  rw [e]
  refine ⟨_, _, rfl, rfl, rfl, rfl, _, rfl, ?_⟩
  rw [eqv_int]
  exact h
def okS (b : PyData) : Prop := ∀ xs, seqD b = some xs → ∀ i, .int i ∈ xs → sm i
def okM (c : PyData) : Prop := ∀ xs, seqD c = some xs → xs.length ≤ 1000000
/-- a slot's data -/
def slD : SV → Option PyData
  | .d x => some x
  | .own xs => some (.list xs)
  | _ => none
def smx (x : PyData) : Prop := ∀ i, x = .int i → -(2 ^ 60) < i ∧ i < 2 ^ 60
theorem okS_of {x : PyData} (h : ∀ ys, x = .list ys ∨ x = .tuple ys → ∀ i, .int i ∈ ys → sm i) : okS x := fun ys e => by
  cases x with
  | list zs => cases e; exact h _ (.inl rfl)
  | tuple zs => cases e; exact h _ (.inr rfl)
  | int _ => cases e
  | bool _ => cases e
  | none => cases e
  | str _ => cases e
  | dict _ => cases e
theorem rep_mem {k : Nat} {xs : List PyData} {y : PyData} (h : y ∈ (List.replicate k xs).flatten) : y ∈ xs := by
  obtain ⟨l, h1, h2⟩ := List.mem_flatten.mp h
  rw [(List.mem_replicate.mp h1).2] at h2
  exact h2
theorem okM_of {x : PyData} (h : ∀ ys, x = .list ys ∨ x = .tuple ys → ys.length ≤ 1000000) : okM x := fun ys e => by
  cases x with
  | list zs => cases e; exact h _ (.inl rfl)
  | tuple zs => cases e; exact h _ (.inr rfl)
  | int _ => cases e
  | bool _ => cases e
  | none => cases e
  | str _ => cases e
  | dict _ => cases e
/-- contents within their sizes -/
def inR : List Int → List Int → Prop
  | [], [] => True
  | n :: ns, v :: vs => 0 ≤ v ∧ v < n ∧ inR ns vs
  | _, _ => False
theorem inR_len : ∀ {ns vs : List Int}, inR ns vs → vs.length = ns.length
  | [], [], _ => rfl
  | n :: ns, v :: vs, h => by rw [List.length_cons, List.length_cons, inR_len h.2.2]
  | [], _ :: _, h => h.elim
  | _ :: _, [], h => h.elim
theorem wc_flat (ns : List Int) (x : PyData) : nolist (wrongContent ns x) = true := by
  rcases wrongContent_cases ns x with ⟨e, _⟩ | ⟨i, e⟩ <;> rw [e] <;> rfl
/-- data that repr may show: depth k, bulk w -/
structure Sh (k w : Nat) (x : PyData) : Prop where
  s : x.showable = true
  f : x.leavesShort 13 = true
  d : x.depth ≤ k
  b : x.bulk ≤ w
  o : ∀ c ∈ x.shown.cps.toList, c < 1114112
theorem Sh.mono {k w k' w' : Nat} {x : PyData} (h : Sh k w x) (hk : k ≤ k') (hw : w ≤ w') : Sh k' w' x := ⟨h.s, h.f, Nat.le_trans h.d hk, Nat.le_trans h.b hw, h.o⟩
theorem log_lt {n : Nat} (h : n < 10 ^ 12) : n.log2 < 1920 := by
  by_cases h0 : n = 0
  · subst h0; decide
  · exact (Nat.log2_lt h0).mpr (Nat.lt_of_lt_of_le h (Nat.le_trans (by decide : 10 ^ 12 ≤ 2 ^ 40) (Nat.pow_le_pow_right (by decide) (by decide))))
theorem Sh.int {i : Int} (h : i.natAbs < 10 ^ 12) : Sh 0 0 (.int i) where
  s := decide_eq_true (log_lt h)
  f := decide_eq_true (PyData.shown_int_le h)
  d := Nat.le_refl _
  b := Nat.le_refl _
  o := fun c hc => Classical.byContradiction fun hn => shown_int_free' (k := c) (by omega) i hc
theorem Sh.none : Sh 0 0 .none where
  s := rfl
  f := rfl
  d := Nat.le_refl _
  b := Nat.le_refl _
  o := fun c hc => by
    rw [PyData.shown_none] at hc
    have e : (("None" : String) : Str).cps.toList = [78, 111, 110, 101] := by decide
    rw [e] at hc
    simp only [List.mem_cons, List.not_mem_nil, or_false] at hc
    omega
/-- a text that is told plainly -/
theorem Sh.str {x : Str} (h : ((PyData.str x).shown.cps.toList.all fun c => decide (c < 1114112)) = true) (h2 : (x.cps.toList.all fun c => decide (c < 16 ^ 8)) = true) : Sh 0 x.cps.size (.str x) where
  s := rfl
  f := h2
  d := Nat.le_refl _
  b := Nat.le_refl _
  o := fun c hc => of_decide_eq_true (List.all_eq_true.mp h c hc)
def shAll (k w : Nat) (xs : List PyData) : Prop := ∀ x ∈ xs, Sh k w x
theorem sh_all {k w : Nat} : ∀ {xs : List PyData}, shAll k w xs → PyData.showableAll xs = true ∧ PyData.leavesShortAll 13 xs = true ∧ PyData.depthAll xs ≤ k ∧ PyData.bulkAll xs ≤ (w + 1) * xs.length ∧ ∀ t ∈ PyData.shownAll xs, ∀ c ∈ t.cps.toList, c < 1114112
  | [], _ => ⟨rfl, rfl, Nat.zero_le _, Nat.zero_le _, fun t ht => by rw [PyData.shownAll_nil] at ht; exact absurd ht (by simp)⟩
  | x :: xs, h => by
    obtain ⟨h1, h2, h3, h4, h5⟩ := sh_all (xs := xs) fun y hy => h y (List.mem_cons_of_mem _ hy)
    have hx := h x List.mem_cons_self
    refine ⟨?_, ?_, ?_, ?_, fun t ht => ?_⟩
    · unfold PyData.showableAll
      rw [hx.s, h1]
      rfl
    · unfold PyData.leavesShortAll
      rw [hx.f, h2]
      rfl
    · unfold PyData.depthAll
      have := hx.d
      omega
    · unfold PyData.bulkAll
      have := hx.b
      rw [List.length_cons, Nat.mul_add]
      omega
    · rw [PyData.shownAll_cons] at ht
      rcases List.mem_cons.mp ht with rfl | ht
      · exact hx.o
      · exact h5 t ht
theorem Sh.tup {k w : Nat} {xs : List PyData} (h : shAll k w xs) : Sh (k + 1) ((w + 1) * xs.length) (.tuple xs) := by
  obtain ⟨h1, h2, h3, h4, h5⟩ := sh_all h
  refine ⟨h1, h2, by unfold PyData.depth; omega, h4, fun c hc => ?_⟩
  have e : (PyData.tuple xs).shown = tupleText (PyData.shownAll xs) := by simp only [PyData.shown]
  rw [e] at hc
  unfold tupleText at hc
  rw [mem_cps_append, mem_cps_append, mem_join] at hc
  have e1 : (("(" : String) : Str).cps.toList = [40] := by decide
  have e2 : ((", " : String) : Str).cps.toList = [44, 32] := by decide
  have e3 : ((",)" : String) : Str).cps.toList = [44, 41] := by decide
  have e4 : ((")" : String) : Str).cps.toList = [41] := by decide
  rcases hc with (hc | ⟨t, ht, hc⟩ | ⟨_, hc⟩) | hc
  · rw [e1] at hc
    simp only [List.mem_cons, List.not_mem_nil, or_false] at hc
    omega
  · exact h5 t ht c hc
  · rw [e2] at hc
    simp only [List.mem_cons, List.not_mem_nil, or_false] at hc
    omega
  · split at hc
    · rw [e3] at hc
      simp only [List.mem_cons, List.not_mem_nil, or_false] at hc
      omega
    · rw [e4] at hc
      simp only [List.mem_cons, List.not_mem_nil, or_false] at hc
      omega
theorem Sh.ints {ns : List Int} (h : ∀ i ∈ ns, i.natAbs < 10 ^ 12) : Sh 1 ns.length (.tuple (ns.map .int)) := by
  have := Sh.tup (k := 0) (w := 0) (xs := ns.map .int) fun x hx => by
    obtain ⟨i, hi, rfl⟩ := List.mem_map.mp hx
    exact Sh.int (h i hi)
  rwa [List.length_map, Nat.zero_add, Nat.one_mul] at this
theorem repr_ok {k w : Nat} {x : PyData} {R : TV → Prop} (h : Sh k w x) (hk : k ≤ 60) (hw : w ≤ 1000000) (r : R (.d (.str x.shown))) : dRepr [x] R :=
  ⟨h.s, Nat.le_trans h.d hk, PyData.shown_fits_bulk (B := 13) (by decide) (by decide) h.f (Nat.le_trans h.b (Nat.le_trans hw (by decide))), r⟩
theorem sh_shaped {k w : Nat} {x : PyData} (h : Sh k w x) : SeqAt.shaped (.str x.shown) = true := by
  unfold SeqAt.shaped PyData.canLay0 PyData.depth
  rw [decide_eq_true (by decide : (0 : Nat) ≤ 64), Bool.and_true]
  unfold PyData.strOk
  rw [Array.all_eq_true_iff_forall_mem]
  exact fun c hc => decide_eq_true (h.o c (Array.mem_toList_iff.mpr hc))
theorem eqv_str (x : Str) : PyData.eqv (.str x) (.str x) = true := by
  show (x == x) = true
  exact beq_self_eq_true x
/-- repr of the same twice, told unlike: no -/
theorem ne_repr {k w : Nat} {x : PyData} {R : TV → Prop} (h : Sh k w x) (r : R (.d (.bool false))) : dNe (.str x.shown) (.str x.shown) R :=
  ⟨sh_shaped h, sh_shaped h, by rw [eqv_str]; exact r⟩
/-! ### the places that faults tell are small -/
theorem firstBad_lt (p : PyData → Bool) : ∀ (xs : List PyData) (k : Nat) {i : Int}, firstBad p k xs = .int i → 0 ≤ i ∧ i < ((k + xs.length : Nat) : Int)
  | [], _, _, h => by cases h
  | x :: xs, k, i, h => by
    unfold firstBad at h
    rw [List.length_cons]
    split at h
    · cases h
      omega
    · have := firstBad_lt p xs (k + 1) h
      omega
theorem firstBadI_lt (p : Nat → PyData → Bool) : ∀ (xs : List PyData) (k : Nat) {i : Int}, firstBadI p k xs = .int i → 0 ≤ i ∧ i < ((k + xs.length : Nat) : Int)
  | [], _, _, h => by cases h
  | x :: xs, k, i, h => by
    unfold firstBadI at h
    rw [List.length_cons]
    split at h
    · cases h
      omega
    · have := firstBadI_lt p xs (k + 1) h
      omega
theorem wrongContent_lt {ns : List Int} {x : PyData} {i : Int} (hl : ns.length ≤ 1000000) (h : wrongContent ns x = .int i) : i.natAbs < 10 ^ 12 := by
  unfold wrongContent at h
  split at h
  · split at h
    · rename_i xs _ e
      have := firstBadI_lt _ xs 0 h
      omega
    · cases h; decide
  · cases h; decide
theorem wrongSize_lt {x : PyData} {i : Int} (h : wrongSize x = .int i) : i.natAbs < 10 ^ 12 := by
  unfold wrongSize at h
  split at h
  · split at h
    · rename_i xs _ e
      have := firstBad_lt _ xs 0 h
      omega
    · cases h; decide
  · cases h; decide
theorem wrongMark_lt {x : PyData} {c m i : Int} (hx : okM x) (h : wrongMark x c m = .int i) : i.natAbs < 10 ^ 12 := by
  unfold wrongMark at h
  split at h
  · rename_i xs e
    have hl := hx xs e
    split at h
    · have := firstBad_lt _ xs 0 h
      omega
    · cases h; decide
  · cases h; decide
structure GoodS (ns : List Int) : Prop where
  h0 : 1 ≤ ns.length
  h1 : ns.length ≤ 8
  hn : ∀ i ∈ ns, 1 ≤ i
  hp : prodF ns 1 ≤ 20000
structure Good (m : Int) (ns cs : List Int) : Prop extends GoodS ns where
  m0 : 2 ≤ m
  m1 : m ≤ 8
  hl : (cs.length : Int) = prodF ns 1
  hc : ∀ c ∈ cs, 0 ≤ c ∧ c < m
theorem prodF_ge : ∀ (ns : List Int) (a : Int), (∀ i ∈ ns, 1 ≤ i) → 0 ≤ a → a ≤ prodF ns a
  | [], a, _, _ => Int.le_refl _
  | n :: ns, a, h, h0 => by
    have h1 := h n List.mem_cons_self
    have h2 : a * 1 ≤ a * n := Int.mul_le_mul_of_nonneg_left h1 h0
    rw [Int.mul_one] at h2
    exact Int.le_trans h2 (prodF_ge ns (a * n) (fun i hi => h i (List.mem_cons_of_mem _ hi)) (by omega))
theorem prodF_mem : ∀ (ns : List Int) (a : Int), (∀ i ∈ ns, 1 ≤ i) → 1 ≤ a → ∀ i ∈ ns, i ≤ prodF ns a
  | n :: ns, a, h, h0, i, hi => by
    have h1 := h n List.mem_cons_self
    have h2 : 1 * n ≤ a * n := Int.mul_le_mul_of_nonneg_right h0 (by omega)
    rw [Int.one_mul] at h2
    rcases List.mem_cons.mp hi with rfl | hi
    · exact Int.le_trans h2 (prodF_ge ns (a * i) (fun i hi => h i (List.mem_cons_of_mem _ hi)) (by omega))
    · exact prodF_mem ns (a * n) (fun i hi => h i (List.mem_cons_of_mem _ hi)) (by omega) i hi
theorem GoodS.le {ns : List Int} (g : GoodS ns) : ∀ i ∈ ns, 1 ≤ i ∧ i ≤ 20000 := fun i hi => ⟨g.hn i hi, Int.le_trans (prodF_mem ns 1 g.hn (by decide) i hi) g.hp⟩
theorem GoodS.sm {ns : List Int} (g : GoodS ns) : ∀ i ∈ ns, sm i := fun i hi => by
  have := g.le i hi
  unfold LW.sm
  omega
theorem Good.len {m : Int} {ns cs : List Int} (g : Good m ns cs) : 1 ≤ cs.length ∧ cs.length ≤ 20000 := by
  have h1 := g.hl
  have h2 := g.hp
  have h3 := prodF_ge ns 1 g.hn (by decide)
  omega
theorem fb_size : ∀ (ns : List Int) (k : Nat), (∀ i ∈ ns, 1 ≤ i) → firstBad badSize k (ns.map .int) = .none
  | [], _, _ => rfl
  | n :: ns, k, h => by
    have h1 := h n List.mem_cons_self
    have e : firstBad badSize k ((n :: ns).map .int) = firstBad badSize (k + 1) (ns.map .int) := if_neg (by show ¬ decide (n < 1) = true; rw [decide_eq_false (by omega)]; decide)
    rw [e]
    exact fb_size ns (k + 1) fun i hi => h i (List.mem_cons_of_mem _ hi)
theorem fb_mark {m : Int} : ∀ (ns : List Int) (k : Nat), (∀ i ∈ ns, 0 ≤ i ∧ i < m) → firstBad (badM m) k (ns.map .int) = .none
  | [], _, _ => rfl
  | n :: ns, k, h => by
    have h1 := h n List.mem_cons_self
    have e : firstBad (badM m) k ((n :: ns).map .int) = firstBad (badM m) (k + 1) (ns.map .int) := if_neg (by show ¬ (!(decide (0 ≤ n)) || decide (m ≤ n)) = true; rw [decide_eq_true h1.1, decide_eq_false (by omega)]; decide)
    rw [e]
    exact fb_mark ns (k + 1) fun i hi => h i (List.mem_cons_of_mem _ hi)
theorem boardR_good {m : Int} {ns cs : List Int} (g : Good m ns cs) (b b2 : Bool) : boardR (.int m) (sqOf b (ns.map .int)) (sqOf b2 (cs.map .int)) = .good m ns cs := by
  have e1 : wrongSize (sqOf b (ns.map .int)) = .none := by
    unfold wrongSize
    rw [seqD_sq]
    dsimp only
    rw [List.length_map, if_pos ⟨g.h0, g.h1⟩]
    exact fb_size ns 0 g.hn
  have e2 : wrongMark (sqOf b2 (cs.map .int)) (prodF ns 1) m = .none := by
    unfold wrongMark
    rw [seqD_sq]
    dsimp only
    rw [List.length_map, if_pos g.hl]
    exact fb_mark cs 0 g.hc
  have h1 : boardR (.int m) (sqOf b (ns.map .int)) (sqOf b2 (cs.map .int)) = sizesR m (sqOf b (ns.map .int)) (sqOf b2 (cs.map .int)) := if_pos ⟨g.m0, g.m1⟩
  rw [h1]
  unfold sizesR
  rw [e1]
  dsimp only
  rw [intsOf_sq, if_neg (by have := g.hp; omega)]
  unfold marksR
  rw [e2]
  dsimp only
  rw [intsOf_sq]
theorem okS_ints {b : Bool} {ns : List Int} (h : ∀ i ∈ ns, sm i) : ∀ xs, seqD (sqOf b (ns.map .int)) = some xs → ∀ i, .int i ∈ xs → sm i := fun xs e i hi => by
  rw [seqD_sq] at e
  cases e
  obtain ⟨j, hj, e⟩ := List.mem_map.mp hi
  cases e
  exact h _ hj
theorem mk_good (T : Txt K mg A) {m : Int} {ns cs : List Int} (g : Good m ns cs) (b b2 : Bool) {Qf : List (Str × PyData) → Prop} (h : Qf (fields m ns cs)) : i_Board K A [.d (.int m), .d (sqOf b (ns.map .int)), .d (sqOf b2 (cs.map .int))] Qf E :=
  s_Board_init T (okS_ints g.sm) (by rw [boardR_good g]; exact h)
theorem eq_oo (T : Txt K mg A) (F : Fx K A) {ρ : SE} {m m' : Int} {ns ns' cs cs' : List Int} {R : Bool → Prop} (k : Bool) (hk : (decide (m = m') && (decide (ns = ns') && decide (cs = cs'))) = k) (h : R k) :
    ∃ svs t, argsS ρ [.obj A.a_Board (fields m' ns' cs')] = some svs ∧ TyT K ρ (.obj A.a_Board (fields m' ns' cs')) t ∧ PySem.W.notFirst K A.a_Board t = true ∧
      p_Board_eq K A (.obj A.a_Board (fields m ns cs) :: svs) (fun tv => flatT tv = true ∧ ∃ k, tv = .d (.bool k) ∧ R k) E :=
  ⟨[.obj A.a_Board (fields m' ns' cs')], .ref A.a_Board, rfl, .inr ⟨_, _, rfl, T.ok_Board, rfl⟩, F.nfo, s_Board_eq T F (by rw [hk]; exact ⟨rfl, k, rfl, h⟩)⟩
theorem eq_od (T : Txt K mg A) (F : Fx K A) {ρ : SE} {x : PyData} {fs : List (Str × PyData)} {R : Bool → Prop} (h : R false) :
    ∃ svs t, argsS ρ [.d x] = some svs ∧ TyT K ρ (.d x) t ∧ PySem.W.notFirst K A.a_Board t = true ∧
      p_Board_eq K A (.obj A.a_Board fs :: svs) (fun tv => flatT tv = true ∧ ∃ k, tv = .d (.bool k) ∧ R k) E :=
  ⟨[.d x], .type (tyD x), rfl, .inl ⟨_, rfl, rfl⟩, F.nfd x, s_Board_eqD T F ⟨rfl, false, rfl, h⟩⟩
theorem rngD_len (i : Int) (n : Nat) : (rngD i n).length = n := by
  unfold rngD
  rw [List.length_map, List.length_range]
/-- sizes of at most four parts -/
structure Sz4 (ns : List Int) : Prop extends GoodS ns where
  h4 : ns.length ≤ 4
theorem prodF_le4 : ∀ (ns : List Int) (a b : Int), (∀ v ∈ ns, 1 ≤ v ∧ v ≤ 4) → 0 ≤ a → a * 4 ^ ns.length ≤ b → prodF ns a ≤ b
  | [], a, b, _, _, h => by
    rw [List.length_nil, Int.pow_zero, Int.mul_one] at h
    exact h
  | n :: ns, a, b, hn, h0, h => by
    have h1 := hn n List.mem_cons_self
    refine prodF_le4 ns (a * n) b (fun v hv => hn v (List.mem_cons_of_mem _ hv)) (Int.mul_nonneg h0 (by omega)) (Int.le_trans ?_ h)
    rw [List.length_cons, Int.pow_succ, Int.mul_comm (4 ^ ns.length) 4, ← Int.mul_assoc]
    exact Int.mul_le_mul_of_nonneg_right (Int.mul_le_mul_of_nonneg_left h1.2 h0) (Int.pow_nonneg (by decide))
theorem sz4_of {vs : List Int} (h0 : 1 ≤ vs.length) (h4 : vs.length ≤ 4) (h : ∀ v ∈ vs, 1 ≤ v ∧ v ≤ 4) : Sz4 vs where
  h0 := h0
  h1 := by omega
  hn := fun v hv => (h v hv).1
  hp := prodF_le4 vs 1 20000 h (by decide) (by
    have : ∀ k : Nat, k ≤ 4 → (1 : Int) * 4 ^ k ≤ 20000 := by decide
    exact this _ h4)
  h4 := h4
theorem sIx_some {n d : Nat} {p : Int} (h0 : 0 ≤ p) : HT.sIx n d (some p) = min p.toNat n := by
  show (if p < 0 then (p + (n : Int)).toNat else min p.toNat n) = min p.toNat n
  rw [if_neg (by omega)]
theorem cutD_to {α : Type} {xs : List α} {p : Int} (h0 : 0 ≤ p) : VL.cutD xs none (some p) = xs.take p.toNat := by
  unfold VL.cutD
  rw [sIx_some h0, HT.sIx_none, List.drop_zero, Nat.sub_zero]
  by_cases h : p.toNat ≤ xs.length
  · rw [Nat.min_eq_left h]
  · rw [Nat.min_eq_right (by omega), List.take_of_length_le (Nat.le_refl _), List.take_of_length_le (by omega)]
theorem cutD_from {α : Type} {xs : List α} {p : Int} (h0 : 0 ≤ p) : VL.cutD xs (some p) none = xs.drop p.toNat := by
  unfold VL.cutD
  rw [sIx_some h0, HT.sIx_none]
  by_cases h : p.toNat ≤ xs.length
  · rw [Nat.min_eq_left h, List.take_of_length_le (by rw [List.length_drop]; exact Nat.le_refl _)]
  · rw [Nat.min_eq_right (by omega), List.drop_of_length_le (Nat.le_refl _), List.drop_of_length_le (by omega), List.take_nil]
theorem Good.sh {m : Int} {ns cs : List Int} (g : Good m ns cs) : Sh 1 ns.length (.tuple (ns.map .int)) ∧ Sh 1 cs.length (.tuple (cs.map .int)) :=
  ⟨Sh.ints fun i hi => by have := g.le i hi; omega, Sh.ints fun i hi => by have := g.hc i hi; have := g.m1; omega⟩
/-- the counts of the parts behind each -/
def sufF : List Int → List Int
  | [] => []
  | _ :: r => prodF r 1 :: sufF r
theorem prodF_mul : ∀ (ns : List Int) (a b : Int), prodF ns (a * b) = a * prodF ns b
  | [], _, _ => rfl
  | n :: ns, a, b => by
    show prodF ns (a * b * n) = a * prodF ns (b * n)
    rw [Int.mul_assoc, prodF_mul ns]
theorem prodF_appL : ∀ (ns ms : List Int) (a : Int), prodF (ns ++ ms) a = prodF ms (prodF ns a)
  | [], _, _ => rfl
  | n :: ns, ms, a => prodF_appL ns ms (a * n)
theorem stepsR_app : ∀ (ns : List Int) (n a : Int), stepsR (ns ++ [n]) a = stepsR ns a ++ [prodF ns a]
  | [], _, _ => rfl
  | m :: ns, n, a => by
    show a :: stepsR (ns ++ [n]) (a * m) = a :: stepsR ns (a * m) ++ [prodF ns (a * m)]
    rw [stepsR_app ns n (a * m)]
    rfl
theorem prodF_rev : ∀ (ns : List Int) (a : Int), prodF ns.reverse a = prodF ns a
  | [], _ => rfl
  | n :: ns, a => by
    rw [List.reverse_cons, prodF_appL, prodF_rev ns]
    show prodF ns a * n = prodF ns (a * n)
    rw [Int.mul_comm a n, prodF_mul ns n a, Int.mul_comm]
theorem stepsF_suf : ∀ ns : List Int, stepsF ns = sufF ns
  | [] => rfl
  | n :: ns => by
    have ih := stepsF_suf ns
    unfold stepsF at ih ⊢
    rw [List.reverse_cons, stepsR_app, List.reverse_append, prodF_rev, ih]
    rfl
theorem sufF_le : ∀ (ns : List Int), (∀ i ∈ ns, 1 ≤ i) → ∀ s ∈ sufF ns, 1 ≤ s ∧ s ≤ prodF ns 1
  | n :: ns, h, s, hs => by
    have h1 := h n List.mem_cons_self
    have h2 : ∀ i ∈ ns, 1 ≤ i := fun i hi => h i (List.mem_cons_of_mem _ hi)
    have h3 : prodF (n :: ns) 1 = n * prodF ns 1 := by
      show prodF ns (1 * n) = _
      rw [Int.mul_comm, prodF_mul ns n 1]
    have h4 := prodF_ge ns 1 h2 (by decide)
    have h5 : 1 * prodF ns 1 ≤ n * prodF ns 1 := Int.mul_le_mul_of_nonneg_right h1 (by omega)
    rw [h3]
    rcases List.mem_cons.mp hs with rfl | hs
    · omega
    · have := sufF_le ns h2 s hs
      omega
end LW
set_option Elab.async false
set_option linter.all false
set_option maxRecDepth 100000
set_option maxHeartbeats 400000
/-! U1: texts as lists of signs: cut at a sign, numbers, plainly. -/
namespace LW
open PySem PySem.Spec PyProof.Rows L2 VL
/-- the text of these signs -/
abbrev tx (l : List Nat) : Str := ⟨l.toArray⟩
abbrev pT (l : List Nat) : PyData := .str (tx l)
theorem tx_tl (x : Str) : tx (TL.tl x) = x := TL.mk_tl x
theorem tx_len (l : List Nat) : (tx l).length = l.length := by
  show l.toArray.size = l.length
  rw [List.size_toArray]
theorem tx_app (l m : List Nat) : tx l ++ tx m = tx (l ++ m) := TL.ext_tl (by rw [TL.tl_append])
theorem tx_inj {l m : List Nat} (h : tx l = tx m) : l = m := congrArg TL.tl h
def okL (l : List Nat) : Prop := ∀ c ∈ l, c < 1114112
theorem shaped_tx {l : List Nat} (h : okL l) : SeqAt.shaped (pT l) = true := by
  unfold SeqAt.shaped PyData.canLay0 PyData.depth
  rw [decide_eq_true (by decide : (0 : Nat) ≤ 64), Bool.and_true]
  unfold PyData.strOk
  rw [Array.all_eq_true_iff_forall_mem]
  exact fun c hc => decide_eq_true (h c (Array.mem_toList_iff.mpr hc))
theorem eqv_tx (l m : List Nat) : PyData.eqv (pT l) (pT m) = decide (l = m) := by
  show (tx l == tx m) = _
  by_cases h : l = m
  · subst h
    rw [decide_eq_true rfl]
    exact beq_self_eq_true _
  · rw [decide_eq_false h]
    exact beq_eq_false_iff_ne.mpr fun z => h (tx_inj z)
theorem deq_tx {l m : List Nat} {R : TV → Prop} (h1 : okL l) (h2 : okL m) (r : R (.d (.bool (decide (l = m))))) : dEq (pT l) (pT m) R := ⟨shaped_tx h1, shaped_tx h2, by rw [eqv_tx]; exact r⟩
theorem dne_tx {l m : List Nat} {R : TV → Prop} (h1 : okL l) (h2 : okL m) (r : R (.d (.bool (!decide (l = m))))) : dNe (pT l) (pT m) R := ⟨shaped_tx h1, shaped_tx h2, by rw [eqv_tx]; exact r⟩
theorem deq_k {l m : List Nat} {s : Str} {R : TV → Prop} (e : s = tx m) (h1 : okL l) (h2 : okL m) (r : R (.d (.bool (decide (l = m))))) : dEq (pT l) (.str s) R := by
  subst e
  exact deq_tx h1 h2 r
theorem dne_k {l m : List Nat} {s : Str} {R : TV → Prop} (e : s = tx m) (h1 : okL l) (h2 : okL m) (r : R (.d (.bool (!decide (l = m))))) : dNe (pT l) (.str s) R := by
  subst e
  exact dne_tx h1 h2 r
/-! ### cut at a sign -/
def cut (s : Nat) : List Nat → List Nat → List (List Nat)
  | acc, [] => [acc]
  | acc, c :: r => if c = s then acc :: cut s [] r else cut s (acc ++ [c]) r
theorem cut_spl (s : Nat) : ∀ (l acc : List Nat), TL.spl [s] 0 acc l = cut s acc l
  | [], acc => rfl
  | c :: r, acc => by
    unfold cut
    by_cases h : c = s
    · subst h
      rw [TL.spl_hit (by unfold TL.pre; exact beq_self_eq_true _), if_pos rfl, ← cut_spl c r []]
      rfl
    · rw [TL.spl_miss (TL.pre_of_head [] r h), if_neg h, cut_spl s r]
theorem split_tx {s : Nat} {b : Str} (e : b = tx [s]) (hs : s < 256) (l : List Nat) : Txt.split (tx l) b = (cut s [] l).map tx := by
  subst e
  refine TL.map_tl_inj ?_
  rw [TL.split_spl (tx l) (tx [s]) (by show [s] ≠ []; simp) (TL.kind_ok (by show ([s].toArray).all _ = true; simp [hs])), List.map_map]
  show TL.spl [s] 0 [] l = _
  rw [cut_spl]
  exact (List.map_id _).symm
theorem cut_ne (s : Nat) : ∀ (l acc : List Nat), cut s acc l ≠ []
  | [], acc => by unfold cut; simp
  | c :: r, acc => by
    unfold cut
    split
    · simp
    · exact cut_ne s r _
theorem cut_mem (s : Nat) : ∀ (l acc : List Nat), ∀ p ∈ cut s acc l, (∀ c ∈ p, c ∈ acc ∨ c ∈ l) ∧ p.length ≤ acc.length + l.length
  | [], acc, p, hp => by
    have e : p = acc := List.mem_singleton.mp hp
    subst e
    exact ⟨fun c hc => .inl hc, by omega⟩
  | c :: r, acc, p, hp => by
    unfold cut at hp
    split at hp
    · rcases List.mem_cons.mp hp with rfl | hp
      · exact ⟨fun c hc => .inl hc, by omega⟩
      · have ih := cut_mem s r [] p hp
        exact ⟨fun d hd => .inr (List.mem_cons_of_mem _ ((ih.1 d hd).resolve_left (by simp))), by have := ih.2; rw [List.length_nil] at this; rw [List.length_cons]; omega⟩
    · have ih := cut_mem s r _ p hp
      refine ⟨fun d hd => ?_, by have := ih.2; rw [List.length_append, List.length_singleton] at this; rw [List.length_cons]; omega⟩
      rcases ih.1 d hd with h | h
      · rcases List.mem_append.mp h with h | h
        · exact .inl h
        · exact .inr (by rw [List.mem_singleton.mp h]; exact List.mem_cons_self)
      · exact .inr (List.mem_cons_of_mem _ h)
theorem cut_len (s : Nat) : ∀ (l acc : List Nat), (cut s acc l).length ≤ l.length + 1
  | [], acc => by unfold cut; simp
  | c :: r, acc => by
    unfold cut
    split
    · have := cut_len s r []
      rw [List.length_cons, List.length_cons]
      omega
    · have := cut_len s r (acc ++ [c])
      rw [List.length_cons]
      omega
/-- signs of a text, short enough -/
structure okT (n : Nat) (l : List Nat) : Prop where
  ok : okL l
  len : l.length ≤ n
theorem okT.mono {n m : Nat} {l : List Nat} (h : okT n l) (hm : n ≤ m) : okT m l := ⟨h.ok, Nat.le_trans h.len hm⟩
theorem okT.cut {n s : Nat} {l : List Nat} (h : okT n l) : ∀ p ∈ cut s [] l, okT n p := fun p hp => by
  obtain ⟨h1, h2⟩ := cut_mem s l [] p hp
  exact ⟨fun c hc => h.ok c ((h1 c hc).resolve_left (by simp)), Nat.le_trans h2 (by rw [List.length_nil, Nat.zero_add]; exact h.len)⟩
/-! ### numbers -/
def isDg (c : Nat) : Bool := decide (48 ≤ c) && decide (c ≤ 57)
def dgV (l : List Nat) : Nat := NumText.digitsVal l
def numOk (l : List Nat) (most : Nat) : Bool := decide (1 ≤ l.length) && decide (l.length ≤ most) && l.all isDg && (decide (l.length = 1) || decide (l.headD 0 ≠ 48))
def numT (l : List Nat) (most : Nat) : Option Nat := if numOk l most = true then some (dgV l) else none
theorem all_dg {l : List Nat} (h : l.all isDg = true) : NumText.AllDigits l := fun c hc => by
  have := List.all_eq_true.mp h c hc
  unfold isDg at this
  rw [Bool.and_eq_true, decide_eq_true_eq, decide_eq_true_eq] at this
  exact this
theorem dg_fold : ∀ (l : List Nat) (a : Nat), NumText.AllDigits l → a ≤ l.foldl (fun acc c => acc * 10 + (c - 48)) a ∧ l.foldl (fun acc c => acc * 10 + (c - 48)) a < (a + 1) * 10 ^ l.length
  | [], a, _ => ⟨Nat.le_refl _, by show a < (a + 1) * 10 ^ 0; omega⟩
  | c :: r, a, h => by
    have hc := h c List.mem_cons_self
    obtain ⟨h1, h2⟩ := dg_fold r (a * 10 + (c - 48)) fun d hd => h d (List.mem_cons_of_mem _ hd)
    rw [List.foldl_cons, List.length_cons, Nat.pow_succ]
    refine ⟨by omega, Nat.lt_of_lt_of_le h2 ?_⟩
    have e : (a + 1) * (10 ^ r.length * 10) = (a * 10 + 10) * 10 ^ r.length := by
      rw [← Nat.mul_assoc, Nat.mul_comm ((a + 1) * 10 ^ r.length) 10, ← Nat.mul_assoc, Nat.mul_comm 10 (a + 1), Nat.add_mul, Nat.one_mul]
    rw [e]
    exact Nat.mul_le_mul_right _ (by omega)
theorem dgV_lt {l : List Nat} (h : NumText.AllDigits l) : dgV l < 10 ^ l.length := by
  have := (dg_fold l 0 h).2
  rw [Nat.zero_add, Nat.one_mul] at this
  exact this
theorem numOk_parts {l : List Nat} {most : Nat} (h : numOk l most = true) : 1 ≤ l.length ∧ l.length ≤ most ∧ NumText.AllDigits l ∧ (l.length = 1 ∨ l.headD 0 ≠ 48) := by
  unfold numOk at h
  rw [Bool.and_eq_true, Bool.and_eq_true, Bool.and_eq_true, Bool.or_eq_true, decide_eq_true_eq, decide_eq_true_eq, decide_eq_true_eq, decide_eq_true_eq] at h
  exact ⟨h.1.1.1, h.1.1.2, all_dg h.1.2, h.2⟩
/-- such a number is 0 just as 0 is written -/
theorem dgV_zero {l : List Nat} {most : Nat} (h : numOk l most = true) : dgV l = 0 ↔ l = [48] := by
  obtain ⟨h1, h2, h3, h4⟩ := numOk_parts h
  cases l with
  | nil => simp at h1
  | cons c r =>
    have hc := h3 c List.mem_cons_self
    constructor
    · intro e
      have e' : r.foldl (fun acc c => acc * 10 + (c - 48)) (0 * 10 + (c - 48)) = 0 := e
      have := (dg_fold r (0 * 10 + (c - 48)) fun d hd => h3 d (List.mem_cons_of_mem _ hd)).1
      have hc8 : c = 48 := by omega
      rcases h4 with h4 | h4
      · rw [List.length_cons] at h4
        have : r = [] := List.length_eq_zero_iff.mp (by omega)
        rw [this, hc8]
      · exact absurd hc8 h4
    · intro e
      rw [e]
      rfl
theorem numT_lt {l : List Nat} {most n : Nat} (h : numT l most = some n) : n < 10 ^ most := by
  unfold numT at h
  split at h
  · rename_i ho
    cases h
    obtain ⟨h1, h2, h3, h4⟩ := numOk_parts ho
    exact Nat.lt_of_lt_of_le (dgV_lt h3) (Nat.pow_le_pow_right (by decide) h2)
  · cases h
theorem int_tx {l : List Nat} {most : Nat} (hm : most ≤ 600) (h : numOk l most = true) : PySem.intText? (tx l) = some ((dgV l : Nat) : Int) ∧ (tx l).length ≤ 640 := by
  obtain ⟨h1, h2, h3, h4⟩ := numOk_parts h
  exact ⟨PySem.intText_digits (x := tx l) h3 (fun z => by rw [show (tx l).cps.toList = l from rfl] at z; rw [z] at h1; simp at h1) (by rw [tx_len]; omega), by rw [tx_len]; omega⟩
/-! ### data compared -/
structure Dt (k : Nat) (x : PyData) : Prop where
  c : x.canLay0 = true
  d : x.depth ≤ k
  e : PyData.eqv x x = true
theorem Dt.int (i : Int) : Dt 0 (.int i) := ⟨rfl, Nat.le_refl _, by rw [eqv_int, decide_eq_true rfl]⟩
theorem Dt.none : Dt 0 .none := ⟨rfl, Nat.le_refl _, rfl⟩
theorem Dt.bool (b : Bool) : Dt 0 (.bool b) := ⟨rfl, Nat.le_refl _, by cases b <;> rfl⟩
theorem Dt.txt {l : List Nat} (h : okL l) : Dt 0 (pT l) := by
  have z := shaped_tx h
  unfold SeqAt.shaped at z
  rw [Bool.and_eq_true] at z
  exact ⟨z.1, Nat.le_refl _, by rw [eqv_tx, decide_eq_true rfl]⟩
theorem dt_all {k : Nat} : ∀ {xs : List PyData}, (∀ x ∈ xs, Dt k x) → PyData.canLayAll0 xs = true ∧ PyData.depthAll xs ≤ k ∧ PyData.eqvAll xs xs = true
  | [], _ => ⟨rfl, Nat.zero_le _, rfl⟩
  | x :: xs, h => by
    obtain ⟨h1, h2, h3⟩ := dt_all (xs := xs) fun y hy => h y (List.mem_cons_of_mem _ hy)
    have hx := h x List.mem_cons_self
    refine ⟨?_, ?_, ?_⟩
    · unfold PyData.canLayAll0
      rw [hx.c, h1]
      rfl
    · unfold PyData.depthAll
      have := hx.d
      omega
    · unfold PyData.eqvAll
      rw [hx.e, h3]
      rfl
theorem Dt.tup {k : Nat} {xs : List PyData} (h : ∀ x ∈ xs, Dt k x) : Dt (k + 1) (.tuple xs) := by
  obtain ⟨h1, h2, h3⟩ := dt_all h
  exact ⟨h1, by unfold PyData.depth; omega, by unfold PyData.eqv; exact h3⟩
theorem Dt.lst {k : Nat} {xs : List PyData} (h : ∀ x ∈ xs, Dt k x) : Dt (k + 1) (.list xs) := by
  obtain ⟨h1, h2, h3⟩ := dt_all h
  exact ⟨h1, by unfold PyData.depth; omega, by unfold PyData.eqv; exact h3⟩
theorem Dt.mono {k j : Nat} {x : PyData} (h : Dt k x) (hj : k ≤ j) : Dt j x := ⟨h.c, Nat.le_trans h.d hj, h.e⟩
theorem Dt.sh {k : Nat} {x : PyData} (h : Dt k x) (hk : k ≤ 64) : SeqAt.shaped x = true := by
  unfold SeqAt.shaped
  rw [h.c, decide_eq_true (Nat.le_trans h.d hk)]
  rfl
theorem ne_same {k : Nat} {x : PyData} {R : TV → Prop} (h : Dt k x) (hk : k ≤ 64) (r : R (.d (.bool false))) : dNe x x R := ⟨h.sh hk, h.sh hk, by rw [h.e]; exact r⟩
theorem eq_same {k : Nat} {x : PyData} {R : TV → Prop} (h : Dt k x) (hk : k ≤ 64) (r : R (.d (.bool true))) : dEq x x R := ⟨h.sh hk, h.sh hk, by rw [h.e]; exact r⟩
theorem Dt.ints (ns : List Int) : Dt 1 (.tuple (ns.map .int)) := Dt.tup fun x hx => by
  obtain ⟨i, _, rfl⟩ := List.mem_map.mp hx
  exact Dt.int i
end LW
set_option Elab.async false
set_option linter.all false
set_option maxRecDepth 100000
set_option maxHeartbeats 400000
/-! U2: small functions over texts. -/
namespace LW
open PySem PySem.Spec PyProof.Rows L2 VL
variable {K : PySem.W.Frag} {mg : Str → Option Value} {A : Ad} {Q : TV → Prop} {E : QX}
theorem k_0 : (("0" : String) : Str) = tx [48] := TL.ext_tl (by decide)
theorem k_sp : ((" " : String) : Str) = tx [32] := TL.ext_tl (by decide)
theorem k_nl : (("\n" : String) : Str) = tx [10] := TL.ext_tl (by decide)
theorem k_e : (("" : String) : Str) = tx [] := TL.ext_tl (by decide)
theorem k_marks : (("marks" : String) : Str) = tx [109, 97, 114, 107, 115] := TL.ext_tl (by decide)
theorem k_parts : (("parts" : String) : Str) = tx [112, 97, 114, 116, 115] := TL.ext_tl (by decide)
theorem ok_k {l : List Nat} (h : (l.all fun c => decide (c < 1114112)) = true) : okL l := fun c hc => of_decide_eq_true (List.all_eq_true.mp h c hc)
/-- a list of each element's answer -/
theorem lc_map {α : Type} {i : Nat} {we : EW} {ρ : SE} {item f : α → PyData} {Qd : List PyData → Prop} : ∀ (xs : List α) (acc : List PyData), acc.length + xs.length ≤ 1000000 →
    (∀ a ∈ xs, ∀ R : PyData → Prop, R (f a) → we ((wipeS ρ [i]).set i (some (.d (item a)))) (fun tv ρ3 => ρ3 = (wipeS ρ [i]).set i (some (.d (item a))) ∧ ∃ y, frz ((wipeS ρ [i]).set i (some (.d (item a)))) tv = some (y, (wipeS ρ [i]).set i (some (.d (item a)))) ∧ R y) (fun _ => False)) →
    Qd (acc ++ xs.map f) → wLcL (.nm i) [i] wYes we ρ Qd (xs.map item) acc
  | [], acc, _, _, h => by
    rw [List.map_nil, List.append_nil] at h
    exact h
  | a :: xs, acc, hl, st, h => by
    rw [List.length_cons] at hl
    refine ⟨_, rfl, rfl, st a List.mem_cons_self (fun y => acc.length < sizeLine ∧ wLcL (.nm i) [i] wYes we ρ Qd (xs.map item) (acc ++ [y])) ⟨by rw [sizeLine_eq]; omega, ?_⟩⟩
    refine lc_map xs (acc ++ [f a]) (by rw [List.length_append, List.length_singleton]; omega) (fun b hb => st b (List.mem_cons_of_mem _ hb)) ?_
    rw [List.append_assoc]
    exact h
/-- the elements of which a test holds -/
theorem lc_fil {α : Type} {i : Nat} {bt : BW} {ρ : SE} {item : α → PyData} {p : α → Bool} {Qd : List PyData → Prop} (hi : i < ρ.length) : ∀ (xs : List α) (acc : List PyData), acc.length + xs.length ≤ 1000000 →
    (∀ a ∈ xs, ∀ R : Bool → Prop, R (p a) → bt ((wipeS ρ [i]).set i (some (.d (item a)))) (fun b ρ2 => ρ2 = (wipeS ρ [i]).set i (some (.d (item a))) ∧ R b) (fun _ => False)) →
    Qd (acc ++ (xs.filter p).map item) → wLcL (.nm i) [i] bt (wVar i) ρ Qd (xs.map item) acc
  | [], acc, _, _, h => by
    rw [List.filter_nil, List.map_nil, List.append_nil] at h
    exact h
  | a :: xs, acc, hl, st, h => by
    rw [List.length_cons] at hl
    refine ⟨_, rfl, ?_⟩
    refine st a List.mem_cons_self (fun b => if b = true then wVar i ((wipeS ρ [i]).set i (some (.d (item a)))) (fun tv ρ3 => ρ3 = (wipeS ρ [i]).set i (some (.d (item a))) ∧ ∃ y, frz ((wipeS ρ [i]).set i (some (.d (item a)))) tv = some (y, (wipeS ρ [i]).set i (some (.d (item a)))) ∧ acc.length < sizeLine ∧ wLcL (.nm i) [i] bt (wVar i) ρ Qd (xs.map item) (acc ++ [y])) (fun _ => False)
      else wLcL (.nm i) [i] bt (wVar i) ρ Qd (xs.map item) acc) ?_
    have ev : ((wipeS ρ [i]).set i (some (.d (item a))))[i]? = some (some (.d (item a))) := by
      rw [List.getElem?_set_self (by rw [wipeS_len]; exact hi)]
    cases hp : p a with
    | true =>
      rw [List.filter_cons_of_pos (by exact hp), List.map_cons] at h
      rw [if_pos rfl]
      unfold wVar
      rw [ev]
      refine ⟨rfl, item a, rfl, by rw [sizeLine_eq]; omega, ?_⟩
      refine lc_fil hi xs (acc ++ [item a]) (by rw [List.length_append, List.length_singleton]; omega) (fun b hb => st b (List.mem_cons_of_mem _ hb)) ?_
      rw [List.append_assoc]
      exact h
    | false =>
      rw [List.filter_cons_of_neg (by rw [hp]; exact Bool.false_ne_true)] at h
      exact lc_fil hi xs acc (by omega) (fun b hb => st b (List.mem_cons_of_mem _ hb)) h
theorem in_dg (c : Nat) : decide (c ∈ (("0123456789" : String) : Str).cps.toList) = isDg c := by
  have e : (("0123456789" : String) : Str).cps.toList = [48, 49, 50, 51, 52, 53, 54, 55, 56, 57] := by decide
  rw [e]
  unfold isDg
  by_cases h : 48 ≤ c ∧ c ≤ 57
  · rw [decide_eq_true h.1, decide_eq_true h.2]
    refine decide_eq_true ?_
    simp only [List.mem_cons, List.not_mem_nil, or_false]
    omega
  · have : ¬ c ∈ [48, 49, 50, 51, 52, 53, 54, 55, 56, 57] := fun z => by
      simp only [List.mem_cons, List.not_mem_nil, or_false] at z
      omega
    rw [decide_eq_false this]
    by_cases h1 : 48 ≤ c
    · rw [decide_eq_true h1, decide_eq_false fun z => h ⟨h1, z⟩]
      rfl
    · rw [decide_eq_false h1]
      rfl
theorem s_is_text {x : PyData} (h : Q (.d (.bool (match x with | .str _ => true | _ => false)))) : p_is_text K A [.d x] Q E := by
  cases x with
  | int i => exact ⟨rfl, .type "int", false, .inl ⟨_, rfl, rfl⟩, rfl, _, rfl, h⟩
  | bool i => exact ⟨rfl, .type "bool", false, .inl ⟨_, rfl, rfl⟩, rfl, _, rfl, h⟩
  | none => exact ⟨rfl, .type "NoneType", false, .inl ⟨_, rfl, rfl⟩, rfl, _, rfl, h⟩
  | str _ => exact ⟨rfl, .type "str", true, .inl ⟨_, rfl, rfl⟩, rfl, _, rfl, h⟩
  | list _ => exact ⟨rfl, .type "list", false, .inl ⟨_, rfl, rfl⟩, rfl, _, rfl, h⟩
  | tuple _ => exact ⟨rfl, .type "tuple", false, .inl ⟨_, rfl, rfl⟩, rfl, _, rfl, h⟩
  | dict _ => exact ⟨rfl, .type "dict", false, .inl ⟨_, rfl, rfl⟩, rfl, _, rfl, h⟩
theorem tx_sz {n : Nat} {l : List Nat} (h : okT n l) (hn : n ≤ 1000000) : (tx l).length ≤ sizeLine := by
  rw [tx_len, sizeLine_eq]
  have := h.len
  omega
theorem all_map (l : List Nat) (p : Nat → Bool) : (l.map p).all id = l.all p := by
  rw [List.all_map]
  rfl
theorem hd_tx {c : Nat} {r : List Nat} : L2.atI (tx (c :: r)).cps.toList 0 = some c := by
  show (ixN (c :: r).length 0).bind _ = _
  unfold ixN
  rw [if_pos (by decide), if_pos (by rw [List.length_cons]; omega)]
  rfl
theorem s_is_number_text {n m : Nat} {l : List Nat} (hl : okT n l) (hn : n ≤ 1000000) (h : Q (.d (.bool (numOk l m)))) : p_is_number_text K A [.d (pT l), .d (.int (m : Nat))] Q E := by
  have z := tx_sz hl hn
  have hlen := hl.len
  refine ⟨rfl, ?_⟩
  refine ⟨[pT l], rfl, z, _, _, rfl, rfl, _, rfl, ?_⟩
  have no : numOk l m = false → Q (.d (.bool false)) := fun e => by rw [e] at h; exact h
  by_cases h1 : 1 ≤ l.length
  · rw [decide_eq_true (by rw [tx_len]; omega : (1 : Int) ≤ ((tx l).length : Nat))]
    refine ⟨_, _, rfl, rfl, _, rfl, ?_⟩
    by_cases h2 : l.length ≤ m
    · rw [decide_eq_true (by rw [tx_len]; omega : ((tx l).length : Int) ≤ (m : Nat))]
      refine ⟨tx l, rfl, ?_⟩
      refine lc_map (i := 2) (f := fun c => .bool (isDg c)) (item := fun c => .str ⟨#[c]⟩) l [] (by rw [List.length_nil]; omega) (fun c hc R r => ⟨_, _, rfl, rfl, c, rfl, rfl, _, rfl, by rw [in_dg]; exact r⟩) ?_
      refine ⟨[.list (l.map fun c => .bool (isDg c))], rfl, l.map isDg, by rw [List.map_map]; rfl, _, l.all isDg, rfl, congrArg some (all_map l isDg), ?_⟩
      cases ha : l.all isDg with
      | false => exact ⟨_, rfl, no (by unfold numOk; rw [ha, Bool.and_false, Bool.false_and])⟩
      | true =>
        cases l with
        | nil => simp at h1
        | cons c r =>
          refine ⟨_, _, rfl, rfl, z, c, hd_tx, ?_⟩
          refine ⟨_, _, rfl, rfl, dne_k (l := [c]) k_0 (fun d hd => hl.ok d (by rw [List.mem_singleton.mp hd]; exact List.mem_cons_self)) (ok_k (by decide)) ⟨_, rfl, ?_⟩⟩
          have e0 : numOk (c :: r) m = (decide ((c :: r).length = 1) || decide (c ≠ 48)) := by
            unfold numOk
            rw [decide_eq_true h1, decide_eq_true h2, ha]
            rfl
          rw [e0] at h
          by_cases hc : c = 48
          · subst hc
            rw [decide_eq_true rfl]
            refine ⟨_, _, rfl, rfl, deq_k (l := 48 :: r) k_0 hl.ok (ok_k (by decide)) ⟨_, rfl, ?_⟩⟩
            have e1 : decide (48 :: r = [48]) = (decide ((48 :: r).length = 1) || decide (48 ≠ 48)) := by
              cases r with
              | nil => rfl
              | cons d r => rfl
            rw [e1]
            exact h
          · have e2 : (!decide ([c] = [48])) = true := by
              rw [decide_eq_false fun e => hc (by injection e)]
              rfl
            rw [e2]
            refine ⟨_, rfl, ?_⟩
            rw [decide_eq_true (p := c ≠ 48) hc, Bool.or_true] at h
            exact h
    · rw [decide_eq_false (by rw [tx_len]; omega : ¬ ((tx l).length : Int) ≤ (m : Nat))]
      exact ⟨_, rfl, no (by unfold numOk; rw [decide_eq_false h2, Bool.and_false, Bool.false_and, Bool.false_and])⟩
  · rw [decide_eq_false (by rw [tx_len]; omega : ¬ (1 : Int) ≤ ((tx l).length : Nat))]
    exact ⟨_, rfl, _, rfl, no (by unfold numOk; rw [decide_eq_false h1, Bool.false_and, Bool.false_and, Bool.false_and])⟩
def oInt : Option Nat → PyData
  | none => .none
  | some n => .int (n : Nat)
theorem fil_nil (l : List Nat) : (l.filter fun c => !isDg c) = [] ↔ l.all isDg = true := by
  rw [List.filter_eq_nil_iff, List.all_eq_true]
  constructor
  · intro h c hc
    have := h c hc
    cases hd : isDg c with
    | true => rfl
    | false => exact absurd (by rw [hd]; rfl) this
  · intro h c hc
    rw [h c hc]
    exact Bool.false_ne_true
theorem eqv_nil (l : List PyData) : PyData.eqv (.list l) (.list []) = l.isEmpty := by cases l <;> rfl
theorem s_law_number {n m : Nat} {l : List Nat} (hl : okT n l) (hn : n ≤ 1000000) (hm : m ≤ 600) (h : Q (.d (oInt (numT l m)))) : p_law_number K A [.d (pT l), .d (.int (m : Nat))] Q E := by
  have z := tx_sz hl hn
  have hlen := hl.len
  have no : numOk l m = false → Q (.d .none) := fun e => by unfold numT at h; rw [e] at h; exact h
  refine ⟨rfl, ?_⟩
  refine ⟨[pT l], rfl, z, _, _, rfl, rfl, _, rfl, ?_⟩
  by_cases h1 : 1 ≤ l.length
  · rw [decide_eq_false (by rw [tx_len]; omega : ¬ ((tx l).length : Int) < 1)]
    refine ⟨[pT l], rfl, z, _, _, rfl, rfl, _, rfl, ?_⟩
    by_cases h2 : l.length ≤ m
    · rw [decide_eq_false (by rw [tx_len]; omega : ¬ (m : Int) < ((tx l).length : Nat))]
      refine ⟨tx l, rfl, ?_⟩
      refine lc_fil (i := 2) (p := fun c => !isDg c) (item := fun c => .str ⟨#[c]⟩) (by show 2 < 3; decide) l [] (by rw [List.length_nil]; omega) (fun c hc R r => ⟨_, _, rfl, rfl, c, rfl, _, rfl, rfl, by rw [in_dg]; exact r⟩) ?_
      rw [List.nil_append]
      refine ⟨_, _, rfl, by rw [sizeLine_eq]; decide, _, _, rfl, rfl, ?_⟩
      refine ⟨?_, rfl, ?_⟩
      · refine (Dt.lst (k := 0) fun x hx => ?_).sh (by decide)
        obtain ⟨c, hc, rfl⟩ := List.mem_map.mp hx
        exact Dt.txt (l := [c]) fun d hd => by rw [List.mem_singleton.mp hd]; exact hl.ok c (List.mem_filter.mp hc).1
      · rw [eqv_nil]
        refine ⟨_, rfl, ?_⟩
        cases ha : l.all isDg with
        | false =>
          have e : (List.map (fun c => PyData.str ⟨#[c]⟩) (l.filter fun c => !isDg c)).isEmpty = false := by
            cases hf : l.filter fun c => !isDg c with
            | nil => rw [(fil_nil l).mp hf] at ha; cases ha
            | cons _ _ => rfl
          rw [e]
          exact ⟨_, rfl, no (by unfold numOk; rw [ha, Bool.and_false, Bool.false_and])⟩
        | true =>
          have e : (List.map (fun c => PyData.str ⟨#[c]⟩) (l.filter fun c => !isDg c)).isEmpty = true := by rw [(fil_nil l).mpr ha]; rfl
          rw [e]
          refine ⟨[pT l], rfl, z, _, _, rfl, rfl, _, rfl, ?_⟩
          cases l with
          | nil => simp at h1
          | cons c r =>
            have e0 : numOk (c :: r) m = (decide ((c :: r).length = 1) || decide (c ≠ 48)) := by
              unfold numOk
              rw [decide_eq_true h1, decide_eq_true h2, ha]
              rfl
            have yes : numOk (c :: r) m = true → Q (.d (.int (dgV (c :: r) : Nat))) := fun e => by unfold numT at h; rw [if_pos e] at h; exact h
            by_cases h3 : 1 < (c :: r).length
            · rw [decide_eq_true (by rw [tx_len]; omega : (1 : Int) < ((tx (c :: r)).length : Nat))]
              refine ⟨_, _, rfl, rfl, z, c, hd_tx, ?_⟩
              refine ⟨_, _, rfl, rfl, deq_k (l := [c]) k_0 (fun d hd => hl.ok d (by rw [List.mem_singleton.mp hd]; exact List.mem_cons_self)) (ok_k (by decide)) ⟨_, rfl, ?_⟩⟩
              by_cases hc : c = 48
              · rw [decide_eq_true (by rw [hc])]
                refine ⟨_, rfl, no ?_⟩
                rw [e0, decide_eq_false (by omega), decide_eq_false (fun z => z hc)]
                rfl
              · rw [decide_eq_false fun e => hc (by injection e)]
                have ok : numOk (c :: r) m = true := by rw [e0, decide_eq_true (p := c ≠ 48) hc, Bool.or_true]
                obtain ⟨i1, i2⟩ := int_tx hm ok
                exact ⟨[pT (c :: r)], rfl, _, i1, i2, _, rfl, yes ok⟩
            · rw [decide_eq_false (by rw [tx_len]; omega : ¬ (1 : Int) < ((tx (c :: r)).length : Nat))]
              have ok : numOk (c :: r) m = true := by rw [e0, decide_eq_true (by omega), Bool.true_or]
              obtain ⟨i1, i2⟩ := int_tx hm ok
              exact ⟨[pT (c :: r)], rfl, _, i1, i2, _, rfl, yes ok⟩
    · rw [decide_eq_true (by rw [tx_len]; omega : (m : Int) < ((tx l).length : Nat))]
      exact ⟨_, rfl, no (by unfold numOk; rw [decide_eq_false h2, Bool.and_false, Bool.false_and, Bool.false_and])⟩
  · rw [decide_eq_true (by rw [tx_len]; omega : ((tx l).length : Int) < 1)]
    exact ⟨_, rfl, no (by unfold numOk; rw [decide_eq_false h1, Bool.false_and, Bool.false_and, Bool.false_and])⟩
end LW
set_option Elab.async false
set_option linter.all false
set_option maxRecDepth 100000
set_option maxHeartbeats 400000
/-! U3: the first two rows. -/
namespace LW
open PySem PySem.Spec PyProof.Rows L2 VL
variable {K : PySem.W.Frag} {mg : Str → Option Value} {A : Ad} {Q : TV → Prop} {E : QX}
theorem deq_int {a b : Int} {R : TV → Prop} (r : R (.d (.bool (decide (a = b))))) : dEq (.int a) (.int b) R := ⟨rfl, rfl, by rw [eqv_int]; exact r⟩
theorem dne_int {a b : Int} {R : TV → Prop} (r : R (.d (.bool (!decide (a = b))))) : dNe (.int a) (.int b) R := ⟨rfl, rfl, by rw [eqv_int]; exact r⟩
theorem ix_last {α : Type} (dn : List α) (a : α) : ixN (dn ++ [a]).length (((dn ++ [a]).length : Nat) - 1 : Int) = some dn.length := by
  unfold ixN
  rw [List.length_append, List.length_singleton, if_pos (by omega), if_pos (by omega)]
  congr 1
  omega
theorem at_last {α : Type} (dn : List α) (a : α) : L2.atI (dn ++ [a]) (((dn ++ [a]).length : Nat) - 1 : Int) = some a := by
  unfold L2.atI
  rw [ix_last]
  show (dn ++ [a])[dn.length]? = some a
  rw [List.getElem?_append_right (Nat.le_refl _), Nat.sub_self]
  rfl
theorem set_last {α : Type} (a b : α) : ∀ dn : List α, (dn ++ [a]).set dn.length b = dn ++ [b]
  | [] => rfl
  | c :: dn => by
    show c :: (dn ++ [a]).set dn.length b = c :: (dn ++ [b])
    rw [set_last a b dn]
abbrev wb_cut (t : Str) : SW := wSeq (wIfS (wTst (wOp dEq (wVar 2) (wC (.str t)))) (wSeq (wDrop (wApp (wVar 1) (wC (.str "")))) (wNext)) (wSeq (wSetIx 1 (wOp dSub (wCB dLen (wCons (wVar 1) wNil)) (wC (.int 1))) (wOp dAdd (wOp dIx (wVar 1) (wOp dSub (wCB dLen (wCons (wVar 1) wNil)) (wC (.int 1)))) (wVar 2))) (wNext))) (wNext)
theorem cut_loop {x : PyData} {P : Po} {s : Nat} {t : Str} (ht : t = tx [s]) (hs : s < 1114112) : ∀ (l : List Nat) (dn : List (List Nat)) (acc : List Nat) (s2 : Option SV), okL l → dn.length + acc.length + l.length ≤ 1000000 →
    (∀ s2, P.nx [some (.d x), some (.own (dn.map pT ++ (cut s acc l).map pT)), s2]) →
    wLoop (.nm 2) (wb_cut t) (l.map fun c => .str ⟨#[c]⟩) [some (.d x), some (.own (dn.map pT ++ [pT acc])), s2] P E
  | [], dn, acc, s2, _, _, h => h s2
  | c :: r, dn, acc, s2, ok, hl, h => by
    rw [List.length_cons] at hl
    have okr : okL r := fun d hd => ok d (List.mem_cons_of_mem _ hd)
    refine ⟨_, rfl, ?_⟩
    refine ⟨_, _, rfl, rfl, deq_k (l := [c]) ht (fun d hd => by rw [List.mem_singleton.mp hd]; exact ok c List.mem_cons_self) (fun d hd => by rw [List.mem_singleton.mp hd]; exact hs) ⟨_, rfl, ?_⟩⟩
    unfold cut at h
    by_cases hc : c = s
    · rw [decide_eq_true (by rw [hc])]
      rw [if_pos hc] at h
      refine ⟨1, _, rfl, rfl, .str "", _, _, rfl, rfl, by rw [sizeLine_eq, List.length_append, List.length_map, List.length_singleton]; omega, ?_⟩
      have ih := cut_loop (x := x) (P := P) ht hs r (dn ++ [acc]) [] (some (.d (.str ⟨#[c]⟩))) okr (by rw [List.length_append, List.length_singleton, List.length_nil]; omega) (fun s2 => by
        rw [List.map_append, List.append_assoc]
        exact h s2)
      rw [List.map_append] at ih
      rw [k_e]
      exact ih
    · rw [decide_eq_false fun e => hc (by injection e)]
      rw [if_neg hc] at h
      refine ⟨[.list _], rfl, _, _, rfl, rfl, _, _, rfl, rfl, _, at_last (dn.map pT) (pT acc), _, _, rfl, rfl, by show (tx acc).length + (tx [c]).length ≤ sizeLine; rw [tx_len, tx_len, sizeLine_eq, List.length_singleton]; omega, ?_⟩
      refine ⟨_, _, _, rfl, rfl, [.list _], rfl, _, _, rfl, rfl, _, _, _, rfl, rfl, ix_last (dn.map pT) (pT acc), ?_⟩
      rw [set_last]
      have e : PyData.str (tx acc ++ ⟨#[c]⟩) = pT (acc ++ [c]) := congrArg PyData.str (tx_app acc [c])
      rw [e]
      exact cut_loop (x := x) (P := P) ht hs r dn (acc ++ [c]) _ okr (by rw [List.length_append, List.length_singleton]; omega) h
theorem nolists_txs : ∀ ws : List (List Nat), nolists (ws.map pT) = true
  | [] => rfl
  | w :: r => by
    rw [List.map_cons]
    unfold nolists nolist
    rw [nolists_txs r]
    rfl
theorem s_law_words {n : Nat} {l : List Nat} (hl : okT n l) (hn : n ≤ 500000) (h : Q (.fresh ((cut 32 [] l).map pT))) : p_law_words K A [.d (pT l)] Q E := by
  have hlen := hl.len
  refine ⟨rfl, ?_⟩
  refine ⟨[.str ""], _, rfl, by rw [sizeLine_eq]; decide, _, _, rfl, tx l, rfl, ?_⟩
  rw [k_e]
  exact cut_loop (s := 32) k_sp (by decide) l [] [] none hl.ok (by rw [List.length_nil, List.length_nil]; omega) fun s2 => ⟨_, rfl, h⟩
theorem s_law_rows {n : Nat} {l : List Nat} (hl : okT n l) (hn : n ≤ 500000) (h : Q (.fresh ((cut 10 [] l).map pT))) : p_law_rows K A [.d (pT l)] Q E := by
  have hlen := hl.len
  refine ⟨rfl, ?_⟩
  refine ⟨[.str ""], _, rfl, by rw [sizeLine_eq]; decide, _, _, rfl, tx l, rfl, ?_⟩
  rw [k_e]
  exact cut_loop (s := 10) k_nl (by decide) l [] [] none hl.ok (by rw [List.length_nil, List.length_nil]; omega) fun s2 => ⟨_, rfl, h⟩
/-! ### the two rows, plainly -/
abbrev MARKS : List Nat := [109, 97, 114, 107, 115]
abbrev PARTS : List Nat := [112, 97, 114, 116, 115]
def headM : List (List Nat) → Option Nat
  | [a, b] => if a = MARKS then numT b 1 else none
  | _ => none
def in28 (n : Nat) : Bool := decide (2 ≤ n) && decide (n ≤ 8)
def manyF (ws : List (List Nat)) : Option Nat := match headM ws with
  | some n => if in28 n = true then some n else none
  | none => none
def szOk (w : List Nat) : Bool := numOk w 5 && decide (w ≠ [48])
def sizesF : List (List Nat) → Option (List Int)
  | [] => none
  | a :: r => if a = PARTS ∧ 1 ≤ r.length ∧ r.length ≤ 8 ∧ r.all szOk = true then some (r.map fun w => (dgV w : Int)) else none
theorem sizesF_no {a : List Nat} {r : List (List Nat)} (h : ¬ (a = PARTS ∧ 1 ≤ r.length ∧ r.length ≤ 8 ∧ r.all szOk = true)) : sizesF (a :: r) = none := if_neg h
theorem sizesF_yes {a : List Nat} {r : List (List Nat)} (h : a = PARTS ∧ 1 ≤ r.length ∧ r.length ≤ 8 ∧ r.all szOk = true) : sizesF (a :: r) = some (r.map fun w => (dgV w : Int)) := if_pos h
theorem split_map {s : Nat} {b : Str} (e : b = tx [s]) (hs : s < 256) (l : List Nat) : (Txt.split (tx l) b).map PyData.str = (cut s [] l).map pT := by
  rw [split_tx e hs l, List.map_map]
  rfl
theorem at_nat {α : Type} {xs : List α} {i : Int} {z : α} (h0 : 0 ≤ i) (h : xs[i.toNat]? = some z) : L2.atI xs i = some z := atI_int h h0
theorem at_0 {α β : Type} (f : α → β) (a : α) (r : List α) : L2.atI ((a :: r).map f) 0 = some (f a) := at_nat (by decide) rfl
theorem s_many_of_row {n : Nat} {l : List Nat} (hl : okT n l) (hn : n ≤ 500000) (h : Q (.d (oInt (manyF (cut 32 [] l))))) : p_many_of_row K A [.d (pT l)] Q E := by
  have hlen := hl.len
  refine ⟨rfl, ?_⟩
  refine ⟨tx l, rfl, by rw [tx_len, sizeLine_eq]; omega, _, _, rfl, ?_⟩
  rw [split_map k_sp (by decide)]
  have okw := hl.cut (s := 32)
  generalize cut 32 [] l = ws at h okw
  refine ⟨[.list _], rfl, _, _, rfl, rfl, dne_int ⟨_, rfl, ?_⟩⟩
  have no : headM ws = none → Q (.d .none) := fun e => by unfold manyF at h; rw [e] at h; exact h
  by_cases h2 : ws.length = 2
  · have e2 : (!decide (((ws.map pT).length : Int) = 2)) = false := by rw [List.length_map, decide_eq_true (by omega)]; rfl
    rw [e2]
    match ws, h2 with
    | [a, b], _ =>
      have oka := okw a List.mem_cons_self
      have okb := okw b (List.mem_cons_of_mem _ List.mem_cons_self)
      refine ⟨_, _, rfl, rfl, _, rfl, _, _, rfl, rfl, dne_k k_marks oka.ok (ok_k (by decide)) ⟨_, rfl, ?_⟩⟩
      by_cases ha : a = MARKS
      · rw [decide_eq_true ha]
        have eM : headM [a, b] = numT b 1 := if_pos ha
        refine ⟨_, _, rfl, rfl, _, rfl, [.d (pT b), .d (.int 1)], rfl, s_is_number_text (m := 1) okb (by omega) ⟨rfl, _, _, rfl, rfl, ?_⟩⟩
        cases hb : numOk b 1 with
        | false => exact ⟨_, rfl, no (by rw [eM]; unfold numT; rw [hb]; rfl)⟩
        | true =>
          obtain ⟨i1, i2⟩ := int_tx (most := 1) (by decide) hb
          have eN : headM [a, b] = some (dgV b) := by rw [eM]; exact if_pos hb
          unfold manyF at h
          rw [eN] at h
          refine ⟨_, _, rfl, rfl, _, rfl, [pT b], rfl, _, i1, i2, _, _, rfl, rfl, _, rfl, ?_⟩
          by_cases g1 : 2 ≤ dgV b
          · rw [decide_eq_true (by omega : (2 : Int) ≤ (dgV b : Nat))]
            refine ⟨_, _, rfl, rfl, _, rfl, ?_⟩
            by_cases g2 : dgV b ≤ 8
            · rw [decide_eq_true (by omega : ((dgV b : Nat) : Int) ≤ 8)]
              refine ⟨_, _, rfl, rfl, _, rfl, [pT b], rfl, _, i1, i2, _, rfl, ?_⟩
              have e : in28 (dgV b) = true := by unfold in28; rw [decide_eq_true g1, decide_eq_true g2]; rfl
              simp only [e] at h
              exact h
            · rw [decide_eq_false (by omega : ¬ ((dgV b : Nat) : Int) ≤ 8)]
              have e : in28 (dgV b) = false := by unfold in28; rw [decide_eq_false g2, Bool.and_false]
              simp only [e] at h
              exact ⟨_, rfl, h⟩
          · rw [decide_eq_false (by omega : ¬ (2 : Int) ≤ (dgV b : Nat))]
            have e : in28 (dgV b) = false := by unfold in28; rw [decide_eq_false g1, Bool.false_and]
            simp only [e] at h
            exact ⟨_, rfl, _, rfl, h⟩
      · rw [decide_eq_false ha]
        exact ⟨_, rfl, no (if_neg ha)⟩
  · have e2 : (!decide (((ws.map pT).length : Int) = 2)) = true := by rw [List.length_map, decide_eq_false (by omega)]; rfl
    rw [e2]
    refine ⟨_, rfl, no ?_⟩
    match ws, h2 with
    | [], _ => rfl
    | [_], _ => rfl
    | [_, _], z => exact absurd rfl z
    | _ :: _ :: _ :: _, _ => rfl
theorem drop1 {α : Type} (a : α) (r : List α) : VL.cutD (a :: r) (some 1) none = r := by
  rw [cutD_from (by decide)]
  rfl
theorem bools_map {ws : List (List Nat)} {p : List Nat → Bool} : (ws.map p).all id = ws.all p := by
  rw [List.all_map]
  rfl
theorem s_sizes_of_row {n : Nat} {l : List Nat} (hl : okT n l) (hn : n ≤ 500000) (h : Q (.d (match sizesF (cut 32 [] l) with | some ns => .tuple (ns.map .int) | none => .none))) : p_sizes_of_row K A [.d (pT l)] Q E := by
  have hlen := hl.len
  refine ⟨rfl, ?_⟩
  refine ⟨tx l, rfl, by rw [tx_len, sizeLine_eq]; omega, _, _, rfl, ?_⟩
  rw [split_map k_sp (by decide)]
  have okw := hl.cut (s := 32)
  have nw := cut_ne 32 l []
  generalize cut 32 [] l = ws at h okw nw
  cases ws with
  | nil => exact absurd rfl nw
  | cons a r =>
    have oka := okw a List.mem_cons_self
    have okr : ∀ p ∈ r, okT n p := fun p hp => okw p (List.mem_cons_of_mem _ hp)
    refine ⟨_, _, rfl, rfl, _, at_0 pT a r, _, _, rfl, rfl, dne_k k_parts oka.ok (ok_k (by decide)) ⟨_, rfl, ?_⟩⟩
    have no : ¬ (a = PARTS ∧ 1 ≤ r.length ∧ r.length ≤ 8 ∧ r.all szOk = true) → Q (.d .none) := fun e => by rw [sizesF_no e] at h; exact h
    by_cases ha : a = PARTS
    · rw [decide_eq_true ha]
      refine ⟨[.list _], rfl, _, _, rfl, rfl, _, rfl, ?_⟩
      by_cases h1 : 1 ≤ r.length
      · rw [decide_eq_true (by rw [List.length_map, List.length_cons]; omega : (2 : Int) ≤ (((a :: r).map pT).length : Nat))]
        refine ⟨_, _, rfl, rfl, _, _, rfl, rfl, _, rfl, ?_⟩
        by_cases h8 : r.length ≤ 8
        · rw [decide_eq_true (by rw [List.length_map, List.length_cons]; omega : ((((a :: r).map pT).length : Nat) : Int) ≤ 8 + 1)]
          refine ⟨1, rfl, .list _, rfl, _, _, _, rfl, .inl rfl, ?_⟩
          rw [List.map_cons, drop1]
          refine lc_map (i := 2) (f := fun w => .bool (szOk w)) r [] (by rw [List.length_nil]; omega) (fun w hw R q => ?_) ?_
          · refine ⟨[.d (pT w), .d (.int 5)], rfl, s_is_number_text (m := 5) (okr w hw) (by omega) ⟨rfl, _, rfl, ?_⟩⟩
            unfold szOk at q
            cases hb : numOk w 5 with
            | false => rw [hb] at q; exact ⟨rfl, _, rfl, q⟩
            | true =>
              rw [hb] at q
              refine ⟨_, _, rfl, rfl, dne_k k_0 (okr w hw).ok (ok_k (by decide)) ⟨rfl, _, rfl, ?_⟩⟩
              rw [Bool.true_and, decide_not] at q
              exact q
          · refine ⟨[.list (r.map fun w => .bool (szOk w))], rfl, r.map szOk, by rw [List.map_map]; rfl, _, r.all szOk, rfl, congrArg some bools_map, ?_⟩
            cases hs : r.all szOk with
            | false => exact ⟨_, rfl, no fun z => by rw [hs] at z; exact absurd z.2.2.2 (by decide)⟩
            | true =>
              refine ⟨1, rfl, .list _, rfl, _, _, _, rfl, .inl rfl, ?_⟩
              rw [drop1]
              refine lc_map (i := 2) (f := fun w => .int (dgV w : Nat)) r [] (by rw [List.length_nil]; omega) (fun w hw R q => ?_) ?_
              · have hk : numOk w 5 = true := by
                  have := List.all_eq_true.mp hs w hw
                  unfold szOk at this
                  rw [Bool.and_eq_true] at this
                  exact this.1
                obtain ⟨i1, i2⟩ := int_tx (most := 5) (by decide) hk
                exact ⟨[pT w], rfl, _, i1, i2, rfl, _, rfl, q⟩
              · refine ⟨[.list _], rfl, _, rfl, ?_⟩
                rw [sizesF_yes ⟨ha, h1, h8, hs⟩] at h
                have h' : Q (.d (.tuple ((r.map fun w => (dgV w : Int)).map .int))) := h
                rw [List.map_map] at h'
                exact h'
        · rw [decide_eq_false (by rw [List.length_map, List.length_cons]; omega : ¬ ((((a :: r).map pT).length : Nat) : Int) ≤ 8 + 1)]
          exact ⟨_, rfl, no fun z => h8 z.2.2.1⟩
      · rw [decide_eq_false (by rw [List.length_map, List.length_cons]; omega : ¬ (2 : Int) ≤ (((a :: r).map pT).length : Nat))]
        exact ⟨_, rfl, _, rfl, no fun z => h1 z.2.1⟩
    · rw [decide_eq_false ha]
      exact ⟨_, rfl, no fun z => ha z.1⟩
end LW
set_option Elab.async false
set_option linter.all false
set_option maxRecDepth 100000
set_option maxHeartbeats 400000
/-! U4: the law's head. -/
namespace LW
open PySem PySem.Spec PyProof.Rows L2 VL
variable {K : PySem.W.Frag} {mg : Str → Option Value} {A : Ad} {Q : TV → Prop} {E : QX}
abbrev lh_0 (K : PySem.W.Frag) (A : Ad) : SW := wSet 1 (wCall (p_law_words K A) (wCons (wOp dIx (wVar 0) (wC (.int 0))) wNil))
abbrev lh_1 (K : PySem.W.Frag) (A : Ad) : SW := wSet 2 (wIf (wAnd (wTst (wOp dEq (wCB dLen (wCons (wVar 1) wNil)) (wC (.int 2)))) (wTst (wOp dEq (wOp dIx (wVar 1) (wC (.int 0))) (wC (.str "marks"))))) (wCall (p_law_number K A) (wCons (wOp dIx (wVar 1) (wC (.int 1))) (wCons (wC (.int 1)) wNil))) (wC .none))
abbrev lh_2 (K : PySem.W.Frag) (A : Ad) : SW := wIfS (wOr (wTst (wOp dIsN (wVar 2) (wC .none))) (wOr (wTst (wOp dLt (wVar 2) (wC (.int 2)))) (wTst (wOp dGt (wVar 2) (wC (.int 8)))))) (wSeq (wRet (wC (.int 0))) (wNext)) (wNext)
abbrev lh_3 (K : PySem.W.Frag) (A : Ad) : SW := wIfS (wTst (wOp dLt (wCB dLen (wCons (wVar 0) wNil)) (wC (.int 2)))) (wSeq (wRet (wC (.int 1))) (wNext)) (wNext)
abbrev lh_4 (K : PySem.W.Frag) (A : Ad) : SW := wSet 1 (wCall (p_law_words K A) (wCons (wOp dIx (wVar 0) (wC (.int 1))) wNil))
abbrev lh_5 (K : PySem.W.Frag) (A : Ad) : SW := wIfS (wOr (wTst (wOp dNe (wOp dIx (wVar 1) (wC (.int 0))) (wC (.str "parts")))) (wOr (wTst (wOp dLt (wCB dLen (wCons (wVar 1) wNil)) (wC (.int 2)))) (wTst (wOp dGt (wCB dLen (wCons (wVar 1) wNil)) (wC (.int 9)))))) (wSeq (wRet (wC (.int 1))) (wNext)) (wNext)
abbrev lh_6 (K : PySem.W.Frag) (A : Ad) : SW := wSet 3 (wLc (.nm 4) [4] (wIt (wSlS (wVar 1) (wOSome (wC (.int 1))) (wONone))) (wYes) (wCall (p_law_number K A) (wCons (wVar 4) (wCons (wC (.int 5)) wNil))))
abbrev lh_7 (K : PySem.W.Frag) (A : Ad) : SW := wIfS (wTst (wOp dNe (wLc (.nm 5) [5] (wIt (wVar 3)) (wOr (wTst (wOp dIsN (wVar 5) (wC .none))) (wTst (wOp dEq (wVar 5) (wC (.int 0))))) (wVar 5)) (wLst (wNil)))) (wSeq (wRet (wC (.int 1))) (wNext)) (wNext)
abbrev lh_8 (K : PySem.W.Frag) (A : Ad) : SW := wRet (wLst (wCons (wVar 2) (wCons (wVar 3) wNil)))
theorem lh1 {n : Nat} {x0 : PyData} {ws : List (List Nat)} {s2 s3 s4 s5 : Option SV} {P : Po} (ok : ∀ p ∈ ws, okT n p) (hn : n ≤ 500000) (h : P.nx [some (.d x0), some (.own (ws.map pT)), some (.d (oInt (headM ws))), s3, s4, s5]) :
    lh_1 K A [some (.d x0), some (.own (ws.map pT)), s2, s3, s4, s5] P E := by
  refine ⟨[.list _], rfl, _, _, rfl, rfl, deq_int ⟨_, rfl, ?_⟩⟩
  by_cases h2 : ws.length = 2
  · rw [decide_eq_true (by rw [List.length_map]; omega)]
    match ws, h2 with
    | [a, b], _ =>
      have oka := ok a List.mem_cons_self
      have okb := ok b (List.mem_cons_of_mem _ List.mem_cons_self)
      refine ⟨_, _, rfl, rfl, _, rfl, _, _, rfl, rfl, deq_k k_marks oka.ok (ok_k (by decide)) ⟨_, rfl, ?_⟩⟩
      by_cases ha : a = MARKS
      · rw [decide_eq_true ha]
        rw [show headM [a, b] = numT b 1 from if_pos ha] at h
        refine ⟨_, _, rfl, rfl, _, rfl, [.d (pT b), .d (.int 1)], rfl, s_law_number (m := 1) okb (by omega) (by decide) ⟨?_, _, _, rfl, h⟩⟩
        cases numT b 1 <;> rfl
      · rw [decide_eq_false ha]
        rw [show headM [a, b] = none from if_neg ha] at h
        exact ⟨_, _, rfl, h⟩
  · rw [decide_eq_false (by rw [List.length_map]; omega)]
    have e : headM ws = none := by
      match ws, h2 with
      | [], _ => rfl
      | [_], _ => rfl
      | [_, _], z => exact absurd rfl z
      | _ :: _ :: _ :: _, _ => rfl
    rw [e] at h
    exact ⟨_, _, rfl, h⟩
theorem lh2 {s0 s1 s3 s4 s5 : Option SV} {m : Option Nat} {P : Po} (no : (∀ k, m = some k → in28 k = false) → P.rt (.d (.int 0))) (yes : ∀ k, m = some k → in28 k = true → P.nx [s0, s1, some (.d (.int (k : Nat))), s3, s4, s5]) :
    lh_2 K A [s0, s1, some (.d (oInt m)), s3, s4, s5] P E := by
  cases m with
  | none => exact ⟨_, _, rfl, rfl, rfl, _, rfl, _, rfl, no fun k z => nomatch z⟩
  | some k =>
    refine ⟨_, _, rfl, rfl, rfl, _, rfl, _, _, rfl, rfl, _, rfl, ?_⟩
    have bad : in28 k = false → P.rt (.d (.int 0)) := fun e => no fun j z => by cases z; exact e
    by_cases g1 : (k : Int) < 2
    · rw [decide_eq_true g1]
      exact ⟨_, rfl, bad (by unfold in28; rw [decide_eq_false (by omega), Bool.false_and])⟩
    · rw [decide_eq_false g1]
      refine ⟨_, _, rfl, rfl, _, rfl, ?_⟩
      by_cases g2 : (8 : Int) < k
      · rw [decide_eq_true g2]
        exact ⟨_, rfl, bad (by unfold in28; rw [decide_eq_false (by omega : ¬ k ≤ 8), Bool.and_false])⟩
      · rw [decide_eq_false g2]
        exact yes k rfl (by unfold in28; rw [decide_eq_true (by omega), decide_eq_true (by omega)]; rfl)
def szAll (a : List Nat) (r : List (List Nat)) : Prop := a = PARTS ∧ 1 ≤ r.length ∧ r.length ≤ 8
theorem lh5 {n : Nat} {s0 s2 s3 s4 s5 : Option SV} {a : List Nat} {r : List (List Nat)} {P : Po} (oka : okT n a) (no : ¬ (a = PARTS ∧ 1 ≤ r.length ∧ r.length ≤ 8) → P.rt (.d (.int 1))) (yes : a = PARTS ∧ 1 ≤ r.length ∧ r.length ≤ 8 → P.nx [s0, some (.own ((a :: r).map pT)), s2, s3, s4, s5]) :
    lh_5 K A [s0, some (.own ((a :: r).map pT)), s2, s3, s4, s5] P E := by
  refine ⟨_, _, rfl, rfl, _, at_0 pT a r, _, _, rfl, rfl, dne_k k_parts oka.ok (ok_k (by decide)) ⟨_, rfl, ?_⟩⟩
  by_cases ha : a = PARTS
  · rw [decide_eq_true ha]
    refine ⟨[.list _], rfl, _, _, rfl, rfl, _, rfl, ?_⟩
    by_cases h1 : 1 ≤ r.length
    · rw [decide_eq_false (by rw [List.length_map, List.length_cons]; omega : ¬ (((a :: r).map pT).length : Int) < 2)]
      refine ⟨[.list _], rfl, _, _, rfl, rfl, _, rfl, ?_⟩
      by_cases h8 : r.length ≤ 8
      · rw [decide_eq_false (by rw [List.length_map, List.length_cons]; omega : ¬ (9 : Int) < (((a :: r).map pT).length : Nat))]
        exact yes ⟨ha, h1, h8⟩
      · rw [decide_eq_true (by rw [List.length_map, List.length_cons]; omega : (9 : Int) < (((a :: r).map pT).length : Nat))]
        exact ⟨_, rfl, no fun z => h8 z.2.2⟩
    · rw [decide_eq_true (by rw [List.length_map, List.length_cons]; omega : (((a :: r).map pT).length : Int) < 2)]
      exact ⟨_, rfl, no fun z => h1 z.2.1⟩
  · rw [decide_eq_false ha]
    exact ⟨_, rfl, no fun z => ha z.1⟩
def sz5 (w : List Nat) : PyData := oInt (numT w 5)
theorem lh6 {n : Nat} {s0 s2 s3 s4 s5 : Option SV} {a : List Nat} {r : List (List Nat)} {P : Po} (hn : n ≤ 500000) (okr : ∀ p ∈ r, okT n p) (hl : r.length ≤ 8) (h : P.nx [s0, some (.own ((a :: r).map pT)), s2, some (.own (r.map sz5)), s4, s5]) :
    lh_6 K A [s0, some (.own ((a :: r).map pT)), s2, s3, s4, s5] P E := by
  refine ⟨1, rfl, .list _, rfl, _, _, _, rfl, .inl rfl, ?_⟩
  rw [List.map_cons, drop1]
  refine lc_map (i := 4) (f := sz5) r [] (by rw [List.length_nil]; omega) (fun w hw R q => ?_) ⟨_, _, rfl, h⟩
  refine ⟨[.d (pT w), .d (.int 5)], rfl, s_law_number (m := 5) (okr w hw) (by omega) (by decide) ⟨?_, rfl, sz5 w, rfl, q⟩⟩
  cases numT w 5 <;> rfl
theorem sz5_ok {w : List Nat} (h : szOk w = true) : sz5 w = .int (dgV w : Nat) ∧ dgV w ≠ 0 := by
  unfold szOk at h
  rw [Bool.and_eq_true, decide_eq_true_eq] at h
  refine ⟨?_, fun z => h.2 ((dgV_zero h.1).mp z)⟩
  unfold sz5 numT
  rw [if_pos h.1]
  rfl
theorem sz5_dt (w : List Nat) : Dt 0 (sz5 w) := by
  unfold sz5
  cases numT w 5 with
  | none => exact Dt.none
  | some n => exact Dt.int _
theorem fil_emp {α : Type} {p : α → Bool} {f : α → PyData} (l : List α) : ((l.filter fun c => !p c).map f).isEmpty = l.all p := by
  cases ha : l.all p with
  | true =>
    have : (l.filter fun c => !p c) = [] := List.filter_eq_nil_iff.mpr fun c hc => by
      rw [List.all_eq_true.mp ha c hc]
      exact Bool.false_ne_true
    rw [this]
    rfl
  | false =>
    cases hf : l.filter fun c => !p c with
    | cons _ _ => rfl
    | nil =>
      have : l.all p = true := List.all_eq_true.mpr fun c hc => by
        have := List.filter_eq_nil_iff.mp hf c hc
        cases hp : p c with
        | true => rfl
        | false => exact absurd (by rw [hp]; rfl) this
      rw [this] at ha
      cases ha
theorem lh7 {s0 s1 s2 s4 s5 : Option SV} {r : List (List Nat)} {P : Po} (hl : r.length ≤ 8) (no : r.all szOk = false → P.rt (.d (.int 1))) (yes : r.all szOk = true → P.nx [s0, s1, s2, some (.d (.list (r.map sz5))), s4, s5]) :
    lh_7 K A [s0, s1, s2, some (.own (r.map sz5)), s4, s5] P E := by
  refine ⟨_, _, _, rfl, .inl rfl, ?_⟩
  refine lc_fil (i := 5) (p := fun w => !szOk w) (item := sz5) (by show 5 < 6; decide) r [] (by rw [List.length_nil]; omega) (fun w hw R q => ?_) ?_
  · cases hk : szOk w with
    | true =>
      obtain ⟨e1, e2⟩ := sz5_ok hk
      rw [hk] at q
      rw [e1]
      refine ⟨_, _, rfl, rfl, rfl, _, rfl, _, _, rfl, rfl, deq_int ⟨_, rfl, rfl, ?_⟩⟩
      rw [decide_eq_false (by omega)]
      exact q
    | false =>
      rw [hk] at q
      unfold szOk at hk
      cases hn : numOk w 5 with
      | false =>
        have e : sz5 w = .none := by unfold sz5 numT; rw [hn]; rfl
        rw [e]
        exact ⟨_, _, rfl, rfl, rfl, _, rfl, rfl, q⟩
      | true =>
        rw [hn, Bool.true_and, decide_eq_false_iff_not, Classical.not_not] at hk
        subst hk
        have e : sz5 [48] = .int 0 := rfl
        rw [e]
        refine ⟨_, _, rfl, rfl, rfl, _, rfl, _, _, rfl, rfl, deq_int ⟨_, rfl, rfl, ?_⟩⟩
        exact q
  · refine ⟨_, _, rfl, by rw [sizeLine_eq]; decide, _, _, rfl, rfl, ?_⟩
    refine ⟨(Dt.lst (k := 0) fun x hx => ?_).sh (by decide), rfl, ?_⟩
    · obtain ⟨w, _, rfl⟩ := List.mem_map.mp hx
      exact sz5_dt w
    · rw [eqv_nil, List.nil_append, fil_emp]
      refine ⟨_, rfl, ?_⟩
      cases ha : r.all szOk with
      | true => exact yes ha
      | false => exact ⟨_, rfl, no ha⟩
theorem sz5_map {r : List (List Nat)} (h : r.all szOk = true) : r.map sz5 = (r.map fun w => (dgV w : Int)).map .int := by
  rw [List.map_map]
  exact List.map_congr_left fun w hw => (sz5_ok (List.all_eq_true.mp h w hw)).1
/-- what the first rows tell, or the number of the first wrong one -/
def headF : List (List Nat) → Except Nat (Nat × List Int)
  | [] => .error 0
  | r0 :: rs => match manyF (cut 32 [] r0) with
    | none => .error 0
    | some m => match rs with
      | [] => .error 1
      | r1 :: _ => match sizesF (cut 32 [] r1) with
        | none => .error 1
        | some ns => .ok (m, ns)
theorem s_law_head {n : Nat} {rs : List (List Nat)} (hr : rs ≠ []) (ok : ∀ p ∈ rs, okT n p) (hn : n ≤ 500000) (hE : ∀ k, headF rs = .error k → Q (.d (.int (k : Nat)))) (hO : ∀ m ns, headF rs = .ok (m, ns) → Q (.fresh [.int (m : Nat), .list (ns.map .int)])) :
    p_law_head K A [.d (.list (rs.map pT))] Q E := by
  cases rs with
  | nil => exact absurd rfl hr
  | cons r0 rs =>
    have ok0 := ok r0 List.mem_cons_self
    refine ⟨rfl, _, _, rfl, rfl, _, at_0 pT r0 rs, [.d (pT r0)], rfl, s_law_words ok0 hn ⟨nolists_txs _, _, _, rfl, ?_⟩⟩
    refine seq_i (lh1 (K := K) (A := A) (n := n) (ws := cut 32 [] r0) ok0.cut hn ?_)
    refine seq_i (lh2 (K := K) (A := A) (m := headM (cut 32 [] r0)) (fun nm => ?_) fun k em ik => ?_)
    · refine hE 0 ?_
      have : manyF (cut 32 [] r0) = none := by
        unfold manyF
        cases e : headM (cut 32 [] r0) with
        | none => rfl
        | some k => exact if_neg (by rw [nm k e]; exact Bool.false_ne_true)
      simp only [headF, this]
    · have em : manyF (cut 32 [] r0) = some k := by
        unfold manyF
        rw [em]
        exact if_pos ik
      refine ⟨[.list _], rfl, _, _, rfl, rfl, _, rfl, ?_⟩
      cases rs with
      | nil =>
        refine ⟨_, rfl, hE 1 ?_⟩
        simp only [headF, em]
      | cons r1 rs =>
        have ok1 := ok r1 (List.mem_cons_of_mem _ List.mem_cons_self)
        rw [decide_eq_false (by rw [List.length_map, List.length_cons, List.length_cons]; omega)]
        have a1 : L2.atI ((r0 :: r1 :: rs).map pT) 1 = some (pT r1) := at_nat (by decide) rfl
        refine ⟨_, _, rfl, rfl, _, a1, [.d (pT r1)], rfl, s_law_words ok1 hn ⟨nolists_txs _, _, _, rfl, ?_⟩⟩
        have hz : headF (r0 :: r1 :: rs) = match sizesF (cut 32 [] r1) with
          | none => .error 1
          | some ns => .ok (k, ns) := by
          simp only [headF, em]
        have okw := ok1.cut (s := 32)
        have nw := cut_ne 32 r1 []
        generalize cut 32 [] r1 = ws at hz okw nw
        cases ws with
        | nil => exact absurd rfl nw
        | cons a r =>
          have bad : ¬ (a = PARTS ∧ 1 ≤ r.length ∧ r.length ≤ 8 ∧ r.all szOk = true) → Q (.d (.int 1)) := fun z => hE 1 (by rw [hz, sizesF_no z])
          refine seq_i (lh5 (K := K) (A := A) (n := n) (okw a List.mem_cons_self) (fun z => bad fun y => z ⟨y.1, y.2.1, y.2.2.1⟩) fun z => ?_)
          refine seq_i (lh6 (K := K) (A := A) (n := n) hn (fun p hp => okw p (List.mem_cons_of_mem _ hp)) z.2.2 ?_)
          refine seq_i (lh7 (K := K) (A := A) z.2.2 (fun y => bad fun x => by rw [x.2.2.2] at y; cases y) fun y => ?_)
          refine ⟨_, _, rfl, sz (n := 2) rfl (by decide), _, rfl, ?_⟩
          have := hO k _ (by rw [hz, sizesF_yes ⟨z.1, z.2.1, z.2.2, y⟩])
          rw [← sz5_map y] at this
          exact this
end LW
set_option Elab.async false
set_option linter.all false
set_option maxRecDepth 100000
set_option maxHeartbeats 400000
/-! U5: the rows of marks: looked through by the program and by the law. -/
namespace LW
open PySem PySem.Spec PyProof.Rows L2 VL
variable {K : PySem.W.Frag} {mg : Str → Option Value} {A : Ad} {Q : TV → Prop} {E : QX}
def mOk (m c : Nat) : Bool := decide (48 ≤ c) && decide (c < 48 + m)
def rowOk (m W : Nat) (l : List Nat) : Bool := decide (l.length = W) && l.all (mOk m)
def rowV (l : List Nat) : List Int := l.map fun c => ((dgV [c] : Nat) : Int)
/-- rows one after another -/
def scanT (m W : Nat) : List Int → Nat → List (List Nat) → Except Int (List Int)
  | acc, _, [] => .ok acc
  | acc, k, r :: rs => if rowOk m W r = true then scanT m W (acc ++ rowV r) (k + 1) rs else .error ((2 + k : Nat) : Int)
/-- so many rows, where there are so many -/
def scanL (m W : Nat) : List Int → Nat → Nat → List (List Nat) → Except Int (List Int)
  | acc, 0, _, _ => .ok acc
  | _, _ + 1, k, [] => .error ((2 + k : Nat) : Int)
  | acc, n + 1, k, r :: rs => if rowOk m W r = true then scanL m W (acc ++ rowV r) n (k + 1) rs else .error ((2 + k : Nat) : Int)
theorem scan_eq (m W : Nat) : ∀ (n k : Nat) (acc : List Int) (rs : List (List Nat)),
    (∀ i, scanT m W acc k (rs.take n) = .error i → scanL m W acc n k rs = .error i) ∧
    (∀ ms, scanT m W acc k (rs.take n) = .ok ms → if n ≤ rs.length then scanL m W acc n k rs = .ok ms else scanL m W acc n k rs = .error ((2 + k + rs.length : Nat) : Int))
  | 0, k, acc, rs => by
    rw [List.take_zero]
    exact ⟨fun i h => (by cases h), fun ms h => (by cases h; rw [if_pos (Nat.zero_le _)]; rfl)⟩
  | n + 1, k, acc, [] => ⟨fun i h => (by cases h), fun ms h => (by rw [if_neg (by rw [List.length_nil]; omega)]; rfl)⟩
  | n + 1, k, acc, r :: rs => by
    rw [List.take_succ_cons]
    unfold scanT scanL
    by_cases h : rowOk m W r = true
    · rw [if_pos h, if_pos h]
      obtain ⟨h1, h2⟩ := scan_eq m W n (k + 1) (acc ++ rowV r) rs
      refine ⟨h1, fun ms e => ?_⟩
      have := h2 ms e
      by_cases hl : n ≤ rs.length
      · rw [if_pos hl] at this
        rw [if_pos (by rw [List.length_cons]; omega)]
        exact this
      · rw [if_neg hl] at this
        rw [if_neg (by rw [List.length_cons]; omega), this, List.length_cons]
        congr 2
        omega
    · rw [if_neg h, if_neg h]
      exact ⟨fun i e => e, fun ms e => by cases e⟩
inductive RD where
  | text (i : Int)
  | size
  | good (m : Nat) (ns ms : List Int)
/-- the rows behind the head -/
def tailF (m : Nat) (ns : List Int) (rs : List (List Nat)) : RD :=
  if 20000 < prodF ns 1 then .size else match scanL m (ns.getLastD 1).toNat [] (prodF ns.dropLast 1).toNat 0 rs with
    | .error i => .text i
    | .ok ms => if (prodF ns.dropLast 1).toNat < rs.length then .text ((2 + (prodF ns.dropLast 1).toNat : Nat) : Int) else .good m ns ms
def rowsF (rows : List (List Nat)) : RD := match headF rows with
  | .error k => .text ((k : Nat) : Int)
  | .ok (m, ns) => tailF m ns (rows.drop 2)
def readF (l : List Nat) : RD := rowsF (cut 10 [] l)
theorem num1 (c : Nat) : numOk [c] 1 = isDg c := by
  unfold numOk
  show (((true && true) && (isDg c && true)) && (true || _)) = isDg c
  rw [Bool.true_or, Bool.and_true, Bool.and_true, Bool.true_and, Bool.and_true]
theorem dg1 (c : Nat) : dgV [c] = c - 48 := by
  show 0 * 10 + (c - 48) = _
  omega
theorem mOk_dg {m c : Nat} (hm : m ≤ 8) (h : mOk m c = true) : isDg c = true := by
  unfold mOk at h
  rw [Bool.and_eq_true, decide_eq_true_eq, decide_eq_true_eq] at h
  unfold isDg
  rw [decide_eq_true h.1, decide_eq_true (by omega)]
  rfl
theorem at_neg {α β : Type} (f : α → β) (xs : List α) (z : α) : L2.atI ((xs ++ [z]).map f) (-1) = some (f z) := by
  unfold L2.atI ixN
  rw [List.map_append, List.length_append, if_neg (by decide), if_pos (by show -((_ + 1 : Nat) : Int) ≤ -1; omega)]
  have e : (-1 + (((xs.map f).length + ([z].map f).length : Nat) : Int)).toNat = (xs.map f).length := by
    show (-1 + (((xs.map f).length + 1 : Nat) : Int)).toNat = _
    omega
  rw [e]
  show (xs.map f ++ [f z])[(xs.map f).length]? = _
  rw [List.getElem?_append_right (Nat.le_refl _), Nat.sub_self]
  rfl
theorem rowV_len (l : List Nat) : (rowV l).length = l.length := by unfold rowV; rw [List.length_map]
abbrev rd_0 (K : PySem.W.Frag) (A : Ad) : SW := wIfS (wNot (wTru (wCall (p_is_text K A) (wCons (wVar 0) wNil)))) (wSeq (wRaise A.a_InvalidText "at" (wNeg (wC (.int 1)))) (wNext)) (wNext)
abbrev rd_1 (K : PySem.W.Frag) (A : Ad) : SW := wSet 1 (wSplit "\n" (wVar 0))
abbrev rd_2 (K : PySem.W.Frag) (A : Ad) : SW := wSet 2 (wCall (p_many_of_row K A) (wCons (wOp dIx (wVar 1) (wC (.int 0))) wNil))
abbrev rd_3 (K : PySem.W.Frag) (A : Ad) : SW := wIfS (wTst (wOp dIsN (wVar 2) (wC .none))) (wSeq (wRaise A.a_InvalidText "at" (wC (.int 0))) (wNext)) (wNext)
abbrev rd_4 (K : PySem.W.Frag) (A : Ad) : SW := wSet 3 (wIf (wTst (wOp dGt (wCB dLen (wCons (wVar 1) wNil)) (wC (.int 1)))) (wCall (p_sizes_of_row K A) (wCons (wOp dIx (wVar 1) (wC (.int 1))) wNil)) (wC .none))
abbrev rd_5 (K : PySem.W.Frag) (A : Ad) : SW := wIfS (wTst (wOp dIsN (wVar 3) (wC .none))) (wSeq (wRaise A.a_InvalidText "at" (wC (.int 1))) (wNext)) (wNext)
abbrev rd_6 (K : PySem.W.Frag) (A : Ad) : SW := wSet 4 (wCall (p_settings_count K A) (wCons (wVar 3) wNil))
abbrev rd_7 (K : PySem.W.Frag) (A : Ad) : SW := wIfS (wTst (wOp dGt (wVar 4) (wC (.int 20000)))) (wSeq (wRaise A.a_InvalidSize "word" (wC (.str "settings"))) (wNext)) (wNext)
abbrev rd_8 (K : PySem.W.Frag) (A : Ad) : SW := wPar 5 6 (wLst (wNil)) (wOp dAdd (wC (.int 2)) (wOp dFdv (wVar 4) (wOp dIx (wVar 3) (wNeg (wC (.int 1))))))
abbrev rd_9_0 (K : PySem.W.Frag) (A : Ad) : SW := wIfS (wOr (wTst (wOp dNe (wCB dLen (wCons (wVar 8) wNil)) (wOp dIx (wVar 3) (wNeg (wC (.int 1)))))) (wNot (wTru (wCB (dBools fun bs => bs.all id) (wCons (wLc (.nm 9) [9] (wItS (wVar 8)) (wYes) (wAndV (wCall (p_is_number_text K A) (wCons (wVar 9) (wCons (wC (.int 1)) wNil))) (wOp dLt (wCB dIntS (wCons (wVar 9) wNil)) (wVar 2)))) wNil))))) (wSeq (wRaise A.a_InvalidText "at" (wOp dAdd (wC (.int 2)) (wVar 7))) (wNext)) (wNext)
abbrev rd_9_1 (K : PySem.W.Frag) (A : Ad) : SW := wDrop (wExt (wVar 5) (wCons (wLc (.nm 9) [9] (wItS (wVar 8)) (wYes) (wCB dIntS (wCons (wVar 9) wNil))) wNil))
abbrev rd_9_b (K : PySem.W.Frag) (A : Ad) : SW := (wSeq (wIfS (wOr (wTst (wOp dNe (wCB dLen (wCons (wVar 8) wNil)) (wOp dIx (wVar 3) (wNeg (wC (.int 1)))))) (wNot (wTru (wCB (dBools fun bs => bs.all id) (wCons (wLc (.nm 9) [9] (wItS (wVar 8)) (wYes) (wAndV (wCall (p_is_number_text K A) (wCons (wVar 9) (wCons (wC (.int 1)) wNil))) (wOp dLt (wCB dIntS (wCons (wVar 9) wNil)) (wVar 2)))) wNil))))) (wSeq (wRaise A.a_InvalidText "at" (wOp dAdd (wC (.int 2)) (wVar 7))) (wNext)) (wNext)) (wSeq (wDrop (wExt (wVar 5) (wCons (wLc (.nm 9) [9] (wItS (wVar 8)) (wYes) (wCB dIntS (wCons (wVar 9) wNil))) wNil))) (wNext)))
abbrev rd_9 (K : PySem.W.Frag) (A : Ad) : SW := wFor (.tp [.nm 7, .nm 8]) (wEnu (wSlS (wVar 1) (wOSome (wC (.int 2))) (wOSome (wVar 6)))) (wSeq (wIfS (wOr (wTst (wOp dNe (wCB dLen (wCons (wVar 8) wNil)) (wOp dIx (wVar 3) (wNeg (wC (.int 1)))))) (wNot (wTru (wCB (dBools fun bs => bs.all id) (wCons (wLc (.nm 9) [9] (wItS (wVar 8)) (wYes) (wAndV (wCall (p_is_number_text K A) (wCons (wVar 9) (wCons (wC (.int 1)) wNil))) (wOp dLt (wCB dIntS (wCons (wVar 9) wNil)) (wVar 2)))) wNil))))) (wSeq (wRaise A.a_InvalidText "at" (wOp dAdd (wC (.int 2)) (wVar 7))) (wNext)) (wNext)) (wSeq (wDrop (wExt (wVar 5) (wCons (wLc (.nm 9) [9] (wItS (wVar 8)) (wYes) (wCB dIntS (wCons (wVar 9) wNil))) wNil))) (wNext)))
abbrev rd_10 (K : PySem.W.Frag) (A : Ad) : SW := wIfS (wTst (wOp dNe (wCB dLen (wCons (wVar 1) wNil)) (wVar 6))) (wSeq (wRaise A.a_InvalidText "at" (wCB dMin (wCons (wCB dLen (wCons (wVar 1) wNil)) (wCons (wVar 6) wNil)))) (wNext)) (wNext)
abbrev rd_11 (K : PySem.W.Frag) (A : Ad) : SW := wRet (wMake A.a_Board (i_Board K A) (wCons (wVar 2) (wCons (wVar 3) (wCons (wVar 5) wNil))))
abbrev du_0 (K : PySem.W.Frag) (A : Ad) : SW := wSet 1 (wCall (p_law_rows K A) (wCons (wVar 0) wNil))
abbrev du_1 (K : PySem.W.Frag) (A : Ad) : SW := wSet 2 (wCallG (p_law_head K A) (wCons (wVar 1) wNil))
abbrev du_2 (K : PySem.W.Frag) (A : Ad) : SW := wIfS (wTru (wIsC K (.type "int") (wVar 2))) (wSeq (wRet (wTup (wCons (wC (.str "text")) (wCons (wVar 2) wNil)))) (wNext)) (wNext)
abbrev du_3 (K : PySem.W.Frag) (A : Ad) : SW := wUnp (.tp [.nm 3, .nm 4]) (wTup (wCons (wOp dIx (wVar 2) (wC (.int 0))) (wCons (wOp dIx (wVar 2) (wC (.int 1))) wNil)))
abbrev du_4 (K : PySem.W.Frag) (A : Ad) : SW := wIfS (wTst (wOp dGt (wCall (p_law_count K A) (wCons (wVar 4) wNil)) (wC (.int 20000)))) (wSeq (wRet (wTup (wCons (wC (.str "size")) (wCons (wC (.str "settings")) wNil)))) (wNext)) (wNext)
abbrev du_5 (K : PySem.W.Frag) (A : Ad) : SW := wPar 5 6 (wOp dIx (wVar 4) (wOp dSub (wCB dLen (wCons (wVar 4) wNil)) (wC (.int 1)))) (wLst (wNil))
abbrev du_6_0 (K : PySem.W.Frag) (A : Ad) : SW := wIfS (wOr (wTst (wOp dGe (wVar 7) (wCB dLen (wCons (wVar 1) wNil)))) (wTst (wOp dNe (wCB dLen (wCons (wOp dIx (wVar 1) (wVar 7)) wNil)) (wVar 5)))) (wSeq (wRet (wTup (wCons (wC (.str "text")) (wCons (wVar 7) wNil)))) (wNext)) (wNext)
abbrev du_6_1 (K : PySem.W.Frag) (A : Ad) : SW := wIfS (wTst (wOp dNe (wLc (.nm 8) [8] (wItS (wOp dIx (wVar 1) (wVar 7))) (wTst (wOp dNotInS (wVar 8) (wSlS (wC (.str "01234567")) (wONone) (wOSome (wVar 3))))) (wVar 8)) (wLst (wNil)))) (wSeq (wRet (wTup (wCons (wC (.str "text")) (wCons (wVar 7) wNil)))) (wNext)) (wNext)
abbrev du_6_2 (K : PySem.W.Frag) (A : Ad) : SW := wDrop (wExt (wVar 6) (wCons (wLc (.nm 8) [8] (wItS (wOp dIx (wVar 1) (wVar 7))) (wYes) (wCB dIntS (wCons (wVar 8) wNil))) wNil))
abbrev du_6_b (K : PySem.W.Frag) (A : Ad) : SW := (wSeq (wIfS (wOr (wTst (wOp dGe (wVar 7) (wCB dLen (wCons (wVar 1) wNil)))) (wTst (wOp dNe (wCB dLen (wCons (wOp dIx (wVar 1) (wVar 7)) wNil)) (wVar 5)))) (wSeq (wRet (wTup (wCons (wC (.str "text")) (wCons (wVar 7) wNil)))) (wNext)) (wNext)) (wSeq (wIfS (wTst (wOp dNe (wLc (.nm 8) [8] (wItS (wOp dIx (wVar 1) (wVar 7))) (wTst (wOp dNotInS (wVar 8) (wSlS (wC (.str "01234567")) (wONone) (wOSome (wVar 3))))) (wVar 8)) (wLst (wNil)))) (wSeq (wRet (wTup (wCons (wC (.str "text")) (wCons (wVar 7) wNil)))) (wNext)) (wNext)) (wSeq (wDrop (wExt (wVar 6) (wCons (wLc (.nm 8) [8] (wItS (wOp dIx (wVar 1) (wVar 7))) (wYes) (wCB dIntS (wCons (wVar 8) wNil))) wNil))) (wNext))))
abbrev du_6 (K : PySem.W.Frag) (A : Ad) : SW := wFor (.nm 7) (wRg2 (wCons (wC (.int 2)) (wCons (wOp dAdd (wC (.int 2)) (wCall (p_law_count K A) (wCons (wSlS (wVar 4) (wONone) (wOSome (wOp dSub (wCB dLen (wCons (wVar 4) wNil)) (wC (.int 1))))) wNil))) wNil))) (wSeq (wIfS (wOr (wTst (wOp dGe (wVar 7) (wCB dLen (wCons (wVar 1) wNil)))) (wTst (wOp dNe (wCB dLen (wCons (wOp dIx (wVar 1) (wVar 7)) wNil)) (wVar 5)))) (wSeq (wRet (wTup (wCons (wC (.str "text")) (wCons (wVar 7) wNil)))) (wNext)) (wNext)) (wSeq (wIfS (wTst (wOp dNe (wLc (.nm 8) [8] (wItS (wOp dIx (wVar 1) (wVar 7))) (wTst (wOp dNotInS (wVar 8) (wSlS (wC (.str "01234567")) (wONone) (wOSome (wVar 3))))) (wVar 8)) (wLst (wNil)))) (wSeq (wRet (wTup (wCons (wC (.str "text")) (wCons (wVar 7) wNil)))) (wNext)) (wNext)) (wSeq (wDrop (wExt (wVar 6) (wCons (wLc (.nm 8) [8] (wItS (wOp dIx (wVar 1) (wVar 7))) (wYes) (wCB dIntS (wCons (wVar 8) wNil))) wNil))) (wNext))))
abbrev du_7 (K : PySem.W.Frag) (A : Ad) : SW := wIfS (wTst (wOp dGt (wCB dLen (wCons (wVar 1) wNil)) (wOp dAdd (wC (.int 2)) (wCall (p_law_count K A) (wCons (wSlS (wVar 4) (wONone) (wOSome (wOp dSub (wCB dLen (wCons (wVar 4) wNil)) (wC (.int 1))))) wNil))))) (wSeq (wRet (wTup (wCons (wC (.str "text")) (wCons (wOp dAdd (wC (.int 2)) (wCall (p_law_count K A) (wCons (wSlS (wVar 4) (wONone) (wOSome (wOp dSub (wCB dLen (wCons (wVar 4) wNil)) (wC (.int 1))))) wNil))) wNil)))) (wNext)) (wNext)
abbrev du_8 (K : PySem.W.Frag) (A : Ad) : SW := wRet (wTup (wCons (wVar 3) (wCons (wCB dTuple (wCons (wVar 4) wNil)) (wCons (wCB dTuple (wCons (wVar 6) wNil)) wNil))))
def rdS (s0 s1 : Option SV) (m : Nat) (ns : List Int) (s4 : Option SV) (acc : List Int) (s6 s7 s8 s9 : Option SV) : SE := [s0, s1, some (.d (.int (m : Nat))), some (.d (.tuple (ns.map .int))), s4, some (.own (acc.map .int)), s6, s7, s8, s9]
theorem rd_loop {n m W : Nat} {is : List Int} {s0 s1 s4 s6 : Option SV} {P : Po} (hm : m ≤ 8) (hn : n ≤ 500000) : ∀ (rs : List (List Nat)) (k : Nat) (acc : List Int) (s7 s8 s9 : Option SV), (∀ p ∈ rs, okT n p) → acc.length + rs.length * W ≤ 1000000 →
    (∀ i, scanT m W acc k rs = .error i → E ⟨.ref A.a_InvalidText, [("at", .int i)]⟩) → (∀ ms s7 s8 s9, scanT m W acc k rs = .ok ms → P.nx (rdS s0 s1 m (is ++ [(W : Int)]) s4 ms s6 s7 s8 s9)) →
    wLoop (.tp [.nm 7, .nm 8]) (rd_9_b K A) (enumD k (rs.map pT)) (rdS s0 s1 m (is ++ [(W : Int)]) s4 acc s6 s7 s8 s9) P E
  | [], k, acc, s7, s8, s9, _, _, _, h => h acc s7 s8 s9 rfl
  | r :: rs, k, acc, s7, s8, s9, ok, hl, hE, h => by
    have okr := ok r List.mem_cons_self
    have hlen := okr.len
    rw [List.length_cons, Nat.succ_mul] at hl
    have bad : rowOk m W r = false → E ⟨.ref A.a_InvalidText, [("at", .int (2 + (k : Nat)))]⟩ := fun e => by
      have := hE (2 + (k : Nat)) (by unfold scanT; rw [if_neg (by rw [e]; exact Bool.false_ne_true)]; congr 1)
      exact this
    refine ⟨_, rfl, ?_⟩
    refine ⟨[pT r], rfl, tx_sz okr (by omega), _, rfl, _, _, rfl, rfl, _, at_neg PyData.int is (W : Int), _, _, rfl, rfl, dne_int ⟨_, rfl, ?_⟩⟩
    by_cases hw : r.length = W
    · have e : (!decide (((tx r).length : Int) = (W : Int))) = false := by rw [tx_len, decide_eq_true (by omega)]; rfl
      rw [e]
      refine ⟨tx r, rfl, ?_⟩
      refine lc_map (i := 9) (f := fun c => .bool (mOk m c)) (item := fun c => .str ⟨#[c]⟩) r [] (by rw [List.length_nil]; omega) (fun c hc R q => ?_) ?_
      · refine ⟨[.d (pT [c]), .d (.int 1)], rfl, s_is_number_text (m := 1) (l := [c]) ⟨fun d hd => by rw [List.mem_singleton.mp hd]; exact okr.ok c hc, by rw [List.length_singleton]; exact Nat.le_trans (List.length_pos_of_mem hc) hlen⟩ (by omega) ⟨rfl, _, rfl, ?_⟩⟩
        rw [num1]
        cases hd : isDg c with
        | false =>
          have : mOk m c = false := by
            cases z : mOk m c with
            | false => rfl
            | true => rw [mOk_dg hm z] at hd; cases hd
          rw [this] at q
          exact ⟨rfl, _, rfl, q⟩
        | true =>
          obtain ⟨i1, i2⟩ := int_tx (l := [c]) (most := 1) (by decide) (by rw [num1]; exact hd)
          refine ⟨[pT [c]], rfl, _, i1, i2, _, _, rfl, rfl, rfl, _, rfl, ?_⟩
          have e : decide (((dgV [c] : Nat) : Int) < (m : Nat)) = mOk m c := by
            unfold isDg at hd
            rw [Bool.and_eq_true, decide_eq_true_eq, decide_eq_true_eq] at hd
            unfold mOk
            rw [dg1, decide_eq_true hd.1, Bool.true_and]
            exact decide_eq_decide.mpr (by omega)
          rw [e]
          exact q
      · refine ⟨[.list (r.map fun c => .bool (mOk m c))], rfl, r.map (mOk m), by rw [List.map_map]; rfl, _, r.all (mOk m), rfl, congrArg some (all_map r (mOk m)), ?_⟩
        cases ha : r.all (mOk m) with
        | false => exact ⟨_, _, rfl, rfl, _, rfl, rfl, bad (by unfold rowOk; rw [ha, Bool.and_false])⟩
        | true =>
          have okk : rowOk m W r = true := by unfold rowOk; rw [ha, decide_eq_true hw]; rfl
          have hd : ∀ c ∈ r, numOk [c] 1 = true := fun c hc => by rw [num1]; exact mOk_dg hm (List.all_eq_true.mp ha c hc)
          refine ⟨5, _, rfl, rfl, tx r, rfl, ?_⟩
          refine lc_map (i := 9) (f := fun c => .int ((dgV [c] : Nat) : Int)) (item := fun c => .str ⟨#[c]⟩) r [] (by rw [List.length_nil]; omega) (fun c hc R q => ?_) ?_
          · obtain ⟨i1, i2⟩ := int_tx (l := [c]) (most := 1) (by decide) (hd c hc)
            exact ⟨[pT [c]], rfl, _, i1, i2, rfl, _, rfl, q⟩
          · refine ⟨_, _, _, rfl, rfl, rfl, by rw [List.nil_append, List.length_map, List.length_map, sizeLine_eq]; omega, ?_⟩
            have ih := rd_loop (is := is) (s0 := s0) (s1 := s1) (s4 := s4) (s6 := s6) (P := P) hm hn rs (k + 1) (acc ++ rowV r) (some (.d (.int (k : Nat)))) (some (.d (pT r))) s9 (fun p hp => ok p (List.mem_cons_of_mem _ hp)) (by rw [List.length_append, rowV_len]; omega)
              (fun i e => hE i (by unfold scanT; rw [if_pos okk]; exact e)) (fun ms a b c e => h ms a b c (by unfold scanT; rw [if_pos okk]; exact e))
            have e : (acc ++ rowV r).map PyData.int = acc.map .int ++ ([] ++ r.map fun c => PyData.int ((dgV [c] : Nat) : Int)) := by
              rw [List.map_append, List.nil_append]
              unfold rowV
              rw [List.map_map]
              rfl
            unfold rdS at ih
            rw [e] at ih
            exact ih
    · have e : (!decide (((tx r).length : Int) = (W : Int))) = true := by rw [tx_len, decide_eq_false (by omega)]; rfl
      rw [e]
      exact ⟨_, _, rfl, rfl, _, rfl, rfl, bad (by unfold rowOk; rw [decide_eq_false hw]; rfl)⟩
end LW
set_option Elab.async false
set_option linter.all false
set_option maxRecDepth 100000
set_option maxHeartbeats 400000
/-! U6: what is due of a text: the law's own reading. -/
namespace LW
open PySem PySem.Spec PyProof.Rows L2 VL
variable {K : PySem.W.Frag} {mg : Str → Option Value} {A : Ad} {Q : TV → Prop} {E : QX}
theorem rngD_from (lo n : Nat) : rngD (lo : Int) n = rngK lo n := by
  have : ∀ (n k : Nat), (List.range' k n).map (fun i => PyData.int ((lo : Int) + (i : Nat))) = rngK (lo + k) n := fun n => by
    induction n with
    | zero => exact fun k => rfl
    | succ n ih =>
      intro k
      rw [List.range'_succ, List.map_cons, ih (k + 1)]
      show _ = PyData.int ((lo + k : Nat) : Int) :: rngK (lo + k + 1) n
      rw [show ((lo + k : Nat) : Int) = (lo : Int) + (k : Nat) by omega]
      rfl
  unfold rngD
  rw [List.range_eq_range', this]
  rfl
theorem cutD_mid {α : Type} {xs : List α} {p q : Int} (h0 : 0 ≤ p) (h1 : p ≤ q) : VL.cutD xs (some p) (some q) = (xs.drop p.toNat).take (q.toNat - p.toNat) := by
  unfold VL.cutD
  rw [sIx_some h0, sIx_some (by omega)]
  by_cases hp : p.toNat ≤ xs.length
  · rw [Nat.min_eq_left hp]
    by_cases hq : q.toNat ≤ xs.length
    · rw [Nat.min_eq_left hq]
    · rw [Nat.min_eq_right (by omega), List.take_of_length_le (by rw [List.length_drop]; omega), List.take_of_length_le (by rw [List.length_drop]; omega)]
  · rw [Nat.min_eq_right (by omega : xs.length ≤ p.toNat), List.drop_length, List.drop_eq_nil_of_le (by omega), List.take_nil, List.take_nil]
theorem oct_cut {m : Nat} (h : m ≤ 8) : (L2.cutS (("01234567" : String) : Str) none (some (m : Int))).cps.toList = [48, 49, 50, 51, 52, 53, 54, 55].take m := by
  have e : (("01234567" : String) : Str).cps.toList = [48, 49, 50, 51, 52, 53, 54, 55] := by decide
  have el : (("01234567" : String) : Str).length = 8 := by decide
  unfold L2.cutS
  rw [el, sIx_some (by omega), e, Int.toNat_natCast, Nat.min_eq_left h]
  rfl
theorem in_oct {m : Nat} (h : m ≤ 8) (c : Nat) : decide (c ∈ (L2.cutS (("01234567" : String) : Str) none (some (m : Int))).cps.toList) = mOk m c := by
  rw [oct_cut h]
  have key : c ∈ [48, 49, 50, 51, 52, 53, 54, 55].take m ↔ 48 ≤ c ∧ c < 48 + m := by
    have : m = 0 ∨ m = 1 ∨ m = 2 ∨ m = 3 ∨ m = 4 ∨ m = 5 ∨ m = 6 ∨ m = 7 ∨ m = 8 := by omega
    rcases this with rfl | rfl | rfl | rfl | rfl | rfl | rfl | rfl | rfl <;> simp only [List.take, List.mem_cons, List.not_mem_nil, or_false] <;> first | omega | (constructor <;> intro h <;> first | exact h.elim | (exfalso; omega))
  unfold mOk
  by_cases hc : 48 ≤ c ∧ c < 48 + m
  · rw [decide_eq_true (key.mpr hc), decide_eq_true hc.1, decide_eq_true hc.2]
    rfl
  · rw [decide_eq_false fun z => hc (key.mp z)]
    by_cases h1 : 48 ≤ c
    · rw [decide_eq_true h1, decide_eq_false fun z => hc ⟨h1, z⟩]
      rfl
    · rw [decide_eq_false h1]
      rfl
def duS (s0 : Option SV) (rows : List (List Nat)) (s2 : Option SV) (m : Nat) (ns : List Int) (W : Nat) (acc : List Int) (s7 s8 : Option SV) : SE := [s0, some (.d (.list (rows.map pT))), s2, some (.d (.int (m : Nat))), some (.d (.list (ns.map .int))), some (.d (.int (W : Nat))), some (.own (acc.map .int)), s7, s8]
abbrev tellT (i : Int) : PyData := .tuple [.str "text", .int i]
theorem du_loop {n m W : Nat} {ns : List Int} {rows : List (List Nat)} {s0 s2 : Option SV} {P : Po} (hm : m ≤ 8) (hn : n ≤ 500000) (ok : ∀ p ∈ rows, okT n p) : ∀ (N k : Nat) (acc : List Int) (rs : List (List Nat)) (s7 s8 : Option SV), rows.drop (2 + k) = rs → acc.length + N * W ≤ 1000000 →
    (∀ i, scanL m W acc N k rs = .error i → P.rt (.d (tellT i))) → (∀ ms s7 s8, scanL m W acc N k rs = .ok ms → P.nx (duS s0 rows s2 m ns W ms s7 s8)) →
    wLoop (.nm 7) (du_6_b K A) (rngK (2 + k) N) (duS s0 rows s2 m ns W acc s7 s8) P E
  | 0, k, acc, rs, s7, s8, _, _, _, h => h acc s7 s8 rfl
  | N + 1, k, acc, [], s7, s8, hd, _, hE, _ => by
    have hlen : rows.length ≤ 2 + k := List.drop_eq_nil_iff.mp hd
    refine ⟨_, rfl, ?_⟩
    refine ⟨[.list _], rfl, _, _, rfl, rfl, _, rfl, ?_⟩
    rw [decide_eq_true (by rw [List.length_map]; omega : (((rows.map pT).length : Nat) : Int) ≤ ((2 + k : Nat) : Int))]
    exact ⟨_, _, rfl, sz (n := 2) rfl (by decide), _, rfl, hE _ rfl⟩
  | N + 1, k, acc, r :: rs, s7, s8, hd, hl, hE, h => by
    obtain ⟨e1, e2⟩ := drop_cons hd
    have hr : r ∈ rows := List.mem_of_getElem? e1
    have okr := ok r hr
    have hlen := okr.len
    have hlt : 2 + k < rows.length := (List.getElem?_eq_some_iff.mp e1).1
    rw [Nat.succ_mul] at hl
    have ea : L2.atI (rows.map pT) ((2 + k : Nat) : Int) = some (pT r) := atI_nat (by rw [List.getElem?_map, e1]; rfl)
    have bad : rowOk m W r = false → P.rt (.d (tellT ((2 + k : Nat) : Int))) := fun e => hE _ (by unfold scanL; rw [if_neg (by rw [e]; exact Bool.false_ne_true)])
    refine ⟨_, rfl, ?_⟩
    refine ⟨[.list _], rfl, _, _, rfl, rfl, _, rfl, ?_⟩
    rw [decide_eq_false (by rw [List.length_map]; omega : ¬ (((rows.map pT).length : Nat) : Int) ≤ ((2 + k : Nat) : Int))]
    refine ⟨_, _, rfl, rfl, _, ea, [pT r], rfl, tx_sz okr (by omega), _, _, rfl, rfl, dne_int ⟨_, rfl, ?_⟩⟩
    by_cases hw : r.length = W
    · have e : (!decide (((tx r).length : Int) = (W : Int))) = false := by rw [tx_len, decide_eq_true (by omega)]; rfl
      rw [e]
      refine ⟨_, _, rfl, rfl, _, ea, tx r, rfl, ?_⟩
      refine lc_fil (i := 8) (p := fun c => !mOk m c) (item := fun c => .str ⟨#[c]⟩) (by show 8 < 9; decide) r [] (by rw [List.length_nil]; omega) (fun c hc R q => ⟨(m : Int), rfl, .str "01234567", rfl, by rw [sizeLine_eq]; decide, _, _, rfl, rfl, c, rfl, _, rfl, rfl, by rw [in_oct hm]; exact q⟩) ?_
      rw [List.nil_append]
      refine ⟨_, _, rfl, by rw [sizeLine_eq]; decide, _, _, rfl, rfl, ?_⟩
      refine ⟨?_, rfl, ?_⟩
      · refine (Dt.lst (k := 0) fun x hx => ?_).sh (by decide)
        obtain ⟨c, hc, rfl⟩ := List.mem_map.mp hx
        exact Dt.txt (l := [c]) fun d hd => by rw [List.mem_singleton.mp hd]; exact okr.ok c (List.mem_filter.mp hc).1
      · rw [eqv_nil, fil_emp]
        refine ⟨_, rfl, ?_⟩
        cases ha : r.all (mOk m) with
        | false => exact ⟨_, _, rfl, sz (n := 2) rfl (by decide), _, rfl, bad (by unfold rowOk; rw [ha, Bool.and_false])⟩
        | true =>
          have okk : rowOk m W r = true := by unfold rowOk; rw [ha, decide_eq_true hw]; rfl
          have hd : ∀ c ∈ r, numOk [c] 1 = true := fun c hc => by rw [num1]; exact mOk_dg hm (List.all_eq_true.mp ha c hc)
          refine ⟨6, _, rfl, rfl, _, _, rfl, rfl, _, ea, tx r, rfl, ?_⟩
          refine lc_map (i := 8) (f := fun c => .int ((dgV [c] : Nat) : Int)) (item := fun c => .str ⟨#[c]⟩) r [] (by rw [List.length_nil]; omega) (fun c hc R q => ?_) ?_
          · obtain ⟨i1, i2⟩ := int_tx (l := [c]) (most := 1) (by decide) (hd c hc)
            exact ⟨[pT [c]], rfl, _, i1, i2, rfl, _, rfl, q⟩
          · refine ⟨_, _, _, rfl, rfl, rfl, by rw [List.nil_append, List.length_map, List.length_map, sizeLine_eq]; omega, ?_⟩
            have ih := du_loop (ns := ns) (s0 := s0) (s2 := s2) (P := P) hm hn ok N (k + 1) (acc ++ rowV r) rs (some (.d (.int ((2 + k : Nat) : Int)))) s8 e2 (by rw [List.length_append, rowV_len]; omega)
              (fun i e => hE i (by unfold scanL; rw [if_pos okk]; exact e)) (fun ms a b e => h ms a b (by unfold scanL; rw [if_pos okk]; exact e))
            have e : (acc ++ rowV r).map PyData.int = acc.map .int ++ ([] ++ r.map fun c => PyData.int ((dgV [c] : Nat) : Int)) := by
              rw [List.map_append, List.nil_append]
              unfold rowV
              rw [List.map_map]
              rfl
            unfold duS at ih
            rw [e] at ih
            exact ih
    · have e : (!decide (((tx r).length : Int) = (W : Int))) = true := by rw [tx_len, decide_eq_false (by omega)]; rfl
      rw [e]
      exact ⟨_, _, rfl, sz (n := 2) rfl (by decide), _, rfl, bad (by unfold rowOk; rw [decide_eq_false hw]; rfl)⟩
end LW
set_option Elab.async false
set_option linter.all false
set_option maxRecDepth 100000
set_option maxHeartbeats 400000
/-! U7: what is due of a text, whole. -/
namespace LW
open PySem PySem.Spec PyProof.Rows L2 VL
variable {K : PySem.W.Frag} {mg : Str → Option Value} {A : Ad} {Q : TV → Prop} {E : QX}
theorem snoc_of {α : Type} {l : List α} (h : 1 ≤ l.length) : ∃ is w, l = is ++ [w] := by
  have hn : l ≠ [] := fun z => by rw [z] at h; simp at h
  exact ⟨l.dropLast, l.getLast hn, (List.dropLast_concat_getLast hn).symm⟩
theorem sizesF_ok {ws : List (List Nat)} {ns : List Int} (h : sizesF ws = some ns) : 1 ≤ ns.length ∧ ns.length ≤ 8 ∧ ∀ i ∈ ns, 1 ≤ i ∧ i < 100000 := by
  cases ws with
  | nil => cases h
  | cons a r =>
    by_cases hc : a = PARTS ∧ 1 ≤ r.length ∧ r.length ≤ 8 ∧ r.all szOk = true
    · rw [sizesF_yes hc] at h
      cases h
      rw [List.length_map]
      refine ⟨hc.2.1, hc.2.2.1, fun i hi => ?_⟩
      obtain ⟨w, hw, rfl⟩ := List.mem_map.mp hi
      have hk := List.all_eq_true.mp hc.2.2.2 w hw
      have h0 := (sz5_ok hk).2
      unfold szOk at hk
      rw [Bool.and_eq_true] at hk
      have := numT_lt (l := w) (most := 5) (n := dgV w) (by unfold numT; rw [if_pos hk.1])
      omega
    · rw [sizesF_no hc] at h
      cases h
theorem headF_ok {rows : List (List Nat)} {m : Nat} {ns : List Int} (h : headF rows = .ok (m, ns)) : 2 ≤ m ∧ m ≤ 8 ∧ 2 ≤ rows.length ∧ 1 ≤ ns.length ∧ ns.length ≤ 8 ∧ ∀ i ∈ ns, 1 ≤ i ∧ i < 100000 := by
  unfold headF at h
  split at h
  · cases h
  · rename_i r0 rs
    split at h
    · cases h
    · rename_i k hk
      split at h
      · cases h
      · rename_i r1 rs2
        split at h
        · cases h
        · rename_i ns' hn
          cases h
          obtain ⟨a, b, c⟩ := sizesF_ok hn
          have hm : in28 m = true := by
            unfold manyF at hk
            split at hk
            · split at hk
              · rename_i g
                cases hk
                exact g
              · cases hk
            · cases hk
          unfold in28 at hm
          rw [Bool.and_eq_true, decide_eq_true_eq, decide_eq_true_eq] at hm
          exact ⟨hm.1, hm.2, by rw [List.length_cons, List.length_cons]; omega, a, b, c⟩
theorem scanL_ok (m W : Nat) : ∀ (N k : Nat) (acc : List Int) (rs : List (List Nat)) (ms : List Int), m ≤ 8 → scanL m W acc N k rs = .ok ms → N ≤ rs.length ∧ ms.length = acc.length + N * W ∧ ∀ c ∈ ms, c ∈ acc ∨ (0 ≤ c ∧ c < m)
  | 0, k, acc, rs, ms, hm, h => by
    have h' : Except.ok acc = Except.ok (ε := Int) ms := h
    cases h'
    exact ⟨Nat.zero_le _, by omega, fun c hc => .inl hc⟩
  | N + 1, k, acc, [], ms, hm, h => by cases h
  | N + 1, k, acc, r :: rs, ms, hm, h => by
    unfold scanL at h
    split at h
    · rename_i hr
      obtain ⟨h1, h2, h3⟩ := scanL_ok m W N (k + 1) (acc ++ rowV r) rs ms hm h
      unfold rowOk at hr
      rw [Bool.and_eq_true, decide_eq_true_eq] at hr
      rw [List.length_append, rowV_len, hr.1] at h2
      refine ⟨by rw [List.length_cons]; omega, by rw [Nat.succ_mul]; omega, fun c hc => ?_⟩
      rcases h3 c hc with h | h
      · rcases List.mem_append.mp h with h | h
        · exact .inl h
        · obtain ⟨d, hd, rfl⟩ := List.mem_map.mp h
          have hk := List.all_eq_true.mp hr.2 d hd
          unfold mOk at hk
          rw [Bool.and_eq_true, decide_eq_true_eq, decide_eq_true_eq] at hk
          rw [dg1]
          exact .inr (by omega)
      · exact .inr h
    · cases h
def toldD : RD → PyData
  | .text i => tellT i
  | .size => .tuple [.str "size", .str "settings"]
  | .good m ns ms => .tuple [.int (m : Nat), .tuple (ns.map .int), .tuple (ms.map .int)]
theorem tailF_eq (m W : Nat) (is : List Int) (rs : List (List Nat)) : tailF m (is ++ [(W : Int)]) rs = if 20000 < prodF is 1 * (W : Int) then .size else match scanL m W [] (prodF is 1).toNat 0 rs with
    | .error i => .text i
    | .ok ms => if (prodF is 1).toNat < rs.length then .text ((2 + (prodF is 1).toNat : Nat) : Int) else .good m (is ++ [(W : Int)]) ms := by
  have e1 : (is ++ [(W : Int)]).getLastD 1 = (W : Int) := by simp
  have e2 : (is ++ [(W : Int)]).dropLast = is := List.dropLast_concat
  have e3 : prodF (is ++ [(W : Int)]) 1 = prodF is 1 * (W : Int) := prodF_appL is [(W : Int)] 1
  unfold tailF
  rw [e1, e2, e3, Int.toNat_natCast] <;> rfl
theorem at_lastM {α β : Type} (f : α → β) (is : List α) (w : α) : L2.atI ((is ++ [w]).map f) ((((is ++ [w]).map f).length : Nat) - 1 : Int) = some (f w) := by
  rw [List.map_append]
  exact at_last (is.map f) (f w)
theorem cut_init {α β : Type} (f : α → β) (is : List α) (w : α) : VL.cutD ((is ++ [w]).map f) none (some ((((is ++ [w]).map f).length : Nat) - 1 : Int)) = is.map f := by
  rw [cutD_to (by rw [List.length_map, List.length_append, List.length_singleton]; omega)]
  have e : ((((is ++ [w]).map f).length : Nat) - 1 : Int).toNat = (is.map f).length := by
    rw [List.length_map, List.length_append, List.length_singleton, List.length_map]
    omega
  rw [e, List.map_append, List.take_left']
  rfl
theorem dsl_init {is : List Int} {w : Int} {R : TV → Prop} (r : R (.fresh (is.map PyData.int))) : dSlS (.list ((is ++ [w]).map PyData.int)) none (some ((((is ++ [w]).map PyData.int).length : Nat) - 1 : Int)) R := by
  show R (.fresh _)
  rw [cut_init]
  exact r
theorem s_law_due {n : Nat} {l : List Nat} (hl : okT n l) (hn : n ≤ 500000) (h : Q (.d (toldD (readF l)))) : p_law_due K A [.d (pT l)] Q E := by
  refine ⟨rfl, [.d (pT l)], rfl, s_law_rows hl hn ⟨nolists_txs _, _, _, rfl, ?_⟩⟩
  have ok := hl.cut (s := 10)
  have ne := cut_ne 10 l []
  have hlen := Nat.le_trans (cut_len 10 l []) (Nat.add_le_add_right hl.len 1)
  unfold readF at h
  generalize cut 10 [] l = rows at h ok ne hlen
  refine ⟨[.d (.list (rows.map pT))], _, rfl, s_law_head ne ok hn (fun k hk => ?_) (fun m ns hk => ?_)⟩
  · have e : rowsF rows = .text ((k : Nat) : Int) := by unfold rowsF; rw [hk]
    rw [e] at h
    exact ⟨_, _, rfl, .type "int", true, .inl ⟨_, rfl, rfl⟩, rfl, _, true, rfl, rfl, _, _, rfl, sz (n := 2) rfl (by decide), _, rfl, h⟩
  · have e : rowsF rows = tailF m ns (rows.drop 2) := by unfold rowsF; rw [hk]
    rw [e] at h
    obtain ⟨m2, m8, r2, n1, n8, nb⟩ := headF_ok hk
    refine ⟨_, _, rfl, .type "list", false, .inl ⟨_, rfl, rfl⟩, rfl, _, false, rfl, rfl, ?_⟩
    refine ⟨_, _, rfl, rfl, .int (m : Nat), rfl, _, _, rfl, rfl, .list (ns.map .int), rfl, _, _, rfl, sz (n := 2) rfl (by decide), _, _, rfl, rfl, ?_⟩
    obtain ⟨is, w, rfl⟩ := snoc_of n1
    have hw := nb w (List.mem_append_right _ (List.mem_singleton.mpr rfl))
    obtain ⟨W, rfl⟩ := Int.eq_ofNat_of_zero_le (a := w) (by omega)
    have hsm : ∀ i ∈ is ++ [((W : Nat) : Int)], sm i := fun i hi => by have := nb i hi; unfold sm; omega
    have hsi : ∀ i ∈ is, sm i := fun i hi => hsm i (List.mem_append_left _ hi)
    have hp1 : 1 ≤ prodF is 1 := prodF_ge is 1 (fun i hi => (nb i (List.mem_append_left _ hi)).1) (by decide)
    have e3 : prodF (is ++ [(W : Int)]) 1 = prodF is 1 * (W : Int) := prodF_appL is [(W : Int)] 1
    rw [tailF_eq] at h
    refine ⟨[.d (.list ((is ++ [(W : Int)]).map .int))], rfl, s_law_count (b := true) hsm ⟨rfl, _, _, rfl, rfl, _, rfl, ?_⟩⟩
    rw [e3]
    by_cases hc : 20000 < prodF is 1 * (W : Int)
    · rw [decide_eq_true hc]
      rw [if_pos hc] at h
      exact ⟨_, _, rfl, sz (n := 2) rfl (by decide), _, rfl, h⟩
    · rw [decide_eq_false hc]
      rw [if_neg hc] at h
      generalize hP : prodF is 1 = p at *
      obtain ⟨N, rfl⟩ := Int.eq_ofNat_of_zero_le (a := p) (by omega)
      rw [Int.toNat_natCast] at h
      have hNW : N * W ≤ 20000 := by
        have : ((N * W : Nat) : Int) ≤ 20000 := by rw [Int.natCast_mul]; omega
        omega
      have hN : N ≤ 20000 := Nat.le_trans (Nat.le_mul_of_pos_right N (by omega)) hNW
      refine ⟨[.list _], rfl, _, _, rfl, rfl, _, _, rfl, rfl, _, at_lastM PyData.int is (W : Int), _, _, rfl, by rw [sizeLine_eq]; decide, _, _, (fun _ z => by cases z), (fun _ z => by cases z), rfl, rfl, ?_⟩
      refine ⟨[.list _], rfl, _, _, rfl, rfl, _, rfl, .list _, rfl, dsl_init ?_⟩
      refine ⟨[.d (.list (is.map .int))], rfl, s_law_count (b := true) hsi ⟨rfl, _, _, rfl, rfl, 2, (2 + prodF is 1), rfl, by omega, ?_⟩⟩
      have eN : (2 + prodF is 1 - 2 : Int).toNat = N := by omega
      have er : rngD 2 (2 + prodF is 1 - 2 : Int).toNat = rngK (2 + 0) N := by rw [eN]; exact rngD_from 2 N
      rw [er]
      refine du_loop (K := K) (A := A) (n := n) (m := m) (W := W) (ns := is ++ [(W : Int)]) (rows := rows) m8 hn ok N 0 [] (rows.drop 2) none none rfl (by rw [List.length_nil]; omega) (fun i hi => ?_) (fun ms s7 s8 hi => ?_)
      · rw [hi] at h
        exact h
      · rw [hi] at h
        replace h : Q (.d (toldD (if N < (rows.drop 2).length then .text ((2 + N : Nat) : Int) else .good m (is ++ [(W : Int)]) ms))) := h
        refine ⟨[.list _], rfl, [.list _], rfl, _, _, rfl, rfl, _, rfl, .list _, rfl, dsl_init ?_⟩
        refine ⟨[.d (.list (is.map .int))], rfl, s_law_count (b := true) hsi ⟨rfl, _, _, rfl, rfl, _, _, rfl, rfl, _, rfl, ?_⟩⟩
        have hd : (rows.drop 2).length = rows.length - 2 := List.length_drop
        by_cases hg : N < (rows.drop 2).length
        · rw [if_pos hg] at h
          rw [decide_eq_true (by rw [List.length_map]; omega)]
          refine ⟨[.list _], rfl, _, _, rfl, rfl, _, rfl, .list _, rfl, dsl_init ?_⟩
          refine ⟨[.d (.list (is.map .int))], rfl, s_law_count (b := true) hsi ⟨rfl, _, _, rfl, rfl, _, _, rfl, sz (n := 2) rfl (by decide), _, rfl, ?_⟩⟩
          have e2 : (2 + prodF is 1 : Int) = ((2 + N : Nat) : Int) := by omega
          rw [e2]
          exact h
        · rw [if_neg hg] at h
          rw [decide_eq_false (by rw [List.length_map]; omega)]
          exact ⟨[.list _], rfl, [.list _], rfl, _, _, rfl, sz (n := 3) rfl (by decide), _, rfl, h⟩
end LW
set_option Elab.async false
set_option linter.all false
set_option maxRecDepth 100000
set_option maxHeartbeats 400000
/-! U8: Board.read. -/
namespace LW
open PySem PySem.Spec PyProof.Rows L2 VL
variable {K : PySem.W.Frag} {mg : Str → Option Value} {A : Ad} {Q : TV → Prop} {E : QX}
theorem s_Board_readN {x : PyData} (hx : ∀ y, x ≠ .str y) (h : E ⟨.ref A.a_InvalidText, [("at", .int (-1))]⟩) : p_Board_read K A [.d x] Q E := by
  refine ⟨rfl, [.d x], rfl, s_is_text ⟨rfl, _, false, rfl, ?_, 1, rfl, _, rfl, rfl, h⟩⟩
  cases x with
  | str y => exact absurd rfl (hx y)
  | int i => rfl
  | bool i => rfl
  | none => rfl
  | list _ => rfl
  | tuple _ => rfl
  | dict _ => rfl
/-- the rows behind the head, by the program -/
theorem rd_rest (T : Txt K mg A) {n m : Nat} {ns : List Int} {rows : List (List Nat)} {s0 s4 s5 s6 s7 s8 s9 : Option SV} {R : TV → Prop} (hn : n ≤ 500000) (ok : ∀ p ∈ rows, okT n p) (m2 : 2 ≤ m) (m8 : m ≤ 8) (r2 : 2 ≤ rows.length) (hlen : rows.length ≤ 1000000) (n1 : 1 ≤ ns.length) (n8 : ns.length ≤ 8) (nb : ∀ i ∈ ns, 1 ≤ i ∧ i < 100000)
    (hE : ∀ i, tailF m ns (rows.drop 2) = .text i → E ⟨.ref A.a_InvalidText, [("at", .int i)]⟩) (hS : tailF m ns (rows.drop 2) = .size → E ⟨.ref A.a_InvalidSize, [("word", .str "settings")]⟩) (hG : ∀ ms, tailF m ns (rows.drop 2) = .good m ns ms → Good m ns ms → R (.obj A.a_Board (fields m ns ms))) :
    wSeq (rd_6 K A) (wSeq (rd_7 K A) (wSeq (rd_8 K A) (wSeq (rd_9 K A) (wSeq (rd_10 K A) (wSeq (rd_11 K A) wNext))))) [s0, some (.own (rows.map pT)), some (.d (.int (m : Nat))), some (.d (.tuple (ns.map .int))), s4, s5, s6, s7, s8, s9] { nx := fun _ => R (.d .none), rt := R } E := by
  obtain ⟨is, w, rfl⟩ := snoc_of n1
  have hw := nb w (List.mem_append_right _ (List.mem_singleton.mpr rfl))
  obtain ⟨W, rfl⟩ := Int.eq_ofNat_of_zero_le (a := w) (by omega)
  have hsm : ∀ i ∈ is ++ [((W : Nat) : Int)], sm i := fun i hi => by have := nb i hi; unfold sm; omega
  have hp1 : 1 ≤ prodF is 1 := prodF_ge is 1 (fun i hi => (nb i (List.mem_append_left _ hi)).1) (by decide)
  have e3 : prodF (is ++ [(W : Int)]) 1 = prodF is 1 * (W : Int) := prodF_appL is [(W : Int)] 1
  rw [tailF_eq] at hE hS hG
  refine ⟨[.d (.tuple ((is ++ [(W : Int)]).map .int))], rfl, s_settings_count (b := false) hsm ⟨rfl, _, _, rfl, _, _, rfl, rfl, _, rfl, ?_⟩⟩
  by_cases hc : 20000 < prodF is 1 * (W : Int)
  · rw [e3, decide_eq_true hc]
    exact ⟨_, rfl, rfl, hS (if_pos hc)⟩
  · rw [decide_eq_false (by rw [e3]; exact hc)]
    rw [if_neg hc] at hE hS hG
    generalize hP : prodF is 1 = p at *
    obtain ⟨N, rfl⟩ := Int.eq_ofNat_of_zero_le (a := p) (by omega)
    rw [Int.toNat_natCast] at hE hS hG
    have hNW : N * W ≤ 20000 := by
      have : ((N * W : Nat) : Int) ≤ 20000 := by rw [Int.natCast_mul]; omega
      omega
    have hN : N ≤ 20000 := Nat.le_trans (Nat.le_mul_of_pos_right N (by omega)) hNW
    refine ⟨_, _, rfl, by rw [sizeLine_eq]; decide, 1, rfl, _, _, rfl, rfl, _, at_neg PyData.int is (W : Int), _, _, rfl, rfl, ⟨by omega, by omega⟩, _, _, rfl, rfl, _, _, (fun _ z => by cases z), (fun _ z => by cases z), rfl, rfl, ?_⟩
    have ed : (2 + prodF (is ++ [(W : Int)]) 1 / (W : Int) : Int) = ((2 + N : Nat) : Int) := by
      rw [e3, Int.mul_ediv_cancel _ (by omega)]
      omega
    rw [ed]
    refine ⟨2, rfl, ((2 + N : Nat) : Int), rfl, .list _, rfl, _, _, _, rfl, .inl rfl, ?_⟩
    have ec : VL.cutD (rows.map pT) (some 2) (some ((2 + N : Nat) : Int)) = ((rows.drop 2).take N).map pT := by
      rw [cutD_mid (by decide) (by omega), List.map_take, List.map_drop]
      congr 1
      omega
    rw [ec]
    have hdl : (rows.drop 2).length = rows.length - 2 := List.length_drop
    obtain ⟨sc1, sc2⟩ := scan_eq m W N 0 [] (rows.drop 2)
    refine rd_loop (K := K) (A := A) (n := n) (m := m) (W := W) (is := is) m8 hn ((rows.drop 2).take N) 0 [] s7 s8 s9 (fun p hp => ok p (List.mem_of_mem_drop (List.mem_of_mem_take hp))) ?_ (fun i hi => ?_) (fun ms t7 t8 t9 hi => ?_)
    · have : ((rows.drop 2).take N).length * W ≤ N * W := Nat.mul_le_mul_right _ (by rw [List.length_take]; omega)
      rw [List.length_nil]
      omega
    · refine hE i ?_
      rw [sc1 i hi]
    · have sc := sc2 ms hi
      refine ⟨[.list _], rfl, _, _, rfl, rfl, dne_int ⟨_, rfl, ?_⟩⟩
      by_cases hk : N ≤ (rows.drop 2).length
      · rw [if_pos hk] at sc
        rw [sc] at hE hS hG
        by_cases hg : N < (rows.drop 2).length
        · have eb : (!decide ((((rows.map pT).length : Nat) : Int) = ((2 + N : Nat) : Int))) = true := by rw [List.length_map, decide_eq_false (by omega)]; rfl
          rw [eb]
          refine ⟨[.list _], rfl, [.int _, .int _], rfl, ?_⟩
          have em : (if ((2 + N : Nat) : Int) < (((rows.map pT).length : Nat) : Int) then ((2 + N : Nat) : Int) else (((rows.map pT).length : Nat) : Int)) = ((2 + N : Nat) : Int) := if_pos (by rw [List.length_map]; omega)
          show ∃ x, _
          refine ⟨_, rfl, rfl, ?_⟩
          rw [em]
          exact hE _ (if_pos hg)
        · have eb : (!decide ((((rows.map pT).length : Nat) : Int) = ((2 + N : Nat) : Int))) = false := by rw [List.length_map, decide_eq_true (by omega)]; rfl
          rw [eb]
          obtain ⟨l1, l2, l3⟩ := scanL_ok m W N 0 [] (rows.drop 2) ms m8 sc
          have hp' : prodF (is ++ [(W : Int)]) 1 = ((N * W : Nat) : Int) := by rw [e3, Int.natCast_mul]
          have g : Good (m : Nat) (is ++ [(W : Int)]) ms := ⟨⟨n1, n8, fun i hi => (nb i hi).1, by rw [hp']; omega⟩, by omega, by omega, by rw [hp', l2, List.length_nil, Nat.zero_add], fun c hc => (l3 c hc).resolve_left (by simp)⟩
          exact ⟨[.d (.int (m : Nat)), .d (.tuple ((is ++ [(W : Int)]).map .int)), .d (.list (ms.map .int))], rfl, mk_good T g false true ⟨flat_fields, _, rfl, hG ms (if_neg hg) g⟩⟩
      · rw [if_neg hk] at sc
        rw [sc] at hE hS hG
        have eb : (!decide ((((rows.map pT).length : Nat) : Int) = ((2 + N : Nat) : Int))) = true := by rw [List.length_map, decide_eq_false (by omega)]; rfl
        rw [eb]
        refine ⟨[.list _], rfl, [.int _, .int _], rfl, ?_⟩
        have em : (if ((2 + N : Nat) : Int) < (((rows.map pT).length : Nat) : Int) then ((2 + N : Nat) : Int) else (((rows.map pT).length : Nat) : Int)) = ((2 + 0 + (rows.drop 2).length : Nat) : Int) := by
          rw [List.length_map, if_neg (by omega)]
          omega
        show ∃ x, _
        refine ⟨_, rfl, rfl, ?_⟩
        rw [em]
        exact hE _ rfl
end LW
set_option Elab.async false
set_option linter.all false
set_option maxRecDepth 100000
set_option maxHeartbeats 400000
/-! U9: Board.read whole; what is told of a text. -/
namespace LW
open PySem PySem.Spec PyProof.Rows L2 VL
variable {K : PySem.W.Frag} {mg : Str → Option Value} {A : Ad} {Q : TV → Prop} {E : QX}
theorem s_Board_read (T : Txt K mg A) {n : Nat} {l : List Nat} (hl : okT n l) (hn : n ≤ 500000) (hE : ∀ i, readF l = .text i → E ⟨.ref A.a_InvalidText, [("at", .int i)]⟩) (hS : readF l = .size → E ⟨.ref A.a_InvalidSize, [("word", .str "settings")]⟩)
    (hG : ∀ m ns ms, readF l = .good m ns ms → Good (m : Nat) ns ms → Q (.obj A.a_Board (fields (m : Nat) ns ms))) : p_Board_read K A [.d (pT l)] Q E := by
  refine ⟨rfl, [.d (pT l)], rfl, s_is_text ⟨rfl, _, true, rfl, rfl, ?_⟩⟩
  have hlen := hl.len
  refine ⟨tx l, rfl, by rw [tx_len, sizeLine_eq]; omega, _, _, rfl, ?_⟩
  rw [split_map k_nl (by decide)]
  have ok := hl.cut (s := 10)
  have ne := cut_ne 10 l []
  have hcl := Nat.le_trans (cut_len 10 l []) (Nat.add_le_add_right hl.len 1)
  unfold readF at hE hS hG
  generalize cut 10 [] l = rows at hE hS hG ok ne hcl
  cases rows with
  | nil => exact absurd rfl ne
  | cons r0 rs =>
    have ok0 := ok r0 List.mem_cons_self
    refine ⟨_, _, rfl, rfl, _, at_0 pT r0 rs, [.d (pT r0)], rfl, s_many_of_row ok0 hn ?_⟩
    cases hm : manyF (cut 32 [] r0) with
    | none =>
      have e : rowsF (r0 :: rs) = .text ((0 : Nat) : Int) := by
        have : headF (r0 :: rs) = .error 0 := by simp only [headF, hm]
        unfold rowsF
        rw [this]
      exact ⟨rfl, _, _, rfl, _, _, rfl, rfl, rfl, _, rfl, _, rfl, rfl, hE _ e⟩
    | some m =>
      refine ⟨rfl, _, _, rfl, _, _, rfl, rfl, rfl, _, rfl, ?_⟩
      refine ⟨[.list _], rfl, _, _, rfl, rfl, _, rfl, ?_⟩
      cases rs with
      | nil =>
        have e : rowsF [r0] = .text ((1 : Nat) : Int) := by
          have : headF [r0] = .error 1 := by simp only [headF, hm]
          unfold rowsF
          rw [this]
        exact ⟨_, _, rfl, _, _, rfl, rfl, rfl, _, rfl, _, rfl, rfl, hE _ e⟩
      | cons r1 rs =>
        have ok1 := ok r1 (List.mem_cons_of_mem _ List.mem_cons_self)
        rw [decide_eq_true (by rw [List.length_map, List.length_cons, List.length_cons]; omega)]
        have a1 : L2.atI ((r0 :: r1 :: rs).map pT) 1 = some (pT r1) := at_nat (by decide) rfl
        refine ⟨_, _, rfl, rfl, _, a1, [.d (pT r1)], rfl, s_sizes_of_row ok1 hn ?_⟩
        cases hz : sizesF (cut 32 [] r1) with
        | none =>
          have e : rowsF (r0 :: r1 :: rs) = .text ((1 : Nat) : Int) := by
            have : headF (r0 :: r1 :: rs) = .error 1 := by simp only [headF, hm, hz]
            unfold rowsF
            rw [this]
          exact ⟨rfl, _, _, rfl, _, _, rfl, rfl, rfl, _, rfl, _, rfl, rfl, hE _ e⟩
        | some ns =>
          have hh : headF (r0 :: r1 :: rs) = .ok (m, ns) := by simp only [headF, hm, hz]
          have e : rowsF (r0 :: r1 :: rs) = tailF m ns ((r0 :: r1 :: rs).drop 2) := by
            unfold rowsF
            rw [hh]
          rw [e] at hE hS hG
          obtain ⟨m2, m8, r2, n1, n8, nb⟩ := headF_ok hh
          refine ⟨nolist_ints _, _, _, rfl, _, _, rfl, rfl, rfl, _, rfl, ?_⟩
          exact rd_rest T (n := n) (R := Q) hn ok m2 m8 r2 (by omega) n1 n8 nb hE hS fun ms e g => hG m ns ms e g
structure FxT (K : PySem.W.Frag) (A : Ad) : Prop extends Fx K A where
  ext : PySem.W.exmOne K (.ref A.a_InvalidText) (.ref A.a_InvalidText) = some true
  est : PySem.W.exmOne K (.ref A.a_InvalidSize) (.ref A.a_InvalidText) = some false
  kxe : PySem.W.kitOne K (.ref A.a_InvalidText) (.ref A.a_BoardError) = some true
  kxv : PySem.W.kitOne K (.ref A.a_InvalidText) (.type "ValueError") = some false
theorem s_law_toldN (T : Txt K mg A) (F : FxT K A) {x : PyData} (hx : ∀ y, x ≠ .str y) (h : Q (.d (tellT (-1)))) : p_law_told K A [.d x] Q E := by
  refine ⟨rfl, [.d x], rfl, s_Board_readN hx ?_⟩
  exact ⟨true, F.ext, fun a d => ⟨d, _, true, rfl, rfl, rfl, F.kxe, _, true, rfl, rfl, d, _, false, rfl, rfl, rfl, F.kxv, _, false, rfl, rfl, d, _, .int (-1), rfl, rfl, rfl, rfl, _, _, rfl, sz (n := 2) rfl (by decide), _, rfl, h⟩⟩
theorem s_law_told (T : Txt K mg A) (F : FxT K A) {n : Nat} {l : List Nat} (hl : okT n l) (hn : n ≤ 500000) (h : Q (.d (toldD (readF l)))) : p_law_told K A [.d (pT l)] Q E := by
  refine ⟨rfl, [.d (pT l)], rfl, s_Board_read T hl hn (fun i e => ?_) (fun e => ?_) (fun m ns ms e g => ?_)⟩
  · rw [e] at h
    exact ⟨true, F.ext, fun a d => ⟨d, _, true, rfl, rfl, rfl, F.kxe, _, true, rfl, rfl, d, _, false, rfl, rfl, rfl, F.kxv, _, false, rfl, rfl, d, _, .int i, rfl, rfl, rfl, rfl, _, _, rfl, sz (n := 2) rfl (by decide), _, rfl, h⟩⟩
  · rw [e] at h
    exact ⟨false, F.est, true, F.ess, fun a d => ⟨d, _, true, rfl, rfl, rfl, F.kse, _, true, rfl, rfl, d, _, .str "settings", rfl, rfl, rfl, rfl, _, _, rfl, sz (n := 2) rfl (by decide), _, rfl, h⟩⟩
  · rw [e] at h
    refine ⟨flat_fields, flat_fields, _, _, rfl, ?_⟩
    refine ⟨A.a_Board, _, .int (m : Nat), rfl, T.cls_Board, T.na_Board _ (by decide), rfl, A.a_Board, _, .tuple (ns.map .int), rfl, T.cls_Board, T.na_Board _ (by decide), rfl, A.a_Board, _, .tuple (ms.map .int), rfl, T.cls_Board, T.na_Board _ (by decide), rfl, ?_⟩
    exact ⟨_, _, rfl, sz (n := 3) rfl (by decide), _, rfl, h⟩
end LW
set_option Elab.async false
set_option linter.all false
set_option maxRecDepth 100000
set_option maxHeartbeats 400000
/-! U10: a board's text, plainly. -/
namespace LW
open PySem PySem.Spec PyProof.Rows L2 VL
theorem rgc_up {W N : Nat} (hW : 1 ≤ W) (hW2 : W ≤ 100000) (hb : N * W ≤ 1000000) : RgC 0 ((N * W : Nat) : Int) (W : Int) N := by
  have hs : Builtin.Range.rangeSize 0 ((N * W : Nat) : Int) (W : Int) = (N : Int) := by
    rw [PyProof.Rows.rangeSize_pos (by omega) (by omega)]
    have e : ((N * W : Nat) : Int) + W - 1 = ((W : Int) - 1) + (N : Int) * W := by rw [Int.natCast_mul]; omega
    rw [e, Int.add_mul_ediv_right _ _ (by omega), Int.ediv_eq_zero_of_lt (by omega) (by omega)]
    omega
  have hN : N ≤ 1000000 := Nat.le_trans (Nat.le_mul_of_pos_right N (by omega)) hb
  refine ⟨by omega, by omega, ?_, hs⟩
  unfold Builtin.Range.small
  rw [hs]
  simp only [Builtin.Range.rangeFitsLong, Bool.and_eq_true, Bool.or_eq_true, decide_eq_true_eq, beq_iff_eq]
  rw [if_pos (show (W : Int) > 0 by omega)]
  generalize N * W = z at hb
  refine ⟨⟨⟨⟨by decide, by omega⟩, by omega⟩, by omega⟩, .inr ?_⟩
  rw [decide_eq_true (by omega), decide_eq_true (by omega)]
  rfl
theorem str_int {i : Int} (h : 0 ≤ i) : (Str.ofString (toString i)) = tx (TL.numL i.toNat) := by
  obtain ⟨n, rfl⟩ := Int.eq_ofNat_of_zero_le h
  rw [Int.toNat_natCast, ← TL.tl_num n]
theorem join_tx (b : List Nat) (ls : List (List Nat)) : Txt.join (tx b) (ls.map tx) = tx (TL.joinL b ls) := TL.ext_tl (by
  rw [TL.join_eq, TL.tl_join, List.map_map]
  have e : ls.map (TL.tl ∘ tx) = ls := List.map_id _
  rw [e])
theorem mem_joinL {b : List Nat} {c : Nat} : ∀ {ls : List (List Nat)}, c ∈ TL.joinL b ls → c ∈ b ∨ ∃ p ∈ ls, c ∈ p
  | [], h => by cases h
  | [p], h => .inr ⟨p, List.mem_cons_self, h⟩
  | p :: q :: r, h => by
    have h' : c ∈ p ++ (b ++ TL.joinL b (q :: r)) := h
    rcases List.mem_append.mp h' with h | h
    · exact .inr ⟨p, List.mem_cons_self, h⟩
    · rcases List.mem_append.mp h with h | h
      · exact .inl h
      · rcases mem_joinL h with h | ⟨x, hx, h⟩
        · exact .inl h
        · exact .inr ⟨x, List.mem_cons_of_mem _ hx, h⟩
theorem joinL_len {b : List Nat} {M : Nat} : ∀ {ls : List (List Nat)}, (∀ p ∈ ls, p.length ≤ M) → (TL.joinL b ls).length ≤ ls.length * (M + b.length)
  | [], _ => Nat.zero_le _
  | [p], h => by
    have := h p List.mem_cons_self
    show p.length ≤ 1 * _
    omega
  | p :: q :: r, h => by
    have h1 := h p List.mem_cons_self
    have ih := joinL_len (ls := q :: r) (b := b) fun x hx => h x (List.mem_cons_of_mem _ hx)
    show (p ++ (b ++ TL.joinL b (q :: r))).length ≤ _
    rw [List.length_append, List.length_append, List.length_cons (a := p), Nat.succ_mul]
    omega
theorem sum_le {M : Nat} : ∀ {ls : List (List Nat)}, (∀ p ∈ ls, p.length ≤ M) → ((ls.map tx).map (·.length)).sum ≤ ls.length * M
  | [], _ => Nat.zero_le _
  | p :: r, h => by
    have h1 := h p List.mem_cons_self
    have ih := sum_le (ls := r) fun x hx => h x (List.mem_cons_of_mem _ hx)
    rw [List.map_cons, List.map_cons, List.sum_cons, List.length_cons, Nat.succ_mul, tx_len]
    omega
theorem joinL_one : ∀ (l : List Nat), TL.joinL [] (l.map fun c => [c]) = l
  | [] => rfl
  | [c] => rfl
  | c :: d :: r => by
    show [c] ++ ([] ++ TL.joinL [] ((d :: r).map fun c => [c])) = _
    rw [joinL_one (d :: r)]
    rfl
/-! ### numbers, written and read -/
theorem num_head : ∀ n : Nat, 1 ≤ n → (TL.numL n).headD 0 ≠ 48 := fun n => by
  induction n using Nat.strongRecOn with
  | _ n ih =>
    intro h
    by_cases h10 : n < 10
    · rw [TL.numL_lt h10]
      show 48 + n ≠ 48
      omega
    · rw [TL.numL_step (by omega)]
      have := ih (n / 10) (by omega) (by omega)
      cases e : TL.numL (n / 10) with
      | nil => exact absurd e (TL.numL_ne _)
      | cons c r => rw [e] at this; exact this
theorem num_ok {n k : Nat} (hk : 0 < k) (h : n < 10 ^ k) : numOk (TL.numL n) k = true := by
  have h1 : 1 ≤ (TL.numL n).length := List.length_pos_iff.mpr (TL.numL_ne n)
  have h2 := TL.numL_len hk h
  have h3 : (TL.numL n).all isDg = true := List.all_eq_true.mpr fun c hc => by
    obtain ⟨a, b⟩ := TL.numL_digits n c hc
    unfold isDg
    rw [decide_eq_true a, decide_eq_true b]
    rfl
  unfold numOk
  rw [decide_eq_true h1, decide_eq_true h2, h3]
  by_cases h10 : n < 10
  · rw [TL.numL_lt h10]
    rfl
  · rw [decide_eq_true (p := (TL.numL n).headD 0 ≠ 48) (num_head n (by omega)), Bool.or_true]
    rfl
theorem num_T {n k : Nat} (hk : 0 < k) (h : n < 10 ^ k) : numT (TL.numL n) k = some n := by
  unfold numT
  rw [if_pos (num_ok hk h)]
  exact congrArg some (TL.numL_val n)
/-! ### the rows -/
def numLs (ns : List Int) : List (List Nat) := ns.map fun i => TL.numL i.toNat
def rowT (cs : List Int) : List Nat := cs.map fun c => 48 + c.toNat
def chunks (W : Nat) : Nat → List Int → List (List Int)
  | 0, _ => []
  | n + 1, cs => cs.take W :: chunks W n (cs.drop W)
def rowsT (m : Nat) (ns : List Int) (W N : Nat) (cs : List Int) : List (List Nat) := TL.joinL [32] [MARKS, TL.numL m] :: TL.joinL [32] (PARTS :: numLs ns) :: (chunks W N cs).map rowT
def textF (m : Nat) (ns : List Int) (W N : Nat) (cs : List Int) : List Nat := TL.joinL [10] (rowsT m ns W N cs)
theorem chunks_len (W : Nat) : ∀ (N : Nat) (cs : List Int), (chunks W N cs).length = N
  | 0, _ => rfl
  | n + 1, cs => by
    unfold chunks
    rw [List.length_cons, chunks_len W n]
theorem chunks_mem (W : Nat) : ∀ (N : Nat) (cs : List Int), ∀ r ∈ chunks W N cs, r.length ≤ W ∧ ∀ c ∈ r, c ∈ cs
  | 0, _, r, h => by cases h
  | n + 1, cs, r, h => by
    unfold chunks at h
    rcases List.mem_cons.mp h with rfl | h
    · exact ⟨List.length_take_le _ _, fun c hc => List.mem_of_mem_take hc⟩
    · obtain ⟨h1, h2⟩ := chunks_mem W n _ r h
      exact ⟨h1, fun c hc => List.mem_of_mem_drop (h2 c hc)⟩
theorem rowV_T {cs : List Int} (h : ∀ c ∈ cs, 0 ≤ c) : rowV (rowT cs) = cs := by
  unfold rowV rowT
  rw [List.map_map]
  have : ∀ c ∈ cs, ((fun c : Nat => ((dgV [c] : Nat) : Int)) ∘ fun c : Int => 48 + c.toNat) c = c := fun c hc => by
    have := h c hc
    show ((dgV [48 + c.toNat] : Nat) : Int) = c
    rw [dg1]
    omega
  rw [List.map_congr_left this, List.map_id']
theorem rowOk_T {m W : Nat} {cs : List Int} (hl : cs.length = W) (h : ∀ c ∈ cs, 0 ≤ c ∧ c < m) : rowOk m W (rowT cs) = true := by
  unfold rowOk
  have h1 : (rowT cs).length = W := by unfold rowT; rw [List.length_map, hl]
  have h2 : (rowT cs).all (mOk m) = true := List.all_eq_true.mpr fun d hd => by
    obtain ⟨c, hc, rfl⟩ := List.mem_map.mp hd
    have := h c hc
    unfold mOk
    rw [decide_eq_true (by omega), decide_eq_true (by omega)]
    rfl
  rw [decide_eq_true h1, h2]
  rfl
theorem scan_back {m W : Nat} : ∀ (N k : Nat) (acc cs : List Int), cs.length = N * W → (∀ c ∈ cs, 0 ≤ c ∧ c < m) → scanL m W acc N k ((chunks W N cs).map rowT) = .ok (acc ++ cs)
  | 0, k, acc, cs, hl, _ => by
    have : cs = [] := List.length_eq_zero_iff.mp (by omega)
    rw [this, List.append_nil]
    rfl
  | N + 1, k, acc, cs, hl, h => by
    rw [Nat.succ_mul] at hl
    have e1 : (cs.take W).length = W := by rw [List.length_take]; omega
    have h1 : ∀ c ∈ cs.take W, 0 ≤ c ∧ c < m := fun c hc => h c (List.mem_of_mem_take hc)
    unfold chunks
    rw [List.map_cons]
    unfold scanL
    rw [if_pos (rowOk_T e1 h1), rowV_T fun c hc => (h1 c hc).1, scan_back N (k + 1) _ (cs.drop W) (by rw [List.length_drop]; omega) fun c hc => h c (List.mem_of_mem_drop hc), List.append_assoc, List.take_append_drop]
theorem cut_join {s : Nat} {parts : List (List Nat)} (hn : parts ≠ []) (h : ∀ p ∈ parts, s ∉ p) : cut s [] (TL.joinL [s] parts) = parts := by
  rw [← cut_spl]
  exact TL.spl_join hn h
theorem rowsT_free {m : Nat} {ns : List Int} {W N : Nat} {cs : List Int} (hc : ∀ c ∈ cs, 0 ≤ c ∧ c < 8) : ∀ p ∈ rowsT m ns W N cs, 10 ∉ p ∧ okL p := fun p hp => by
  have key : ∀ c ∈ p, 32 ≤ c ∧ c < 1000 := fun c hcp => by
    have num : ∀ n, c ∈ TL.numL n → 32 ≤ c ∧ c < 1000 := fun n h => by
      have := TL.numL_digits n c h
      omega
    unfold rowsT at hp
    rcases List.mem_cons.mp hp with rfl | hp
    · rcases mem_joinL hcp with h | ⟨x, hx, h⟩
      · rw [List.mem_singleton.mp h]
        decide
      · rcases List.mem_cons.mp hx with rfl | hx
        · simp only [List.mem_cons, List.not_mem_nil, or_false] at h
          omega
        · rw [List.mem_singleton.mp hx] at h
          exact num m h
    · rcases List.mem_cons.mp hp with rfl | hp
      · rcases mem_joinL hcp with h | ⟨x, hx, h⟩
        · rw [List.mem_singleton.mp h]
          decide
        · rcases List.mem_cons.mp hx with rfl | hx
          · simp only [List.mem_cons, List.not_mem_nil, or_false] at h
            omega
          · obtain ⟨i, hi, rfl⟩ := List.mem_map.mp hx
            exact num _ h
      · obtain ⟨r, hr, rfl⟩ := List.mem_map.mp hp
        obtain ⟨d, hd, rfl⟩ := List.mem_map.mp hcp
        have := hc d ((chunks_mem W N cs r hr).2 d hd)
        omega
  exact ⟨fun h => by have := key 10 h; omega, fun c h => by have := key c h; omega⟩
theorem headM_marks (b : List Nat) : headM [MARKS, b] = numT b 1 := by
  show (if MARKS = MARKS then numT b 1 else none) = _
  rw [if_pos rfl]
/-- the text is read as the board -/
theorem read_back {m W N : Nat} {is cs : List Int} (g : Good (m : Nat) (is ++ [(W : Int)]) cs) (hN : prodF is 1 = (N : Nat)) : readF (textF m (is ++ [(W : Int)]) W N cs) = .good m (is ++ [(W : Int)]) cs := by
  have m0 := g.m0
  have m1 := g.m1
  have hle := g.toGoodS.le
  have e3 : prodF (is ++ [(W : Int)]) 1 = prodF is 1 * (W : Int) := prodF_appL is [(W : Int)] 1
  have hp := g.hp
  have hcl := g.hl
  rw [e3, hN, ← Int.natCast_mul] at hp hcl
  unfold readF textF
  rw [cut_join (by unfold rowsT; simp) fun p hp => (rowsT_free (fun c hc => by have := g.hc c hc; omega) p hp).1]
  have mz : manyF (cut 32 [] (TL.joinL [32] [MARKS, TL.numL m])) = some m := by
    rw [cut_join (by simp) fun p hp => by
      rcases List.mem_cons.mp hp with rfl | hp
      · decide
      · rw [List.mem_singleton.mp hp]
        exact TL.numL_free (by decide)]
    have e : headM [MARKS, TL.numL m] = some m := (headM_marks (TL.numL m)).trans (num_T (k := 1) (by decide) (by omega))
    unfold manyF
    rw [e]
    have : in28 m = true := by unfold in28; rw [decide_eq_true (by omega), decide_eq_true (by omega)]; rfl
    exact if_pos this
  have sz : sizesF (cut 32 [] (TL.joinL [32] (PARTS :: numLs (is ++ [(W : Int)])))) = some (is ++ [(W : Int)]) := by
    rw [cut_join (by simp) fun p hp => by
      rcases List.mem_cons.mp hp with rfl | hp
      · decide
      · obtain ⟨i, _, rfl⟩ := List.mem_map.mp hp
        exact TL.numL_free (by decide)]
    have hlen : (numLs (is ++ [(W : Int)])).length = (is ++ [(W : Int)]).length := List.length_map _
    rw [sizesF_yes ⟨rfl, by rw [hlen]; exact g.h0, by rw [hlen]; exact g.h1, List.all_eq_true.mpr fun w hw => by
      obtain ⟨i, hi, rfl⟩ := List.mem_map.mp hw
      have hb := hle i hi
      have ok := num_ok (n := i.toNat) (k := 5) (by decide) (by omega)
      unfold szOk
      rw [ok, Bool.true_and]
      refine decide_eq_true fun z => ?_
      have z2 := (dgV_zero ok).mpr z
      have z3 : dgV (TL.numL i.toNat) = i.toNat := TL.numL_val _
      omega⟩]
    unfold numLs
    rw [List.map_map]
    refine congrArg some ?_
    have : ∀ i ∈ is ++ [(W : Int)], ((fun w => ((dgV w : Nat) : Int)) ∘ fun i : Int => TL.numL i.toNat) i = i := fun i hi => by
      have hb := hle i hi
      show ((dgV (TL.numL i.toNat) : Nat) : Int) = i
      have z3 : dgV (TL.numL i.toNat) = i.toNat := TL.numL_val _
      rw [z3]
      omega
    rw [List.map_congr_left this, List.map_id']
  have hh : headF (rowsT m (is ++ [(W : Int)]) W N cs) = .ok (m, is ++ [(W : Int)]) := by
    unfold rowsT
    simp only [headF, mz, sz]
  unfold rowsF
  rw [hh]
  show tailF m (is ++ [(W : Int)]) ((chunks W N cs).map rowT) = _
  rw [tailF_eq, hN, ← Int.natCast_mul, if_neg (by omega), Int.toNat_natCast, scan_back N 0 [] cs (by omega) fun c hc => by have := g.hc c hc; omega]
  show (if N < ((chunks W N cs).map rowT).length then _ else _) = _
  rw [List.length_map, chunks_len, if_neg (by omega)]
  rfl
end LW
set_option Elab.async false
set_option linter.all false
set_option maxRecDepth 100000
set_option maxHeartbeats 400000
/-! U11: Board.text. -/
namespace LW
open PySem PySem.Spec PyProof.Rows L2 VL
variable {K : PySem.W.Frag} {mg : Str → Option Value} {A : Ad} {Q : TV → Prop} {E : QX}
theorem k_mks : (("marks " : String) : Str) = tx (MARKS ++ [32]) := TL.ext_tl (by decide)
theorem k_pts : (("parts " : String) : Str) = tx (PARTS ++ [32]) := TL.ext_tl (by decide)
theorem strs_numLs (ns : List Int) : (ns.map fun i => pT (TL.numL i.toNat)) = ((numLs ns).map tx).map PyData.str := by
  unfold numLs
  rw [List.map_map, List.map_map]
  rfl
theorem strs_row (cs : List Int) : (cs.map fun c => pT [48 + c.toNat]) = ((rowT cs).map fun c => tx [c]).map PyData.str := by
  unfold rowT
  rw [List.map_map, List.map_map]
  rfl
theorem strs_pT (ls : List (List Nat)) : ls.map pT = (ls.map tx).map PyData.str := by
  rw [List.map_map]
  rfl
theorem join_row (cs : List Int) : Txt.join (("" : String) : Str) ((rowT cs).map fun c => tx [c]) = tx (rowT cs) := by
  have e : ((rowT cs).map fun c => tx [c]) = ((rowT cs).map fun c => [c]).map tx := by
    rw [List.map_map]
    rfl
  rw [k_e, e, join_tx, joinL_one]
theorem join_sp (ls : List (List Nat)) : Txt.join ((" " : String) : Str) (ls.map tx) = tx (TL.joinL [32] ls) := by rw [k_sp, join_tx]
theorem join_nl (ls : List (List Nat)) : Txt.join (("\n" : String) : Str) (ls.map tx) = tx (TL.joinL [10] ls) := by rw [k_nl, join_tx]
theorem row_marks (m : Nat) : (("marks " : String) : Str) ++ (Str.ofString (toString ((m : Nat) : Int))) = tx (TL.joinL [32] [MARKS, TL.numL m]) := by
  rw [k_mks, str_int (by omega), tx_app, Int.toNat_natCast]
  rfl
theorem row_parts {ls : List (List Nat)} (h : ls ≠ []) : (("parts " : String) : Str) ++ tx (TL.joinL [32] ls) = tx (TL.joinL [32] (PARTS :: ls)) := by
  rw [k_pts, tx_app, List.append_assoc]
  cases ls with
  | nil => exact absurd rfl h
  | cons a r => rfl
/-- the element str(number) -/
theorem str_el {i : Int} {R : PyData → Prop} (h0 : 0 ≤ i) (h1 : i < 1000000) (q : R (pT (TL.numL i.toNat))) {ρ : SE} : dStr [.int i] fun tv => ρ = ρ ∧ ∃ y, frz ρ tv = some (y, ρ) ∧ R y :=
  ⟨log_lt (by omega), rfl, .str (Str.ofString (toString i)), rfl, by rw [str_int h0]; exact q⟩
theorem str_dg {i : Int} {R : PyData → Prop} (h0 : 0 ≤ i) (h1 : i < 10) (q : R (pT [48 + i.toNat])) {ρ : SE} : dStr [.int i] fun tv => ρ = ρ ∧ ∃ y, frz ρ tv = some (y, ρ) ∧ R y :=
  str_el h0 (by omega) (by rw [TL.numL_lt (by omega)]; exact q)
def rngW (W : Nat) : Nat → Nat → List PyData
  | _, 0 => []
  | k, n + 1 => .int ((k * W : Nat) : Int) :: rngW W (k + 1) n
theorem rngC_W (W N : Nat) : rngC 0 (W : Int) N = rngW W 0 N := by
  have : ∀ (n k : Nat), (List.range' k n).map (fun (i : Nat) => PyData.int (0 + (i : Nat) * (W : Int))) = rngW W k n := fun n => by
    induction n with
    | zero => exact fun k => rfl
    | succ n ih =>
      intro k
      rw [List.range'_succ, List.map_cons, ih (k + 1), Int.zero_add, ← Int.natCast_mul]
      rfl
  unfold rngC
  rw [List.range_eq_range', this]
abbrev bt_0 (K : PySem.W.Frag) (A : Ad) : SW := wSet 1 (wJoin " " (wLc (.nm 2) [2] (wIt (wFld K "sizes" (wVar 0))) (wYes) (wCB dStr (wCons (wVar 2) wNil))))
abbrev bt_1 (K : PySem.W.Frag) (A : Ad) : SW := wSet 3 (wLst (wCons (wFmt "marks " (wFld K "many" (wVar 0))) (wCons (wFmt "parts " (wVar 1)) wNil)))
abbrev bt_2 (K : PySem.W.Frag) (A : Ad) : SW := wSet 4 (wOp dIx (wFld K "sizes" (wVar 0)) (wNeg (wC (.int 1))))
abbrev bt_3_0 (K : PySem.W.Frag) (A : Ad) : SW := wDrop (wApp (wVar 3) (wJoin "" (wLc (.nm 6) [6] (wIt (wSlS (wFld K "marks" (wVar 0)) (wOSome (wVar 5)) (wOSome (wOp dAdd (wVar 5) (wVar 4))))) (wYes) (wCB dStr (wCons (wVar 6) wNil)))))
abbrev bt_3_b (K : PySem.W.Frag) (A : Ad) : SW := (wSeq (wDrop (wApp (wVar 3) (wJoin "" (wLc (.nm 6) [6] (wIt (wSlS (wFld K "marks" (wVar 0)) (wOSome (wVar 5)) (wOSome (wOp dAdd (wVar 5) (wVar 4))))) (wYes) (wCB dStr (wCons (wVar 6) wNil)))))) (wNext))
abbrev bt_3 (K : PySem.W.Frag) (A : Ad) : SW := wFor (.nm 5) (wRg3 (wCons (wC (.int 0)) (wCons (wCB dLen (wCons (wFld K "marks" (wVar 0)) wNil)) (wCons (wVar 4) wNil)))) (wSeq (wDrop (wApp (wVar 3) (wJoin "" (wLc (.nm 6) [6] (wIt (wSlS (wFld K "marks" (wVar 0)) (wOSome (wVar 5)) (wOSome (wOp dAdd (wVar 5) (wVar 4))))) (wYes) (wCB dStr (wCons (wVar 6) wNil)))))) (wNext))
abbrev bt_4 (K : PySem.W.Frag) (A : Ad) : SW := wRet (wJoin "\n" (wVar 3))
theorem bt_loop (T : Txt K mg A) {m W : Nat} {ns cs : List Int} {s1 s2 : Option SV} {P : Po} (hc : ∀ c ∈ cs, 0 ≤ c ∧ c < 8) (hl : cs.length ≤ 300) : ∀ (n k : Nat) (pre : List (List Nat)) (s5 s6 : Option SV), pre.length + n ≤ 1000 →
    (∀ s5 s6, P.nx [some (.obj A.a_Board (fields m ns cs)), s1, s2, some (.own ((pre ++ (chunks W n (cs.drop (k * W))).map rowT).map pT)), some (.d (.int (W : Nat))), s5, s6]) →
    wLoop (.nm 5) (bt_3_b K A) (rngW W k n) [some (.obj A.a_Board (fields m ns cs)), s1, s2, some (.own (pre.map pT)), some (.d (.int (W : Nat))), s5, s6] P E
  | 0, k, pre, s5, s6, _, h => by
    have := h s5 s6
    rw [show chunks W 0 (cs.drop (k * W)) = [] from rfl, List.map_nil, List.append_nil] at this
    exact this
  | n + 1, k, pre, s5, s6, hn, h => by
    refine ⟨_, rfl, ?_⟩
    refine ⟨3, _, rfl, rfl, A.a_Board, _, .tuple (cs.map .int), rfl, T.cls_Board, T.na_Board _ (by decide), rfl, ((k * W : Nat) : Int), rfl, _, _, rfl, rfl, _, rfl, .tuple (cs.map .int), rfl, _, _, _, rfl, .inr rfl, ?_⟩
    have ec : VL.cutD (cs.map PyData.int) (some ((k * W : Nat) : Int)) (some (((k * W : Nat) : Int) + (W : Nat))) = ((cs.drop (k * W)).take W).map .int := by
      rw [cutD_mid (by omega) (by omega), List.map_take, List.map_drop, Int.toNat_natCast]
      congr 1
      omega
    rw [ec]
    have hrow : ∀ c ∈ (cs.drop (k * W)).take W, 0 ≤ c ∧ c < 8 := fun c hcm => hc c (List.mem_of_mem_drop (List.mem_of_mem_take hcm))
    have hrl : ((cs.drop (k * W)).take W).length ≤ 300 := by rw [List.length_take, List.length_drop]; omega
    have ech : chunks W (n + 1) (cs.drop (k * W)) = (cs.drop (k * W)).take W :: chunks W n (cs.drop ((k + 1) * W)) := by
      rw [Nat.succ_mul, ← List.drop_drop]
      rfl
    rw [ech] at h
    generalize (cs.drop (k * W)).take W = row at hrow hrl h
    refine lc_map (i := 6) (f := fun c : Int => pT [48 + c.toNat]) row [] (by rw [List.length_nil]; omega) (fun c hcm R q => ⟨[.int c], rfl, str_dg (hrow c hcm).1 (by have := hrow c hcm; omega) q⟩) ?_
    rw [List.nil_append, strs_row]
    have hsum : (((rowT row).map fun c => tx [c]).map (·.length)).sum ≤ 300 := by
      have e : ((rowT row).map fun c => tx [c]) = ((rowT row).map fun c => [c]).map tx := by rw [List.map_map]; rfl
      rw [e]
      refine Nat.le_trans (sum_le (M := 1) fun p hp => ?_) ?_
      · obtain ⟨c, _, rfl⟩ := List.mem_map.mp hp
        exact Nat.le_refl _
      · rw [List.length_map, Nat.mul_one]
        unfold rowT
        rw [List.length_map]
        exact hrl
    refine ⟨(rowT row).map fun c => tx [c], .inl rfl, ?_, _, _, _, rfl, rfl, by rw [List.length_map, sizeLine_eq]; omega, ?_⟩
    · have e0 : (("" : String) : Str).length = 0 := by decide
      rw [e0, Nat.mul_zero]
      omega
    · rw [join_row]
      have ih := bt_loop T (m := m) (W := W) (ns := ns) (cs := cs) (s1 := s1) (s2 := s2) (P := P) hc hl n (k + 1) (pre ++ [rowT row]) (some (.d (.int ((k * W : Nat) : Int)))) s6 (by rw [List.length_append, List.length_singleton]; omega) (fun a b => by
        rw [List.append_assoc]
        exact h a b)
      rw [List.map_append] at ih
      exact ih
end LW
set_option Elab.async false
set_option linter.all false
set_option maxRecDepth 100000
set_option maxHeartbeats 400000
/-! U12: Board.text, whole. -/
namespace LW
open PySem PySem.Spec PyProof.Rows L2 VL
variable {K : PySem.W.Frag} {mg : Str → Option Value} {A : Ad} {Q : TV → Prop} {E : QX}
theorem numL_5 {i : Int} (h0 : 0 ≤ i) (h1 : i < 100000) : (TL.numL i.toNat).length ≤ 5 := TL.numL_len (by decide) (by omega)
theorem numLs_5 {ns : List Int} (g : GoodS ns) : ∀ p ∈ numLs ns, p.length ≤ 5 := fun p hp => by
  obtain ⟨i, hi, rfl⟩ := List.mem_map.mp hp
  have := g.le i hi
  exact numL_5 (by omega) (by omega)
theorem row0_len {m : Nat} (h : m ≤ 8) : (TL.joinL [32] [MARKS, TL.numL m]).length = 7 := by
  rw [TL.numL_lt (by omega)]
  rfl
theorem row1_len {ns : List Int} (g : GoodS ns) : (TL.joinL [32] (PARTS :: numLs ns)).length ≤ 54 := by
  have := joinL_len (b := [32]) (M := 5) (ls := PARTS :: numLs ns) fun p hp => by
    rcases List.mem_cons.mp hp with rfl | hp
    · exact Nat.le_refl _
    · exact numLs_5 g p hp
  rw [List.length_cons, show (numLs ns).length = ns.length from List.length_map _, List.length_singleton] at this
  have := g.h1
  omega
theorem rowsT_len {m W N : Nat} {ns cs : List Int} (g : Good (m : Nat) ns cs) (hs : cs.length ≤ 300) : ∀ p ∈ rowsT m ns W N cs, p.length ≤ 300 := fun p hp => by
  have m1 := g.m1
  unfold rowsT at hp
  rcases List.mem_cons.mp hp with rfl | hp
  · rw [row0_len (by omega)]
    decide
  · rcases List.mem_cons.mp hp with rfl | hp
    · exact Nat.le_trans (row1_len g.toGoodS) (by decide)
    · obtain ⟨r, hr, rfl⟩ := List.mem_map.mp hp
      unfold rowT
      rw [List.length_map]
      have : ∀ (N : Nat) (cs : List Int), ∀ r ∈ chunks W N cs, r.length ≤ cs.length := fun N => by
        induction N with
        | zero => intro cs r h; cases h
        | succ n ih =>
          intro cs r h
          unfold chunks at h
          rcases List.mem_cons.mp h with rfl | h
          · rw [List.length_take]; omega
          · have := ih _ r h
            rw [List.length_drop] at this
            omega
      exact Nat.le_trans (this N cs r hr) hs
theorem text_ok {m W N : Nat} {ns cs : List Int} (g : Good (m : Nat) ns cs) (hs : cs.length ≤ 300) (hN : N ≤ 300) : okT 100000 (textF m ns W N cs) := by
  have hr := rowsT_free (m := m) (ns := ns) (W := W) (N := N) (cs := cs) fun c hc => by have := g.hc c hc; have := g.m1; omega
  refine ⟨fun c hc => ?_, ?_⟩
  · rcases mem_joinL hc with h | ⟨p, hp, h⟩
    · rw [List.mem_singleton.mp h]
      decide
    · exact (hr p hp).2 c h
  · have := joinL_len (b := [10]) (M := 300) (ls := rowsT m ns W N cs) (rowsT_len g hs)
    have e : (rowsT m ns W N cs).length = N + 2 := by
      unfold rowsT
      rw [List.length_cons, List.length_cons, List.length_map, chunks_len]
    rw [e, List.length_singleton] at this
    unfold textF
    omega
theorem s_Board_text (T : Txt K mg A) {m W N : Nat} {is cs : List Int} (g : Good (m : Nat) (is ++ [(W : Int)]) cs) (hN : prodF is 1 = (N : Nat)) (hs : cs.length ≤ 300) (h : Q (.d (pT (textF m (is ++ [(W : Int)]) W N cs)))) :
    p_Board_text K A [.obj A.a_Board (fields (m : Nat) (is ++ [(W : Int)]) cs)] Q E := by
  have m0 := g.m0
  have m1 := g.m1
  have hle := g.toGoodS.le
  have h8 := g.h1
  have e3 : prodF (is ++ [(W : Int)]) 1 = prodF is 1 * (W : Int) := prodF_appL is [(W : Int)] 1
  have hcl := g.hl
  rw [e3, hN, ← Int.natCast_mul] at hcl
  have hcl' : cs.length = N * W := by omega
  have hW := hle W (List.mem_append_right _ (List.mem_singleton.mpr rfl))
  have hN3 : N ≤ 300 := Nat.le_trans (Nat.le_mul_of_pos_right N (by omega : 0 < W)) (by omega)
  have hc8 : ∀ c ∈ cs, 0 ≤ c ∧ c < 8 := fun c hc => by have := g.hc c hc; omega
  have ne : numLs (is ++ [(W : Int)]) ≠ [] := by unfold numLs; simp
  refine ⟨rfl, A.a_Board, _, .tuple ((is ++ [(W : Int)]).map .int), rfl, T.cls_Board, T.na_Board _ (by decide), rfl, _, _, _, rfl, .inr rfl, ?_⟩
  refine lc_map (i := 2) (f := fun i : Int => pT (TL.numL i.toNat)) (is ++ [(W : Int)]) [] (by rw [List.length_nil]; omega) (fun i hi R q => ⟨[.int i], rfl, str_el (by have := hle i hi; omega) (by have := hle i hi; omega) q⟩) ?_
  rw [List.nil_append, strs_numLs]
  have hsum : (((numLs (is ++ [(W : Int)])).map tx).map (·.length)).sum ≤ 40 := by
    refine Nat.le_trans (sum_le (numLs_5 g.toGoodS)) ?_
    rw [show (numLs (is ++ [(W : Int)])).length = (is ++ [(W : Int)]).length from List.length_map _]
    omega
  refine ⟨(numLs (is ++ [(W : Int)])).map tx, .inl rfl, ?_, _, _, rfl, ?_⟩
  · have e0 : ((" " : String) : Str).length = 1 := by decide
    rw [e0, List.length_map, show (numLs (is ++ [(W : Int)])).length = (is ++ [(W : Int)]).length from List.length_map _]
    omega
  · rw [join_sp]
    have r0 := row_marks m
    have r1 := row_parts ne
    have hr1 := row1_len g.toGoodS
    have l1 : (tx (TL.joinL [32] (numLs (is ++ [(W : Int)])))).length ≤ sizeLine := by
      rw [tx_len, sizeLine_eq]
      have := joinL_len (b := [32]) (M := 5) (numLs_5 g.toGoodS)
      rw [show (numLs (is ++ [(W : Int)])).length = (is ++ [(W : Int)]).length from List.length_map _, List.length_singleton] at this
      omega
    refine ⟨by rw [sizeLine_eq]; decide, A.a_Board, _, .int (m : Nat), rfl, T.cls_Board, T.na_Board _ (by decide), rfl, .inr ⟨(m : Nat), rfl, log_lt (by omega), by rw [r0, tx_len, row0_len (by omega), sizeLine_eq]; decide, ?_⟩⟩
    refine ⟨by rw [sizeLine_eq]; decide, .inl ⟨_, rfl, l1, by rw [r1, tx_len, sizeLine_eq]; omega, ?_⟩⟩
    refine ⟨_, _, rfl, sz (n := 2) rfl (by decide), _, _, rfl, ?_⟩
    rw [r0, r1]
    refine ⟨A.a_Board, _, .tuple ((is ++ [(W : Int)]).map .int), rfl, T.cls_Board, T.na_Board _ (by decide), rfl, 1, rfl, _, _, rfl, rfl, _, at_neg PyData.int is (W : Int), _, _, rfl, ?_⟩
    refine ⟨A.a_Board, _, .tuple (cs.map .int), rfl, T.cls_Board, T.na_Board _ (by decide), rfl, [.tuple _], rfl, 0, (((cs.map PyData.int).length : Nat) : Int), (W : Int), N, rfl, by rw [List.length_map, hcl']; exact rgc_up (by omega) (by omega) (by omega), ?_⟩
    rw [rngC_W]
    refine bt_loop (K := K) (A := A) T (m := m) (W := W) (ns := is ++ [(W : Int)]) (cs := cs) hc8 hs N 0 [TL.joinL [32] [MARKS, TL.numL m], TL.joinL [32] (PARTS :: numLs (is ++ [(W : Int)]))] none none (by show 2 + N ≤ 1000; omega) fun s5 s6 => ?_
    have er : [TL.joinL [32] [MARKS, TL.numL m], TL.joinL [32] (PARTS :: numLs (is ++ [(W : Int)]))] ++ (chunks W N (cs.drop (0 * W))).map rowT = rowsT m (is ++ [(W : Int)]) W N cs := by
      rw [Nat.zero_mul, List.drop_zero]
      rfl
    rw [er, strs_pT]
    refine ⟨(rowsT m (is ++ [(W : Int)]) W N cs).map tx, .inl rfl, ?_, _, rfl, ?_⟩
    · have h1 := sum_le (rowsT_len (W := W) (N := N) g hs)
      have e : (rowsT m (is ++ [(W : Int)]) W N cs).length = N + 2 := by
        unfold rowsT
        rw [List.length_cons, List.length_cons, List.length_map, chunks_len]
      have e0 : (("\n" : String) : Str).length = 1 := by decide
      rw [e0, List.length_map]
      rw [e] at h1 ⊢
      omega
    · rw [join_nl]
      exact h
end LW
set_option Elab.async false
set_option linter.all false
set_option maxRecDepth 100000
set_option maxHeartbeats 400000
/-! U13: texts spoilt. -/
namespace LW
open PySem PySem.Spec PyProof.Rows L2 VL
variable {K : PySem.W.Frag} {mg : Str → Option Value} {A : Ad} {Q : TV → Prop} {E : QX}
def tot (ls : List (List Nat)) : Nat := (ls.map List.length).sum + ls.length
theorem tot_app (a b : List (List Nat)) : tot (a ++ b) = tot a + tot b := by
  unfold tot
  rw [List.map_append, List.sum_append, List.length_append]
  omega
theorem tot_cons (p : List Nat) (b : List (List Nat)) : tot (p :: b) = p.length + 1 + tot b := by
  unfold tot
  rw [List.map_cons, List.sum_cons, List.length_cons]
  omega
theorem tot_take (k : Nat) (ls : List (List Nat)) : tot (ls.take k) ≤ tot ls ∧ tot (ls.drop k) ≤ tot ls := by
  have := tot_app (ls.take k) (ls.drop k)
  rw [List.take_append_drop] at this
  omega
theorem tot_cutD (ls : List (List Nat)) (lo hi : Option Int) : tot (VL.cutD ls lo hi) ≤ tot ls := by
  unfold VL.cutD
  exact Nat.le_trans (tot_take _ _).1 (tot_take _ _).2
theorem tot_mem {p : List Nat} : ∀ {ls : List (List Nat)}, p ∈ ls → p.length + 1 ≤ tot ls
  | q :: ls, h => by
    rw [tot_cons]
    rcases List.mem_cons.mp h with rfl | h
    · omega
    · have := tot_mem h
      omega
theorem tot_cut (s : Nat) : ∀ (l acc : List Nat), tot (cut s acc l) ≤ acc.length + l.length + 1
  | [], acc => by
    unfold cut
    rw [tot_cons]
    show _ + 1 + 0 ≤ _
    omega
  | c :: r, acc => by
    unfold cut
    split
    · have := tot_cut s r []
      rw [tot_cons, List.length_cons]
      rw [List.length_nil] at this
      omega
    · have := tot_cut s r (acc ++ [c])
      rw [List.length_append, List.length_singleton] at this
      rw [List.length_cons]
      omega
theorem joinL_tot : ∀ ls : List (List Nat), (TL.joinL [10] ls).length ≤ tot ls
  | [] => Nat.zero_le _
  | [p] => by
    rw [tot_cons]
    show p.length ≤ _
    omega
  | p :: q :: r => by
    have ih := joinL_tot (q :: r)
    rw [tot_cons]
    show (p ++ ([10] ++ TL.joinL [10] (q :: r))).length ≤ _
    rw [List.length_append, List.length_append, List.length_singleton]
    omega
theorem lens_eq : ∀ ls : List (List Nat), ((ls.map tx).map (·.length)).sum + ls.length = tot ls
  | [] => rfl
  | p :: r => by
    have ih := lens_eq r
    rw [tot_cons, List.map_cons, List.map_cons, List.sum_cons, List.length_cons, tx_len]
    omega
structure okR (n : Nat) (ls : List (List Nat)) : Prop where
  ok : ∀ p ∈ ls, okL p
  tt : tot ls ≤ n
theorem okR.join {n : Nat} {ls : List (List Nat)} (h : okR n ls) : okT n (TL.joinL [10] ls) := ⟨fun c hc => by
  rcases mem_joinL hc with h1 | ⟨p, hp, h1⟩
  · rw [List.mem_singleton.mp h1]
    decide
  · exact h.ok p hp c h1, Nat.le_trans (joinL_tot ls) h.tt⟩
theorem okR.app {n m k : Nat} {a b : List (List Nat)} (h1 : okR n a) (h2 : okR m b) (hk : n + m ≤ k) : okR k (a ++ b) := ⟨fun p hp => (List.mem_append.mp hp).elim (h1.ok p) (h2.ok p), by rw [tot_app]; have := h1.tt; have := h2.tt; omega⟩
theorem okR.cutD {n : Nat} {a : List (List Nat)} (h : okR n a) (lo hi : Option Int) : okR n (VL.cutD a lo hi) := ⟨fun p hp => h.ok p (cutD_mem hp), Nat.le_trans (tot_cutD a lo hi) h.tt⟩
theorem okR.one {n : Nat} {p : List Nat} (h : okT n p) : okR (n + 1) [p] := ⟨fun q hq => by rw [List.mem_singleton.mp hq]; exact h.ok, by rw [tot_cons]; have := h.len; show _ + 1 + 0 ≤ _; omega⟩
theorem okR.mem {n : Nat} {p : List Nat} {ls : List (List Nat)} (h : okR n ls) (hp : p ∈ ls) : okT n p := ⟨h.ok p hp, by have := tot_mem hp; have := h.tt; omega⟩
theorem okT.cutD {n : Nat} {l : List Nat} (h : okT n l) (lo hi : Option Int) : okT n (VL.cutD l lo hi) := ⟨fun c hc => h.ok c (cutD_mem hc), Nat.le_trans cutD_le h.len⟩
theorem okT.app {n m k : Nat} {a b : List Nat} (h1 : okT n a) (h2 : okT m b) (hk : n + m ≤ k) : okT k (a ++ b) := ⟨fun c hc => (List.mem_append.mp hc).elim (h1.ok c) (h2.ok c), by rw [List.length_append]; have := h1.len; have := h2.len; omega⟩
theorem add_tx {n m : Nat} {x y : List Nat} {R : TV → Prop} (h1 : okT n x) (h2 : okT m y) (hl : n + m ≤ 10000000) (r : R (.d (pT (x ++ y)))) : dAdd (pT x) (pT y) R :=
  ⟨by show (tx x).length + (tx y).length ≤ sizeLine; rw [tx_len, tx_len, sizeLine_eq]; have := h1.len; have := h2.len; omega, by rw [tx_app]; exact r⟩
theorem cutD_map {α β : Type} (f : α → β) (xs : List α) (lo hi : Option Int) : VL.cutD (xs.map f) lo hi = (VL.cutD xs lo hi).map f := by
  unfold VL.cutD
  rw [List.length_map, ← List.map_drop, ← List.map_take]
theorem tot_len (ls : List (List Nat)) : ls.length ≤ tot ls := by unfold tot; omega
theorem fin_join {ls : List (List Nat)} {xs : List PyData} {ρ : SE} {R : TV → Prop} (e : xs = ls.map pT) (ht : tot ls ≤ 1000000) (r : R (.d (pT (TL.joinL [10] ls)))) :
    ∃ ys : List Str, (res ρ (.fresh xs) = some (.list (ys.map .str)) ∨ res ρ (.fresh xs) = some (.tuple (ys.map .str))) ∧ (ys.map (·.length)).sum + ys.length * (("\n" : String) : Str).length ≤ 16777216 ∧ ∃ tv', outT ρ (.d (.str (Txt.join ("\n" : String) ys))) = some tv' ∧ R tv' := by
  refine ⟨ls.map tx, .inl (by rw [e, strs_pT]; rfl), ?_, _, rfl, ?_⟩
  · have e0 : (("\n" : String) : Str).length = 1 := by decide
    have := lens_eq ls
    rw [e0, List.length_map]
    omega
  · rw [join_nl]
    exact r
/-- one of some short texts -/
theorem pick_str {cs : List Str} {x : PyData} {j : Nat} (h : (cs.map PyData.str)[j]? = some x) (ok : (cs.all fun c => c.cps.toList.all (fun d => decide (d < 1114112)) && decide (c.cps.size ≤ 40)) = true) : ∃ s, x = pT s ∧ okT 40 s := by
  obtain ⟨c, hc, rfl⟩ := List.mem_map.mp (List.mem_of_getElem? h)
  have := List.all_eq_true.mp ok c hc
  rw [Bool.and_eq_true, decide_eq_true_eq] at this
  refine ⟨TL.tl c, congrArg PyData.str (tx_tl c).symm, fun d hd => of_decide_eq_true (List.all_eq_true.mp this.1 d hd), ?_⟩
  show c.cps.toList.length ≤ 40
  rw [Array.length_toList]
  exact this.2
def spS (l : List Nat) (f a : Int) (s : List Nat) (rows : List (List Nat)) (r : Int) : SE := [some (.deal 1), some (.d (pT l)), some (.d (.int f)), some (.d (.int a)), some (.d (pT s)), some (.own (rows.map pT)), some (.d (.int r)), none]
abbrev sp_0 (K : PySem.W.Frag) (A : Ad) : SW := wPar 2 3 (wCall (p_law_take K A) (wCons (wVar 0) (wCons (wC (.int 10)) wNil))) (wCall (p_law_take K A) (wCons (wVar 0) (wCons (wCB dLen (wCons (wVar 1) wNil)) wNil)))
abbrev sp_1 (K : PySem.W.Frag) (A : Ad) : SW := wSet 4 (wCallG (p_law_pick K A) (wCons (wVar 0) (wCons (wLst (wCons (wC (.str "0")) (wCons (wC (.str "1")) (wCons (wC (.str "7")) (wCons (wC (.str "8")) (wCons (wC (.str "9")) (wCons (wC (.str " ")) (wCons (wC (.str "\n")) (wCons (wC (.str "-")) (wCons (wC (.str "+")) (wCons (wC (.str "a")) (wCons (wC (.str "m")) (wCons (wC (.str "s")) (wCons (wC (.str "_")) wNil)))))))))))))) wNil)))
abbrev sp_2 (K : PySem.W.Frag) (A : Ad) : SW := wSet 5 (wSplit "\n" (wVar 1))
abbrev sp_3 (K : PySem.W.Frag) (A : Ad) : SW := wSet 6 (wCall (p_law_take K A) (wCons (wVar 0) (wCons (wCB dLen (wCons (wVar 5) wNil)) wNil)))
abbrev sp_4 (K : PySem.W.Frag) (A : Ad) : SW := wIfS (wTst (wOp dEq (wVar 2) (wC (.int 0)))) (wSeq (wRet (wOp dAdd (wSlS (wVar 1) (wONone) (wOSome (wVar 3))) (wSlS (wVar 1) (wOSome (wOp dAdd (wVar 3) (wC (.int 1)))) (wONone)))) (wNext)) (wNext)
abbrev sp_5 (K : PySem.W.Frag) (A : Ad) : SW := wIfS (wTst (wOp dEq (wVar 2) (wC (.int 1)))) (wSeq (wRet (wOp dAdd (wOp dAdd (wSlS (wVar 1) (wONone) (wOSome (wVar 3))) (wVar 4)) (wSlS (wVar 1) (wOSome (wVar 3)) (wONone)))) (wNext)) (wNext)
abbrev sp_6 (K : PySem.W.Frag) (A : Ad) : SW := wIfS (wOr (wTst (wOp dEq (wVar 2) (wC (.int 2)))) (wTst (wOp dEq (wVar 2) (wC (.int 3))))) (wSeq (wRet (wOp dAdd (wOp dAdd (wSlS (wVar 1) (wONone) (wOSome (wVar 3))) (wVar 4)) (wSlS (wVar 1) (wOSome (wOp dAdd (wVar 3) (wC (.int 1)))) (wONone)))) (wNext)) (wNext)
abbrev sp_7 (K : PySem.W.Frag) (A : Ad) : SW := wIfS (wTst (wOp dEq (wVar 2) (wC (.int 4)))) (wSeq (wRet (wJoin "\n" (wOp dAdd (wSlS (wVar 5) (wONone) (wOSome (wVar 6))) (wSlS (wVar 5) (wOSome (wOp dAdd (wVar 6) (wC (.int 1)))) (wONone))))) (wNext)) (wNext)
abbrev sp_8 (K : PySem.W.Frag) (A : Ad) : SW := wIfS (wTst (wOp dEq (wVar 2) (wC (.int 5)))) (wSeq (wRet (wJoin "\n" (wOp dAdd (wOp dAdd (wSlS (wVar 5) (wONone) (wOSome (wVar 6))) (wLst (wCons (wOp dIx (wVar 5) (wVar 6)) wNil))) (wSlS (wVar 5) (wOSome (wVar 6)) (wONone))))) (wNext)) (wNext)
abbrev sp_9 (K : PySem.W.Frag) (A : Ad) : SW := wIfS (wTst (wOp dEq (wVar 2) (wC (.int 6)))) (wSeq (wRet (wJoin "\n" (wOp dAdd (wLst (wCons (wCallG (p_law_pick K A) (wCons (wVar 0) (wCons (wLst (wCons (wC (.str "marks 9")) (wCons (wC (.str "marks 1")) (wCons (wC (.str "marks 08")) (wCons (wC (.str "marks")) (wCons (wC (.str "marks 8")) (wCons (wC (.str "mark 3")) (wCons (wC (.str "")) wNil)))))))) wNil))) wNil)) (wSlS (wVar 5) (wOSome (wC (.int 1))) (wONone))))) (wNext)) (wNext)
abbrev sp_10 (K : PySem.W.Frag) (A : Ad) : SW := wIfS (wTst (wOp dEq (wVar 2) (wC (.int 7)))) (wSeq (wSet 7 (wLst (wCons (wC (.str "parts")) (wCons (wC (.str "parts 0")) (wCons (wC (.str "parts 2 03")) (wCons (wC (.str "parts 20 1001")) (wCons (wC (.str "parts 100000")) (wCons (wC (.str "parts 1 1 1 1 1 1 1 1 1")) (wCons (wC (.str "parts 20001 x")) (wCons (wC (.str "")) wNil)))))))))) (wSeq (wRet (wJoin "\n" (wOp dAdd (wLst (wCons (wOp dIx (wVar 5) (wC (.int 0))) (wCons (wCallG (p_law_pick K A) (wCons (wVar 0) (wCons (wVar 7) wNil))) wNil))) (wSlS (wVar 5) (wOSome (wC (.int 2))) (wONone))))) (wNext))) (wNext)
abbrev sp_11 (K : PySem.W.Frag) (A : Ad) : SW := wIfS (wTst (wOp dEq (wVar 2) (wC (.int 8)))) (wSeq (wRet (wOp dAdd (wVar 1) (wCallG (p_law_pick K A) (wCons (wVar 0) (wCons (wLst (wCons (wC (.str "\n")) (wCons (wC (.str " ")) (wCons (wC (.str "\n0")) (wCons (wC (.str "0")) (wCons (wC (.str "")) wNil)))))) wNil))))) (wNext)) (wNext)
abbrev sp_12 (K : PySem.W.Frag) (A : Ad) : SW := wRet (wJoin "\n" (wSlS (wVar 5) (wONone) (wOSome (wVar 6))))
section
variable {n : Nat} {l s : List Nat} {f a r : Int} {rows : List (List Nat)} {P : Po}
theorem sp4 (hl : okT n l) (hn : n ≤ 100000) (no : P.nx (spS l f a s rows r)) (h : ∀ l', okT (3 * n + 100) l' → P.rt (.d (pT l'))) : sp_4 K A (spS l f a s rows r) P E := by
  have z := tx_sz hl (by omega)
  refine ⟨_, _, rfl, rfl, deq_int ⟨_, rfl, ?_⟩⟩
  by_cases hf : f = 0
  · rw [decide_eq_true hf]
    exact ⟨a, rfl, pT l, rfl, z, _, _, rfl, rfl, a + 1, rfl, pT l, rfl, z, _, _, rfl, rfl, add_tx (x := VL.cutD l none (some a)) (y := VL.cutD l (some (a + 1)) none) (hl.cutD _ _) (hl.cutD _ _) (by omega) ⟨_, rfl, h _ ((hl.cutD _ _).app (hl.cutD _ _) (by omega))⟩⟩
  · rw [decide_eq_false hf]
    exact no
theorem sp5 (hl : okT n l) (hs : okT 40 s) (hn : n ≤ 100000) (no : P.nx (spS l f a s rows r)) (h : ∀ l', okT (3 * n + 100) l' → P.rt (.d (pT l'))) : sp_5 K A (spS l f a s rows r) P E := by
  have z := tx_sz hl (by omega)
  refine ⟨_, _, rfl, rfl, deq_int ⟨_, rfl, ?_⟩⟩
  by_cases hf : f = 1
  · rw [decide_eq_true hf]
    have o1 : okT (n + 40) (VL.cutD l none (some a) ++ s) := (hl.cutD _ _).app hs (by omega)
    exact ⟨a, rfl, pT l, rfl, z, _, _, rfl, rfl, add_tx (x := VL.cutD l none (some a)) (y := s) (hl.cutD _ _) hs (by omega) ⟨a, rfl, pT l, rfl, z, _, _, rfl, rfl, add_tx (x := VL.cutD l none (some a) ++ s) (y := VL.cutD l (some a) none) o1 (hl.cutD _ _) (by omega) ⟨_, rfl, h _ (o1.app (hl.cutD _ _) (by omega))⟩⟩⟩
  · rw [decide_eq_false hf]
    exact no
theorem sp6 (hl : okT n l) (hs : okT 40 s) (hn : n ≤ 100000) (no : P.nx (spS l f a s rows r)) (h : ∀ l', okT (3 * n + 100) l' → P.rt (.d (pT l'))) : sp_6 K A (spS l f a s rows r) P E := by
  have z := tx_sz hl (by omega)
  have o1 : okT (n + 40) (VL.cutD l none (some a) ++ s) := (hl.cutD _ _).app hs (by omega)
  have yes : ∃ (i : Int), res (spS l f a s rows r) (.d (.int a)) = some (.int i) ∧ True := ⟨a, rfl, trivial⟩
  refine ⟨_, _, rfl, rfl, deq_int ⟨_, rfl, ?_⟩⟩
  by_cases hf : f = 2
  · rw [decide_eq_true hf]
    exact ⟨a, rfl, pT l, rfl, z, _, _, rfl, rfl, add_tx (x := VL.cutD l none (some a)) (y := s) (hl.cutD _ _) hs (by omega) ⟨_, _, rfl, rfl, a + 1, rfl, pT l, rfl, z, _, _, rfl, rfl, add_tx (x := VL.cutD l none (some a) ++ s) (y := VL.cutD l (some (a + 1)) none) o1 (hl.cutD _ _) (by omega) ⟨_, rfl, h _ (o1.app (hl.cutD _ _) (by omega))⟩⟩⟩
  · rw [decide_eq_false hf]
    refine ⟨_, _, rfl, rfl, deq_int ⟨_, rfl, ?_⟩⟩
    by_cases hf : f = 3
    · rw [decide_eq_true hf]
      exact ⟨a, rfl, pT l, rfl, z, _, _, rfl, rfl, add_tx (x := VL.cutD l none (some a)) (y := s) (hl.cutD _ _) hs (by omega) ⟨_, _, rfl, rfl, a + 1, rfl, pT l, rfl, z, _, _, rfl, rfl, add_tx (x := VL.cutD l none (some a) ++ s) (y := VL.cutD l (some (a + 1)) none) o1 (hl.cutD _ _) (by omega) ⟨_, rfl, h _ (o1.app (hl.cutD _ _) (by omega))⟩⟩⟩
    · rw [decide_eq_false hf]
      exact no
theorem sp7 (hr : okR (n + 1) rows) (hn : n ≤ 100000) (no : P.nx (spS l f a s rows r)) (h : ∀ l', okT (3 * n + 100) l' → P.rt (.d (pT l'))) : sp_7 K A (spS l f a s rows r) P E := by
  have hrl := Nat.le_trans (tot_len rows) hr.tt
  refine ⟨_, _, rfl, rfl, deq_int ⟨_, rfl, ?_⟩⟩
  by_cases hf : f = 4
  · rw [decide_eq_true hf]
    have o : okR (3 * n + 100) (VL.cutD rows none (some r) ++ VL.cutD rows (some (r + 1)) none) := (hr.cutD _ _).app (hr.cutD _ _) (by omega)
    refine ⟨r, rfl, .list _, rfl, _, _, rfl, rfl, r + 1, rfl, .list _, rfl, _, _, rfl, rfl, ?_, fin_join (ls := VL.cutD rows none (some r) ++ VL.cutD rows (some (r + 1)) none) (by rw [cutD_map, cutD_map, List.map_append]) (by have := o.tt; omega) (h _ o.join)⟩
    have c1 : (VL.cutD (rows.map pT) none (some r)).length ≤ (rows.map pT).length := cutD_le
    have c2 : (VL.cutD (rows.map pT) (some (r + 1)) none).length ≤ (rows.map pT).length := cutD_le
    rw [List.length_map] at c1 c2
    show (VL.cutD (rows.map pT) none (some r)).length + (VL.cutD (rows.map pT) (some (r + 1)) none).length ≤ sizeLine
    rw [sizeLine_eq]
    omega
  · rw [decide_eq_false hf]
    exact no
theorem sp8 (hr : okR (n + 1) rows) (hn : n ≤ 100000) (r0 : 0 ≤ r) (r1 : r < (rows.length : Nat)) (no : P.nx (spS l f a s rows r)) (h : ∀ l', okT (3 * n + 100) l' → P.rt (.d (pT l'))) : sp_8 K A (spS l f a s rows r) P E := by
  have hrl := Nat.le_trans (tot_len rows) hr.tt
  refine ⟨_, _, rfl, rfl, deq_int ⟨_, rfl, ?_⟩⟩
  by_cases hf : f = 5
  · rw [decide_eq_true hf]
    obtain ⟨k, rfl⟩ := Int.eq_ofNat_of_zero_le r0
    have hk : k < rows.length := by omega
    have ek : rows[k]? = some rows[k] := List.getElem?_eq_getElem hk
    have ea : L2.atI (rows.map pT) ((k : Nat) : Int) = some (pT rows[k]) := atI_nat (by rw [List.getElem?_map, ek]; rfl)
    have ok1 : okR (n + 2) [rows[k]] := okR.one (hr.mem (List.getElem_mem hk))
    generalize rows[k] = p at ea ok1
    have o : okR (3 * n + 100) (VL.cutD rows none (some (k : Int)) ++ [p] ++ VL.cutD rows (some (k : Int)) none) := ((hr.cutD none (some (k : Int))).app ok1 (Nat.le_refl _)).app (hr.cutD (some (k : Int)) none) (by omega)
    have c1 : (VL.cutD (rows.map pT) none (some (k : Int))).length ≤ (rows.map pT).length := cutD_le
    have c2 : (VL.cutD (rows.map pT) (some (k : Int)) none).length ≤ (rows.map pT).length := cutD_le
    rw [List.length_map] at c1 c2
    refine ⟨(k : Int), rfl, .list _, rfl, _, _, rfl, rfl, _, ea, _, _, rfl, sz (n := 1) rfl (by decide), _, _, rfl, rfl, ?_, ?_⟩
    · show (VL.cutD (rows.map pT) none (some (k : Int))).length + 1 ≤ sizeLine
      rw [sizeLine_eq]
      omega
    · refine ⟨(k : Int), rfl, .list _, rfl, _, _, rfl, rfl, ?_, fin_join (ls := VL.cutD rows none (some (k : Int)) ++ [p] ++ VL.cutD rows (some (k : Int)) none) (by rw [cutD_map, cutD_map, List.map_append, List.map_append]; rfl) (by have := o.tt; omega) (h _ o.join)⟩
      show (VL.cutD (rows.map pT) none (some (k : Int)) ++ [pT p]).length + (VL.cutD (rows.map pT) (some (k : Int)) none).length ≤ sizeLine
      rw [List.length_append, List.length_singleton, sizeLine_eq]
      omega
  · rw [decide_eq_false hf]
    exact no
end
end LW
set_option Elab.async false
set_option linter.all false
set_option maxRecDepth 100000
set_option maxHeartbeats 400000
/-! U14: texts spoilt, whole. -/
namespace LW
open PySem PySem.Spec PyProof.Rows L2 VL
variable {K : PySem.W.Frag} {mg : Str → Option Value} {A : Ad} {Q : TV → Prop} {E : QX}
section
variable {n : Nat} {l s : List Nat} {f a r : Int} {rows : List (List Nat)} {P : Po}
theorem cut_sz (hr : okR (n + 1) rows) (hn : n ≤ 100000) (k : Nat) (hk : k ≤ 10) (lo hi : Option Int) : k + (VL.cutD (rows.map pT) lo hi).length ≤ sizeLine := by
  have hrl := Nat.le_trans (tot_len rows) hr.tt
  have c2 : (VL.cutD (rows.map pT) lo hi).length ≤ (rows.map pT).length := cutD_le
  rw [List.length_map] at c2
  rw [sizeLine_eq]
  omega
theorem sp9 (hr : okR (n + 1) rows) (hn : n ≤ 100000) (no : P.nx (spS l f a s rows r)) (h : ∀ l', okT (3 * n + 100) l' → P.rt (.d (pT l'))) : sp_9 K A (spS l f a s rows r) P E := by
  refine ⟨_, _, rfl, rfl, deq_int ⟨_, rfl, ?_⟩⟩
  by_cases hf : f = 6
  · rw [decide_eq_true hf]
    refine ⟨_, _, rfl, sz (n := 7) rfl (by decide), [.deal 1, .d (.list _)], _, rfl, s_law_pick (by decide) (by decide) fun j x hx => ?_⟩
    obtain ⟨p, rfl, okp⟩ := pick_str (cs := ["marks 9", "marks 1", "marks 08", "marks", "marks 8", "mark 3", ""]) hx (by decide)
    have o : okR (3 * n + 100) ([p] ++ VL.cutD rows (some 1) none) := (okR.one okp).app (hr.cutD _ _) (by omega)
    exact ⟨_, _, rfl, sz (n := 1) rfl (by decide), 1, rfl, .list _, rfl, _, _, rfl, rfl, cut_sz hr hn 1 (by decide) (some 1) none, fin_join (ls := [p] ++ VL.cutD rows (some 1) none) (by rw [cutD_map]; rfl) (by have := o.tt; omega) (h _ o.join)⟩
  · rw [decide_eq_false hf]
    exact no
theorem sp10 (hr : okR (n + 1) rows) (hn : n ≤ 100000) (h0 : rows ≠ []) (no : P.nx (spS l f a s rows r)) (h : ∀ l', okT (3 * n + 100) l' → P.rt (.d (pT l'))) : sp_10 K A (spS l f a s rows r) P E := by
  refine ⟨_, _, rfl, rfl, deq_int ⟨_, rfl, ?_⟩⟩
  by_cases hf : f = 7
  · rw [decide_eq_true hf]
    cases rows with
    | nil => exact absurd rfl h0
    | cons r0 rs =>
      refine ⟨_, _, rfl, sz (n := 8) rfl (by decide), _, _, rfl, _, _, rfl, rfl, _, at_0 pT r0 rs, [.deal 1, .d (.list _)], _, rfl, s_law_pick (by decide) (by decide) fun j x hx => ?_⟩
      obtain ⟨p, rfl, okp⟩ := pick_str (cs := ["parts", "parts 0", "parts 2 03", "parts 20 1001", "parts 100000", "parts 1 1 1 1 1 1 1 1 1", "parts 20001 x", ""]) hx (by decide)
      have o : okR (3 * n + 100) ([r0, p] ++ VL.cutD (r0 :: rs) (some 2) none) := okR.app (okR.app (okR.one (hr.mem List.mem_cons_self)) (okR.one okp) (Nat.le_refl _)) (hr.cutD _ _) (by omega)
      exact ⟨_, _, rfl, sz (n := 2) rfl (by decide), 2, rfl, .list _, rfl, _, _, rfl, rfl, cut_sz hr hn 2 (by decide) (some 2) none, fin_join (ls := [r0, p] ++ VL.cutD (r0 :: rs) (some 2) none) (by rw [cutD_map]; rfl) (by have := o.tt; omega) (h _ o.join)⟩
  · rw [decide_eq_false hf]
    exact no
theorem sp11 (hl : okT n l) (hn : n ≤ 100000) (no : P.nx (spS l f a s rows r)) (h : ∀ l', okT (3 * n + 100) l' → P.rt (.d (pT l'))) : sp_11 K A (spS l f a s rows r) P E := by
  refine ⟨_, _, rfl, rfl, deq_int ⟨_, rfl, ?_⟩⟩
  by_cases hf : f = 8
  · rw [decide_eq_true hf]
    refine ⟨_, _, rfl, sz (n := 5) rfl (by decide), [.deal 1, .d (.list _)], _, rfl, s_law_pick (by decide) (by decide) fun j x hx => ?_⟩
    obtain ⟨p, rfl, okp⟩ := pick_str (cs := ["\n", " ", "\n0", "0", ""]) hx (by decide)
    exact ⟨_, _, rfl, rfl, add_tx (x := l) (y := p) hl okp (by omega) ⟨_, rfl, h _ (hl.app okp (by omega))⟩⟩
  · rw [decide_eq_false hf]
    exact no
theorem sp12 (hr : okR (n + 1) rows) (hn : n ≤ 100000) (h : ∀ l', okT (3 * n + 100) l' → P.rt (.d (pT l'))) : sp_12 K A (spS l f a s rows r) P E := by
  have o : okR (n + 1) (VL.cutD rows none (some r)) := hr.cutD _ _
  exact ⟨r, rfl, .list _, rfl, fin_join (ls := VL.cutD rows none (some r)) (by rw [cutD_map]) (by have := o.tt; omega) (h _ (o.join.mono (by omega)))⟩
end
theorem s_law_spoilt {n : Nat} {l : List Nat} (hl : okT n l) (h0 : l ≠ []) (hn : n ≤ 100000) (h : ∀ l', okT (3 * n + 100) l' → Q (.d (pT l'))) : p_law_spoilt K A [.deal 1, .d (pT l)] Q E := by
  have z := tx_sz hl (by omega)
  have hlen := hl.len
  have hpos : 0 < l.length := List.length_pos_iff.mpr h0
  refine ⟨rfl, [.deal 1, .d (.int 10)], rfl, s_law_take (by decide) (by decide) fun f f0 f1 => ⟨rfl, [pT l], rfl, z, [.deal 1, .d (.int _)], rfl, s_law_take (by rw [tx_len]; omega) (by rw [tx_len]; omega) fun a a0 a1 => ⟨rfl, _, _, (fun _ z => by cases z), (fun _ z => by cases z), rfl, rfl, ?_⟩⟩⟩
  refine ⟨_, _, rfl, sz (n := 13) rfl (by decide), [.deal 1, .d (.list _)], _, rfl, s_law_pick (by decide) (by decide) fun j x hx => ?_⟩
  obtain ⟨s, rfl, oks⟩ := pick_str (cs := ["0", "1", "7", "8", "9", " ", "\n", "-", "+", "a", "m", "s", "_"]) hx (by decide)
  refine ⟨_, _, rfl, tx l, rfl, by rw [tx_len, sizeLine_eq]; omega, _, _, rfl, ?_⟩
  rw [split_map k_nl (by decide)]
  have ne := cut_ne 10 l []
  have hr : okR (n + 1) (cut 10 [] l) := ⟨fun p hp => (hl.cut p hp).ok, Nat.le_trans (tot_cut 10 l []) (by rw [List.length_nil]; omega)⟩
  have hrl := Nat.le_trans (tot_len _) hr.tt
  generalize cut 10 [] l = rows at ne hr hrl
  have hrp : 0 < rows.length := List.length_pos_iff.mpr ne
  refine ⟨[.list _], rfl, [.deal 1, .d (.int _)], rfl, s_law_take (by rw [List.length_map]; omega) (by rw [List.length_map]; omega) fun r r0 r1 => ⟨rfl, _, _, rfl, ?_⟩⟩
  rw [List.length_map] at r1
  refine seq_i (sp4 (K := K) (A := A) (l := l) (f := f) (a := a) (s := s) (rows := rows) (r := r) hl hn ?_ h)
  refine seq_i (sp5 (K := K) (A := A) (l := l) (f := f) (a := a) (s := s) (rows := rows) (r := r) hl oks hn ?_ h)
  refine seq_i (sp6 (K := K) (A := A) (l := l) (f := f) (a := a) (s := s) (rows := rows) (r := r) hl oks hn ?_ h)
  refine seq_i (sp7 (K := K) (A := A) (l := l) (f := f) (a := a) (s := s) (rows := rows) (r := r) hr hn ?_ h)
  refine seq_i (sp8 (K := K) (A := A) (l := l) (f := f) (a := a) (s := s) (rows := rows) (r := r) hr hn r0 r1 ?_ h)
  refine seq_i (sp9 (K := K) (A := A) (l := l) (f := f) (a := a) (s := s) (rows := rows) (r := r) hr hn ?_ h)
  refine seq_i (sp10 (K := K) (A := A) (l := l) (f := f) (a := a) (s := s) (rows := rows) (r := r) hr hn ne ?_ h)
  refine seq_i (sp11 (K := K) (A := A) (l := l) (f := f) (a := a) (s := s) (rows := rows) (r := r) hl hn ?_ h)
  exact seq_i (sp12 (K := K) (A := A) (l := l) (f := f) (a := a) (s := s) (rows := rows) (r := r) hr hn h)
end LW
set_option Elab.async false
set_option linter.all false
set_option maxRecDepth 100000
set_option maxHeartbeats 400000
/-! U15: a drawn board and its rows. -/
namespace LW
open PySem PySem.Spec PyProof.Rows L2 VL
variable {K : PySem.W.Frag} {mg : Str → Option Value} {A : Ad} {Q : TV → Prop} {E : QX}
theorem lc_vals {i : Nat} {we : EW} {ρ : SE} {lo hi : Int} {Qd : List PyData → Prop} (hput : ∀ x : PyData, ∃ ρ1, (Tg.nm i).put x (wipeS ρ [i]) = some ρ1 ∧ ∀ Q : TV → SE → Prop, (∀ r, lo ≤ r → r < hi → Q (.d (.int r)) ρ1) → we ρ1 Q (fun _ => False)) :
    ∀ (xs : List PyData) (acc : List Int), acc.length + xs.length ≤ 50000 → (∀ vs : List Int, vs.length = xs.length → (∀ v ∈ vs, lo ≤ v ∧ v < hi) → Qd ((acc ++ vs).map .int)) → wLcL (.nm i) [i] wYes we ρ Qd xs (acc.map .int)
  | [], acc, _, h => by
    have := h [] rfl (fun _ z => nomatch z)
    rw [List.append_nil] at this
    exact this
  | x :: xs, acc, hl, h => by
    rw [List.length_cons] at hl
    obtain ⟨ρ1, e1, hw⟩ := hput x
    refine ⟨ρ1, e1, rfl, hw _ fun r r0 r1 => ⟨rfl, .int r, rfl, by rw [List.length_map, sizeLine_eq]; omega, ?_⟩⟩
    have ih := lc_vals hput xs (acc ++ [r]) (by rw [List.length_append, List.length_singleton]; omega) fun vs hv hr => by
      rw [List.append_assoc]
      exact h (r :: vs) (by rw [List.length_cons, List.length_cons, hv]) fun v hv => by
        rcases List.mem_cons.mp hv with rfl | hv
        · exact ⟨r0, r1⟩
        · exact hr v hv
    rw [List.map_append] at ih
    exact ih
/-- sizes of small boards -/
structure Bd (ns : List Int) : Prop extends GoodS ns where
  p3 : prodF ns 1 ≤ 300
theorem bd_of {vs : List Int} (h0 : 1 ≤ vs.length) (h4 : vs.length ≤ 4) (h : ∀ v ∈ vs, 1 ≤ v ∧ v < 5) : Bd vs where
  h0 := h0
  h1 := by omega
  hn := fun v hv => (h v hv).1
  hp := (sz4_of h0 h4 fun v hv => by have := h v hv; omega).hp
  p3 := prodF_le4 vs 1 300 (fun v hv => by have := h v hv; omega) (by decide) (by
    have : ∀ k : Nat, k ≤ 4 → (1 : Int) * 4 ^ k ≤ 300 := by decide
    exact this _ h4)
theorem bd_k {ns : List Int} (h : (decide (1 ≤ ns.length) && decide (ns.length ≤ 8) && ns.all (fun i => decide (1 ≤ i)) && decide (prodF ns 1 ≤ 300)) = true) : Bd ns := by
  rw [Bool.and_eq_true, Bool.and_eq_true, Bool.and_eq_true, decide_eq_true_eq, decide_eq_true_eq, decide_eq_true_eq] at h
  exact ⟨⟨h.1.1.1, h.1.1.2, fun i hi => of_decide_eq_true (List.all_eq_true.mp h.1.2 i hi), by have := h.2; omega⟩, h.2⟩
def brS (s1 s2 s3 s4 s5 s6 s7 s8 s9 s10 s11 s12 s13 : Option SV) : SE := [some (.deal 1), s1, s2, s3, s4, s5, s6, s7, s8, s9, s10, s11, s12, s13]
abbrev br_0 (K : PySem.W.Frag) (A : Ad) : SW := wUnp (.tp [.nm 1, .nm 2]) (wTup (wCons (wOp dAdd (wC (.int 2)) (wCall (p_law_take K A) (wCons (wVar 0) (wCons (wC (.int 7)) wNil)))) (wCons (wLc (.nm 3) [3] (wRg1 (wCons (wOp dAdd (wC (.int 1)) (wCall (p_law_take K A) (wCons (wVar 0) (wCons (wC (.int 4)) wNil)))) wNil)) (wYes) (wOp dAdd (wC (.int 1)) (wCall (p_law_take K A) (wCons (wVar 0) (wCons (wC (.int 4)) wNil))))) wNil)))
abbrev br_1 (K : PySem.W.Frag) (A : Ad) : SW := wIfS (wTst (wOp dEq (wCall (p_law_take K A) (wCons (wVar 0) (wCons (wC (.int 8)) wNil))) (wC (.int 7)))) (wSeq (wSet 2 (wCallG (p_law_pick K A) (wCons (wVar 0) (wCons (wLst (wCons (wLst (wCons (wC (.int 12)) wNil)) (wCons (wLst (wCons (wC (.int 1)) (wCons (wC (.int 1)) (wCons (wC (.int 1)) (wCons (wC (.int 1)) (wCons (wC (.int 1)) (wCons (wC (.int 1)) (wCons (wC (.int 2)) (wCons (wC (.int 3)) wNil))))))))) (wCons (wLst (wCons (wC (.int 3)) (wCons (wC (.int 11)) wNil))) wNil)))) wNil)))) (wNext)) (wNext)
abbrev br_2 (K : PySem.W.Frag) (A : Ad) : SW := wSet 4 (wLc (.nm 5) [5] (wRg1 (wCons (wCall (p_law_count K A) (wCons (wVar 2) wNil)) wNil)) (wYes) (wCall (p_law_take K A) (wCons (wVar 0) (wCons (wVar 1) wNil))))
abbrev br_3 (K : PySem.W.Frag) (A : Ad) : SW := wPar 6 7 (wLst (wCons (wOp dAdd (wC (.str "marks ")) (wCB dStr (wCons (wVar 1) wNil))) (wCons (wOp dAdd (wC (.str "parts ")) (wJoin " " (wLc (.nm 8) [8] (wIt (wVar 2)) (wYes) (wCB dStr (wCons (wVar 8) wNil))))) wNil))) (wOp dIx (wVar 2) (wOp dSub (wCB dLen (wCons (wVar 2) wNil)) (wC (.int 1))))
abbrev br_4_0 (K : PySem.W.Frag) (A : Ad) : SW := wDrop (wApp (wVar 6) (wJoin "" (wLc (.nm 10) [10] (wIt (wSlS (wVar 4) (wOSome (wOp dMul (wVar 9) (wVar 7))) (wOSome (wOp dMul (wOp dAdd (wVar 9) (wC (.int 1))) (wVar 7))))) (wYes) (wCB dStr (wCons (wVar 10) wNil)))))
abbrev br_4_b (K : PySem.W.Frag) (A : Ad) : SW := (wSeq (wDrop (wApp (wVar 6) (wJoin "" (wLc (.nm 10) [10] (wIt (wSlS (wVar 4) (wOSome (wOp dMul (wVar 9) (wVar 7))) (wOSome (wOp dMul (wOp dAdd (wVar 9) (wC (.int 1))) (wVar 7))))) (wYes) (wCB dStr (wCons (wVar 10) wNil)))))) (wNext))
abbrev br_4 (K : PySem.W.Frag) (A : Ad) : SW := wFor (.nm 9) (wRg1 (wCons (wOp dFdv (wCB dLen (wCons (wVar 4) wNil)) (wVar 7)) wNil)) (wSeq (wDrop (wApp (wVar 6) (wJoin "" (wLc (.nm 10) [10] (wIt (wSlS (wVar 4) (wOSome (wOp dMul (wVar 9) (wVar 7))) (wOSome (wOp dMul (wOp dAdd (wVar 9) (wC (.int 1))) (wVar 7))))) (wYes) (wCB dStr (wCons (wVar 10) wNil)))))) (wNext))
abbrev br_5 (K : PySem.W.Frag) (A : Ad) : SW := wSet 11 (wMethO A.a_Board "text" (p_Board_text K A) (wMake A.a_Board (i_Board K A) (wCons (wVar 1) (wCons (wVar 2) (wCons (wVar 4) wNil)))))
abbrev br_6 (K : PySem.W.Frag) (A : Ad) : SW := wIfS (wOr (wTst (wOp dNe (wVar 11) (wJoin "\n" (wVar 6)))) (wOr (wTst (wOp dNe (wCall (p_law_told K A) (wCons (wVar 11) wNil)) (wTup (wCons (wVar 1) (wCons (wCB dTuple (wCons (wVar 2) wNil)) (wCons (wCB dTuple (wCons (wVar 4) wNil)) wNil)))))) (wTst (wOp dNe (wCall (p_law_due K A) (wCons (wVar 11) wNil)) (wCall (p_law_told K A) (wCons (wVar 11) wNil)))))) (wSeq (wRet (wC (.bool false))) (wNext)) (wNext)
abbrev br_7 (K : PySem.W.Frag) (A : Ad) : SW := wIfS (wTst (wEqO K A.a_Board (p_Board_eq K A) true (wCallK (p_Board_read K A) [0] wNil (wCons (wVar 11) (wNil))) (wMake A.a_Board (i_Board K A) (wCons (wVar 1) (wCons (wVar 2) (wCons (wVar 4) wNil)))))) (wSeq (wRet (wC (.bool false))) (wNext)) (wNext)
abbrev br_8_0 (K : PySem.W.Frag) (A : Ad) : SW := wSet 12 (wCall (p_law_spoilt K A) (wCons (wVar 0) (wCons (wVar 11) wNil)))
abbrev br_8_1 (K : PySem.W.Frag) (A : Ad) : SW := wIfS (wTst (wOp dGt (wVar 5) (wC (.int 3)))) (wSeq (wSet 12 (wCall (p_law_spoilt K A) (wCons (wVar 0) (wCons (wIf (wTst (wOp dNe (wVar 12) (wC (.str "")))) (wVar 12) (wVar 11)) wNil)))) (wNext)) (wNext)
abbrev br_8_2 (K : PySem.W.Frag) (A : Ad) : SW := wIfS (wTst (wOp dNe (wCB dRepr (wCons (wCall (p_law_told K A) (wCons (wVar 12) wNil)) wNil)) (wCB dRepr (wCons (wCall (p_law_due K A) (wCons (wVar 12) wNil)) wNil)))) (wSeq (wRet (wC (.bool false))) (wNext)) (wNext)
abbrev br_8_b (K : PySem.W.Frag) (A : Ad) : SW := (wSeq (wSet 12 (wCall (p_law_spoilt K A) (wCons (wVar 0) (wCons (wVar 11) wNil)))) (wSeq (wIfS (wTst (wOp dGt (wVar 5) (wC (.int 3)))) (wSeq (wSet 12 (wCall (p_law_spoilt K A) (wCons (wVar 0) (wCons (wIf (wTst (wOp dNe (wVar 12) (wC (.str "")))) (wVar 12) (wVar 11)) wNil)))) (wNext)) (wNext)) (wSeq (wIfS (wTst (wOp dNe (wCB dRepr (wCons (wCall (p_law_told K A) (wCons (wVar 12) wNil)) wNil)) (wCB dRepr (wCons (wCall (p_law_due K A) (wCons (wVar 12) wNil)) wNil)))) (wSeq (wRet (wC (.bool false))) (wNext)) (wNext)) (wNext))))
abbrev br_8 (K : PySem.W.Frag) (A : Ad) : SW := wFor (.nm 5) (wRg1 (wCons (wC (.int 6)) wNil)) (wSeq (wSet 12 (wCall (p_law_spoilt K A) (wCons (wVar 0) (wCons (wVar 11) wNil)))) (wSeq (wIfS (wTst (wOp dGt (wVar 5) (wC (.int 3)))) (wSeq (wSet 12 (wCall (p_law_spoilt K A) (wCons (wVar 0) (wCons (wIf (wTst (wOp dNe (wVar 12) (wC (.str "")))) (wVar 12) (wVar 11)) wNil)))) (wNext)) (wNext)) (wSeq (wIfS (wTst (wOp dNe (wCB dRepr (wCons (wCall (p_law_told K A) (wCons (wVar 12) wNil)) wNil)) (wCB dRepr (wCons (wCall (p_law_due K A) (wCons (wVar 12) wNil)) wNil)))) (wSeq (wRet (wC (.bool false))) (wNext)) (wNext)) (wNext))))
abbrev br_9 (K : PySem.W.Frag) (A : Ad) : SW := wRet (wOp dEq (wLc (.nm 13) [13] (wIt (wTup (wCons (wC .none) (wCons (wC (.int 3)) (wCons (wLst (wCons (wVar 11) wNil)) (wCons (wC (.bool true)) (wCons (wTup (wCons (wVar 11) wNil)) wNil))))))) (wTst (wOp dNe (wCall (p_law_told K A) (wCons (wVar 13) wNil)) (wTup (wCons (wC (.str "text")) (wCons (wOp dSub (wC (.int 0)) (wC (.int 1))) wNil))))) (wVar 13)) (wLst (wNil)))
theorem br0 {P : Po} (h : ∀ (m : Nat) (ns : List Int), 2 ≤ m → m ≤ 8 → Bd ns → P.nx (brS (some (.d (.int (m : Nat)))) (some (.d (.list (ns.map .int)))) none none none none none none none none none none none)) : br_0 K A (brS none none none none none none none none none none none none none) P E := by
  refine ⟨[.deal 1, .d (.int 7)], rfl, s_law_take (by decide) (by decide) fun r r0 r1 => ⟨rfl, _, _, rfl, rfl, ?_⟩⟩
  refine ⟨[.deal 1, .d (.int 4)], rfl, s_law_take (by decide) (by decide) fun q q0 q1 => ⟨rfl, _, _, rfl, rfl, 1 + q, rfl, by omega, by omega, ?_⟩⟩
  refine lc_vals (lo := 1) (hi := 5) (fun x => ⟨_, rfl, fun Q hq => ⟨[.deal 1, .d (.int 4)], rfl, s_law_take (by decide) (by decide) fun r r0 r1 => ⟨rfl, _, _, rfl, rfl, hq (1 + r) (by omega) (by omega)⟩⟩⟩) _ [] (by rw [rngD_len, List.length_nil]; omega) fun ns hv hr => ⟨_, _, rfl, sz (n := 2) rfl (by decide), _, _, rfl, rfl, ?_⟩
  rw [rngD_len] at hv
  obtain ⟨k, rfl⟩ := Int.eq_ofNat_of_zero_le r0
  have e : (2 + (k : Int)) = ((2 + k : Nat) : Int) := by omega
  rw [e]
  exact h (2 + k) ns (by omega) (by omega) (bd_of (by omega) (by omega) hr)
theorem br1 {m : Nat} {ns : List Int} {P : Po} (b : Bd ns) (h : ∀ ns : List Int, Bd ns → P.nx (brS (some (.d (.int (m : Nat)))) (some (.d (.list (ns.map .int)))) none none none none none none none none none none none)) : br_1 K A (brS (some (.d (.int (m : Nat)))) (some (.d (.list (ns.map .int)))) none none none none none none none none none none none) P E := by
  refine ⟨[.deal 1, .d (.int 8)], rfl, s_law_take (by decide) (by decide) fun r r0 r1 => ⟨rfl, _, _, rfl, rfl, deq_int ⟨_, rfl, ?_⟩⟩⟩
  by_cases hr : r = 7
  · rw [decide_eq_true hr]
    refine ⟨_, _, rfl, sz (n := 1) rfl (by decide), _, _, rfl, sz (n := 8) rfl (by decide), _, _, rfl, sz (n := 2) rfl (by decide), _, _, rfl, sz (n := 3) rfl (by decide), [.deal 1, .d (.list _)], _, rfl, s_law_pick (by decide) (by decide) fun j x hx => ?_⟩
    have hm := List.mem_of_getElem? hx
    rcases List.mem_cons.mp hm with e | hm
    · subst e
      exact ⟨_, _, rfl, h [12] (bd_k (by decide))⟩
    · rcases List.mem_cons.mp hm with e | hm
      · subst e
        exact ⟨_, _, rfl, h [1, 1, 1, 1, 1, 1, 2, 3] (bd_k (by decide))⟩
      · have e := List.mem_singleton.mp hm
        subst e
        exact ⟨_, _, rfl, h [3, 11] (bd_k (by decide))⟩
  · rw [decide_eq_false hr]
    exact h ns b
theorem br2 {m : Nat} {ns : List Int} {P : Po} (m2 : 2 ≤ m) (m8 : m ≤ 8) (b : Bd ns) (h : ∀ cs : List Int, Good (m : Nat) ns cs → P.nx (brS (some (.d (.int (m : Nat)))) (some (.d (.list (ns.map .int)))) none (some (.own (cs.map .int))) none none none none none none none none none)) :
    br_2 K A (brS (some (.d (.int (m : Nat)))) (some (.d (.list (ns.map .int)))) none none none none none none none none none none none) P E := by
  have p3 := b.p3
  have p1 := prodF_ge ns 1 b.hn (by decide)
  refine ⟨[.d (.list (ns.map .int))], rfl, s_law_count (b := true) b.toGoodS.sm ⟨rfl, prodF ns 1, rfl, by omega, by omega, ?_⟩⟩
  refine lc_vals (lo := 0) (hi := (m : Int)) (fun x => ⟨_, rfl, fun Q hq => ⟨[.deal 1, .d (.int (m : Nat))], rfl, s_law_take (by omega) (by omega) fun r r0 r1 => ⟨rfl, hq r r0 r1⟩⟩⟩) _ [] (by rw [rngD_len, List.length_nil]; omega) fun cs hv hr => ⟨_, _, rfl, ?_⟩
  rw [rngD_len] at hv
  exact h cs ⟨b.toGoodS, by omega, by omega, by omega, hr⟩
theorem br3 {m W : Nat} {is cs : List Int} {P : Po} (m2 : 2 ≤ m) (m8 : m ≤ 8) (b : Bd (is ++ [(W : Int)])) (h : P.nx (brS (some (.d (.int (m : Nat)))) (some (.d (.list ((is ++ [(W : Int)]).map .int)))) none (some (.own (cs.map .int))) none (some (.own ([TL.joinL [32] [MARKS, TL.numL m], TL.joinL [32] (PARTS :: numLs (is ++ [(W : Int)]))].map pT))) (some (.d (.int (W : Nat)))) none none none none none none)) :
    br_3 K A (brS (some (.d (.int (m : Nat)))) (some (.d (.list ((is ++ [(W : Int)]).map .int)))) none (some (.own (cs.map .int))) none none none none none none none none none) P E := by
  have h8 := b.h1
  have hle := b.toGoodS.le
  have ne : numLs (is ++ [(W : Int)]) ≠ [] := by unfold numLs; simp
  have r0 := row_marks m
  have r1 := row_parts ne
  have hr1 := row1_len b.toGoodS
  refine ⟨[.int (m : Nat)], rfl, log_lt (by omega), _, _, rfl, rfl, ?_, ?_⟩
  · have e6 : (("marks " : String) : Str).length = 6 := by decide
    show (("marks " : String) : Str).length + (Str.ofString (toString ((m : Nat) : Int))).length ≤ sizeLine
    rw [e6, str_int (by omega), tx_len, sizeLine_eq]
    have := numL_5 (i := (m : Nat)) (by omega) (by omega)
    omega
  · refine ⟨_, _, _, rfl, .inl rfl, ?_⟩
    refine lc_map (i := 8) (f := fun i : Int => pT (TL.numL i.toNat)) (is ++ [(W : Int)]) [] (by rw [List.length_nil]; omega) (fun i hi R q => ⟨[.int i], rfl, str_el (by have := hle i hi; omega) (by have := hle i hi; omega) q⟩) ?_
    rw [List.nil_append, strs_numLs]
    have hsum : (((numLs (is ++ [(W : Int)])).map tx).map (·.length)).sum ≤ 40 := by
      refine Nat.le_trans (sum_le (numLs_5 b.toGoodS)) ?_
      rw [show (numLs (is ++ [(W : Int)])).length = (is ++ [(W : Int)]).length from List.length_map _]
      omega
    refine ⟨(numLs (is ++ [(W : Int)])).map tx, .inl rfl, ?_, _, _, rfl, rfl, ?_, ?_⟩
    · have e0 : ((" " : String) : Str).length = 1 := by decide
      rw [e0, List.length_map, show (numLs (is ++ [(W : Int)])).length = (is ++ [(W : Int)]).length from List.length_map _]
      omega
    · rw [join_sp]
      have e6 : (("parts " : String) : Str).length = 6 := by decide
      show (("parts " : String) : Str).length + (tx (TL.joinL [32] (numLs (is ++ [(W : Int)])))).length ≤ sizeLine
      rw [e6, tx_len, sizeLine_eq]
      have := joinL_len (b := [32]) (M := 5) (numLs_5 b.toGoodS)
      rw [show (numLs (is ++ [(W : Int)])).length = (is ++ [(W : Int)]).length from List.length_map _, List.length_singleton] at this
      omega
    · refine ⟨_, _, rfl, sz (n := 2) rfl (by decide), [.list _], rfl, _, _, rfl, rfl, _, _, rfl, rfl, _, at_lastM PyData.int is (W : Int), _, _, (fun _ z => by cases z), (fun _ z => by cases z), rfl, rfl, ?_⟩
      rw [join_sp]
      have e0 : PyData.str ((("marks " : String) : Str) ++ Str.ofString (toString ((m : Nat) : Int))) = pT (TL.joinL [32] [MARKS, TL.numL m]) := congrArg PyData.str r0
      have e1 : PyData.str ((("parts " : String) : Str) ++ tx (TL.joinL [32] (numLs (is ++ [(W : Int)])))) = pT (TL.joinL [32] (PARTS :: numLs (is ++ [(W : Int)]))) := congrArg PyData.str r1
      rw [e0, e1]
      exact h
end LW
set_option Elab.async false
set_option linter.all false
set_option maxRecDepth 100000
set_option maxHeartbeats 400000
/-! U16: the law's rows, the text, what is told compared. -/
namespace LW
open PySem PySem.Spec PyProof.Rows L2 VL
variable {K : PySem.W.Frag} {mg : Str → Option Value} {A : Ad} {Q : TV → Prop} {E : QX}
theorem br4_loop {W : Nat} {cs : List Int} {s1 s2 s3 s5 s8 s11 s12 s13 : Option SV} {P : Po} (hW : W ≤ 300) (hc : ∀ c ∈ cs, 0 ≤ c ∧ c < 8) (hl : cs.length ≤ 300) : ∀ (n k : Nat) (pre : List (List Nat)) (s9 s10 : Option SV), pre.length + n ≤ 1000 → k + n ≤ 300 →
    (∀ s9 s10, P.nx (brS s1 s2 s3 (some (.own (cs.map .int))) s5 (some (.own ((pre ++ (chunks W n (cs.drop (k * W))).map rowT).map pT))) (some (.d (.int (W : Nat)))) s8 s9 s10 s11 s12 s13)) →
    wLoop (.nm 9) (br_4_b K A) (rngK k n) (brS s1 s2 s3 (some (.own (cs.map .int))) s5 (some (.own (pre.map pT))) (some (.d (.int (W : Nat)))) s8 s9 s10 s11 s12 s13) P E
  | 0, k, pre, s9, s10, _, _, h => by
    have := h s9 s10
    rw [show chunks W 0 (cs.drop (k * W)) = [] from rfl, List.map_nil, List.append_nil] at this
    exact this
  | n + 1, k, pre, s9, s10, hn, hk, h => by
    refine ⟨_, rfl, ?_⟩
    refine ⟨6, _, rfl, rfl, _, _, rfl, rfl, .inr ⟨by omega, by omega⟩, _, rfl, _, _, rfl, rfl, _, _, rfl, rfl, .inr ⟨by omega, by omega⟩, _, rfl, .list (cs.map .int), rfl, _, _, _, rfl, .inl rfl, ?_⟩
    have ec : VL.cutD (cs.map PyData.int) (some (((k : Nat) : Int) * (W : Nat))) (some ((((k : Nat) : Int) + 1) * (W : Nat))) = ((cs.drop (k * W)).take W).map .int := by
      have e1 : ((k : Nat) : Int) * (W : Nat) = ((k * W : Nat) : Int) := (Int.natCast_mul _ _).symm
      have e2 : (((k : Nat) : Int) + 1) * (W : Nat) = ((k * W + W : Nat) : Int) := by rw [Int.add_mul, Int.one_mul, e1]; rfl
      rw [e1, e2, cutD_mid (by omega) (by omega), List.map_take, List.map_drop, Int.toNat_natCast, Int.toNat_natCast]
      congr 1
      omega
    rw [ec]
    have hrow : ∀ c ∈ (cs.drop (k * W)).take W, 0 ≤ c ∧ c < 8 := fun c hcm => hc c (List.mem_of_mem_drop (List.mem_of_mem_take hcm))
    have hrl : ((cs.drop (k * W)).take W).length ≤ 300 := by rw [List.length_take, List.length_drop]; omega
    have ech : chunks W (n + 1) (cs.drop (k * W)) = (cs.drop (k * W)).take W :: chunks W n (cs.drop ((k + 1) * W)) := by
      rw [Nat.succ_mul, ← List.drop_drop]
      rfl
    rw [ech] at h
    generalize (cs.drop (k * W)).take W = row at hrow hrl h
    refine lc_map (i := 10) (f := fun c : Int => pT [48 + c.toNat]) row [] (by rw [List.length_nil]; omega) (fun c hcm R q => ⟨[.int c], rfl, str_dg (hrow c hcm).1 (by have := hrow c hcm; omega) q⟩) ?_
    rw [List.nil_append, strs_row]
    have hsum : (((rowT row).map fun c => tx [c]).map (·.length)).sum ≤ 300 := by
      have e : ((rowT row).map fun c => tx [c]) = ((rowT row).map fun c => [c]).map tx := by rw [List.map_map]; rfl
      rw [e]
      refine Nat.le_trans (sum_le (M := 1) fun p hp => ?_) ?_
      · obtain ⟨c, _, rfl⟩ := List.mem_map.mp hp
        exact Nat.le_refl _
      · rw [List.length_map, Nat.mul_one]
        unfold rowT
        rw [List.length_map]
        exact hrl
    refine ⟨(rowT row).map fun c => tx [c], .inl rfl, ?_, _, _, _, rfl, rfl, by rw [List.length_map, sizeLine_eq]; omega, ?_⟩
    · have e0 : (("" : String) : Str).length = 0 := by decide
      rw [e0, Nat.mul_zero]
      omega
    · rw [join_row]
      have ih := br4_loop (W := W) (cs := cs) (s1 := s1) (s2 := s2) (s3 := s3) (s5 := s5) (s8 := s8) (s11 := s11) (s12 := s12) (s13 := s13) (P := P) hW hc hl n (k + 1) (pre ++ [rowT row]) (some (.d (.int ((k : Nat) : Int)))) s10 (by rw [List.length_append, List.length_singleton]; omega) (by omega) (fun a b => by
        rw [List.append_assoc]
        exact h a b)
      rw [List.map_append] at ih
      exact ih
theorem br4 {m W N : Nat} {is cs : List Int} {s5 s8 s9 s10 s11 s12 s13 : Option SV} {P : Po} (g : Good (m : Nat) (is ++ [(W : Int)]) cs) (b : Bd (is ++ [(W : Int)])) (hN : prodF is 1 = (N : Nat))
    (h : ∀ s9 s10, P.nx (brS (some (.d (.int (m : Nat)))) (some (.d (.list ((is ++ [(W : Int)]).map .int)))) none (some (.own (cs.map .int))) s5 (some (.own ((rowsT m (is ++ [(W : Int)]) W N cs).map pT))) (some (.d (.int (W : Nat)))) s8 s9 s10 s11 s12 s13)) :
    br_4 K A (brS (some (.d (.int (m : Nat)))) (some (.d (.list ((is ++ [(W : Int)]).map .int)))) none (some (.own (cs.map .int))) s5 (some (.own ([TL.joinL [32] [MARKS, TL.numL m], TL.joinL [32] (PARTS :: numLs (is ++ [(W : Int)]))].map pT))) (some (.d (.int (W : Nat)))) s8 s9 s10 s11 s12 s13) P E := by
  have e3 : prodF (is ++ [(W : Int)]) 1 = prodF is 1 * (W : Int) := prodF_appL is [(W : Int)] 1
  have hcl := g.hl
  have p3 := b.p3
  have hle := g.toGoodS.le W (List.mem_append_right _ (List.mem_singleton.mpr rfl))
  rw [e3, hN, ← Int.natCast_mul] at hcl p3
  have hcl' : cs.length = N * W := by omega
  have m1 := g.m1
  have hp1 : 1 ≤ prodF is 1 := prodF_ge is 1 (fun i hi => b.hn i (List.mem_append_left _ hi)) (by decide)
  have hN3 : N ≤ 300 := Nat.le_trans (Nat.le_mul_of_pos_right N (by omega : 0 < W)) (by omega)
  have hW3 : W ≤ 300 := Nat.le_trans (Nat.le_mul_of_pos_left W (by omega : 0 < N)) (by omega)
  refine ⟨[.list _], rfl, _, _, rfl, rfl, ⟨by omega, by omega⟩, (N : Int), ?_, by omega, by omega, ?_⟩
  · have : (((cs.map PyData.int).length : Nat) : Int) / (W : Int) = (N : Int) := by
      rw [List.length_map, hcl', Int.natCast_mul, Int.mul_ediv_cancel _ (by omega)]
    show some [PyData.int ((((cs.map PyData.int).length : Nat) : Int) / (W : Int))] = _
    rw [this]
  · rw [Int.toNat_natCast, rngD_k]
    refine br4_loop (K := K) (A := A) (W := W) (cs := cs) hW3 (fun c hc => by have := g.hc c hc; omega) (by omega) N 0 _ s9 s10 (by show 2 + N ≤ 1000; omega) (by omega) fun a c => ?_
    have er : [TL.joinL [32] [MARKS, TL.numL m], TL.joinL [32] (PARTS :: numLs (is ++ [(W : Int)]))] ++ (chunks W N (cs.drop (0 * W))).map rowT = rowsT m (is ++ [(W : Int)]) W N cs := by
      rw [Nat.zero_mul, List.drop_zero]
      rfl
    rw [er]
    exact h a c
theorem chunks_sum (W : Nat) : ∀ (N : Nat) (cs : List Int), tot ((chunks W N cs).map rowT) ≤ cs.length + N
  | 0, cs => Nat.zero_le _
  | n + 1, cs => by
    have ih := chunks_sum W n (cs.drop W)
    unfold chunks
    rw [List.map_cons, tot_cons]
    have e : (rowT (cs.take W)).length = (cs.take W).length := by unfold rowT; rw [List.length_map]
    rw [e, List.length_take]
    rw [List.length_drop] at ih
    omega
theorem text_okR {m W N : Nat} {ns cs : List Int} (g : Good (m : Nat) ns cs) (hs : cs.length ≤ 300) (hN : N ≤ 300) : okR 1000 (rowsT m ns W N cs) := by
  have hr := rowsT_free (m := m) (ns := ns) (W := W) (N := N) (cs := cs) fun c hc => by have := g.hc c hc; have := g.m1; omega
  refine ⟨fun p hp => (hr p hp).2, ?_⟩
  have h0 := row0_len (m := m) (by have := g.m1; omega)
  have h1 := row1_len g.toGoodS
  have h2 := chunks_sum W N cs
  unfold rowsT
  rw [tot_cons, tot_cons, h0]
  omega
theorem text_k {m W N : Nat} {ns cs : List Int} (g : Good (m : Nat) ns cs) (hs : cs.length ≤ 300) (hN : N ≤ 300) : okT 1000 (textF m ns W N cs) := (text_okR g hs hN).join
theorem text_ne {m W N : Nat} {ns cs : List Int} : textF m ns W N cs ≠ [] := by
  unfold textF rowsT
  cases h : (chunks W N cs).map rowT <;> exact fun z => by cases z
/-! ### what is told, compared -/
theorem flat_told (r : RD) : nolist (toldD r) = true := by
  cases r with
  | text i => rfl
  | size => rfl
  | good m ns ms =>
    have h1 := nolist_ints ns
    have h2 := nolist_ints ms
    unfold toldD nolist nolists nolists nolists nolists
    rw [h1, h2]
    rfl
theorem dt_told (r : RD) : Dt 2 (toldD r) := by
  cases r with
  | text i =>
    exact Dt.tup (k := 1) fun x hx => by
      rcases List.mem_cons.mp hx with rfl | hx
      · have : (("text" : String) : Str) = tx [116, 101, 120, 116] := TL.ext_tl (by decide)
        rw [this]
        exact (Dt.txt (ok_k (by decide))).mono (by decide)
      · rw [List.mem_singleton.mp hx]
        exact (Dt.int i).mono (by decide)
  | size =>
    exact Dt.tup (k := 1) fun x hx => by
      rcases List.mem_cons.mp hx with rfl | hx
      · have : (("size" : String) : Str) = tx [115, 105, 122, 101] := TL.ext_tl (by decide)
        rw [this]
        exact (Dt.txt (ok_k (by decide))).mono (by decide)
      · rw [List.mem_singleton.mp hx]
        have : (("settings" : String) : Str) = tx [115, 101, 116, 116, 105, 110, 103, 115] := TL.ext_tl (by decide)
        rw [this]
        exact (Dt.txt (ok_k (by decide))).mono (by decide)
  | good m ns ms =>
    exact Dt.tup (k := 1) fun x hx => by
      rcases List.mem_cons.mp hx with rfl | hx
      · exact (Dt.int _).mono (by decide)
      · rcases List.mem_cons.mp hx with rfl | hx
        · exact Dt.ints ns
        · rw [List.mem_singleton.mp hx]
          exact Dt.ints ms
theorem scanL_err (m W : Nat) : ∀ (N k : Nat) (acc : List Int) (rs : List (List Nat)) (i : Int), scanL m W acc N k rs = .error i → 0 ≤ i ∧ i ≤ ((2 + k + N : Nat) : Int)
  | 0, k, acc, rs, i, h => by cases h
  | N + 1, k, acc, [], i, h => by
    have h' : Except.error (α := List Int) ((2 + k : Nat) : Int) = Except.error i := h
    cases h'
    omega
  | N + 1, k, acc, r :: rs, i, h => by
    unfold scanL at h
    split at h
    · have := scanL_err m W N (k + 1) _ rs i h
      omega
    · cases h
      omega
theorem sh_told {l : List Nat} : Sh 2 100000 (toldD (readF l)) := by
  have txt : ∀ i : Int, i.natAbs < 10 ^ 12 → Sh 2 100000 (tellT i) := fun i hi => by
    refine (Sh.tup (k := 0) (w := 100) (xs := [.str "text", .int i]) fun x hx => ?_).mono (by decide) (by show 101 * 2 ≤ 100000; decide)
    rcases List.mem_cons.mp hx with rfl | hx
    · exact (Sh.str (by decide +kernel) (by decide +kernel)).mono (Nat.le_refl _) (by decide +kernel)
    · rw [List.mem_singleton.mp hx]
      exact (Sh.int hi).mono (Nat.le_refl _) (by decide)
  unfold readF rowsF
  cases hh : headF (cut 10 [] l) with
  | error k =>
    have hk : k ≤ 1 := by
      generalize cut 10 [] l = rows at hh
      unfold headF at hh
      split at hh
      · cases hh; decide
      · split at hh
        · cases hh; decide
        · split at hh
          · cases hh; decide
          · split at hh
            · cases hh; decide
            · cases hh
    exact txt _ (by omega)
  | ok p =>
    obtain ⟨m, ns⟩ := p
    obtain ⟨m2, m8, r2, n1, n8, nb⟩ := headF_ok hh
    show Sh 2 100000 (toldD (tailF m ns _))
    generalize (cut 10 [] l).drop 2 = rs
    obtain ⟨is, w, rfl⟩ := snoc_of n1
    have hw := nb w (List.mem_append_right _ (List.mem_singleton.mpr rfl))
    obtain ⟨W, rfl⟩ := Int.eq_ofNat_of_zero_le (a := w) (by omega)
    have hp1 : 1 ≤ prodF is 1 := prodF_ge is 1 (fun i hi => (nb i (List.mem_append_left _ hi)).1) (by decide)
    rw [tailF_eq]
    by_cases hc : 20000 < prodF is 1 * (W : Int)
    · rw [if_pos hc]
      refine (Sh.tup (k := 0) (w := 100) (xs := [.str "size", .str "settings"]) fun x hx => ?_).mono (by decide) (by decide)
      rcases List.mem_cons.mp hx with rfl | hx
      · exact (Sh.str (by decide +kernel) (by decide +kernel)).mono (Nat.le_refl _) (by decide +kernel)
      · rw [List.mem_singleton.mp hx]
        exact (Sh.str (by decide +kernel) (by decide +kernel)).mono (Nat.le_refl _) (by decide +kernel)
    · rw [if_neg hc]
      generalize prodF is 1 = p at *
      obtain ⟨N, rfl⟩ := Int.eq_ofNat_of_zero_le (a := p) (by omega)
      rw [Int.toNat_natCast]
      have hNW : N * W ≤ 20000 := by
        have : ((N * W : Nat) : Int) ≤ 20000 := by rw [Int.natCast_mul]; omega
        omega
      have hN : N ≤ 20000 := Nat.le_trans (Nat.le_mul_of_pos_right N (by omega : 0 < W)) hNW
      cases hs : scanL m W [] N 0 rs with
      | error i =>
        have := scanL_err m W N 0 [] rs i hs
        exact txt i (by omega)
      | ok ms =>
        show Sh 2 100000 (toldD (if N < rs.length then _ else _))
        by_cases hg : N < rs.length
        · rw [if_pos hg]
          exact txt _ (by omega)
        · rw [if_neg hg]
          obtain ⟨l1, l2, l3⟩ := scanL_ok m W N 0 [] rs ms m8 hs
          rw [List.length_nil] at l2
          refine (Sh.tup (k := 1) (w := 20000) (xs := [.int (m : Nat), .tuple ((is ++ [(W : Int)]).map .int), .tuple (ms.map .int)]) fun x hx => ?_).mono (by decide) (by show 20001 * 3 ≤ 100000; decide)
          rcases List.mem_cons.mp hx with rfl | hx
          · exact (Sh.int (by omega)).mono (by decide) (by decide)
          · rcases List.mem_cons.mp hx with rfl | hx
            · exact (Sh.ints fun i hi => by have := nb i hi; omega).mono (Nat.le_refl _) (by omega)
            · rw [List.mem_singleton.mp hx]
              exact (Sh.ints fun i hi => by have := (l3 i hi).resolve_left (by simp); omega).mono (Nat.le_refl _) (by omega)
end LW
set_option Elab.async false
set_option linter.all false
set_option maxRecDepth 100000
set_option maxHeartbeats 400000
/-! U17: a board right. -/
namespace LW
open PySem PySem.Spec PyProof.Rows L2 VL
variable {K : PySem.W.Frag} {mg : Str → Option Value} {A : Ad} {Q : TV → Prop} {E : QX}
section
variable {m W N : Nat} {is cs : List Int} {s5 s8 s9 s10 s11 s12 s13 : Option SV} {P : Po}
theorem br5 (T : Txt K mg A) (g : Good (m : Nat) (is ++ [(W : Int)]) cs) (hN : prodF is 1 = (N : Nat)) (hs : cs.length ≤ 300) {s6 s7 : Option SV}
    (h : P.nx (brS (some (.d (.int (m : Nat)))) (some (.d (.list ((is ++ [(W : Int)]).map .int)))) none (some (.own (cs.map .int))) s5 s6 s7 s8 s9 s10 (some (.d (pT (textF m (is ++ [(W : Int)]) W N cs)))) s12 s13)) :
    br_5 K A (brS (some (.d (.int (m : Nat)))) (some (.d (.list ((is ++ [(W : Int)]).map .int)))) none (some (.own (cs.map .int))) s5 s6 s7 s8 s9 s10 s11 s12 s13) P E :=
  ⟨[.d (.int (m : Nat)), .d (.list ((is ++ [(W : Int)]).map .int)), .d (.list (cs.map .int))], rfl, mk_good T g true true ⟨flat_fields, _, rfl, rfl, s_Board_text T g hN hs ⟨rfl, _, _, rfl, h⟩⟩⟩
theorem br6 (T : Txt K mg A) (F : FxT K A) (g : Good (m : Nat) (is ++ [(W : Int)]) cs) (hN : prodF is 1 = (N : Nat)) (hs : cs.length ≤ 300) (hn3 : N ≤ 300) {s7 : Option SV}
    (h : P.nx (brS (some (.d (.int (m : Nat)))) (some (.d (.list ((is ++ [(W : Int)]).map .int)))) none (some (.own (cs.map .int))) s5 (some (.own ((rowsT m (is ++ [(W : Int)]) W N cs).map pT))) s7 s8 s9 s10 (some (.d (pT (textF m (is ++ [(W : Int)]) W N cs)))) s12 s13)) :
    br_6 K A (brS (some (.d (.int (m : Nat)))) (some (.d (.list ((is ++ [(W : Int)]).map .int)))) none (some (.own (cs.map .int))) s5 (some (.own ((rowsT m (is ++ [(W : Int)]) W N cs).map pT))) s7 s8 s9 s10 (some (.d (pT (textF m (is ++ [(W : Int)]) W N cs)))) s12 s13) P E := by
  have okX := text_k (W := W) g hs hn3
  have okr := text_okR (W := W) g hs hn3
  have rb := read_back g hN
  refine ⟨(rowsT m (is ++ [(W : Int)]) W N cs).map tx, .inl (congrArg (fun z => some (PyData.list z)) (strs_pT _)), ?_, _, _, rfl, rfl, ?_⟩
  · have e0 : (("\n" : String) : Str).length = 1 := by decide
    have := lens_eq (rowsT m (is ++ [(W : Int)]) W N cs)
    have := okr.tt
    rw [e0, List.length_map]
    omega
  · rw [join_nl]
    refine ne_same (x := pT (textF m (is ++ [(W : Int)]) W N cs)) (Dt.txt okX.ok) (by decide) ⟨_, rfl, ?_⟩
    refine ⟨[.d (pT (textF m (is ++ [(W : Int)]) W N cs))], rfl, s_law_told T F okX (by decide) ?_⟩
    rw [rb]
    refine ⟨flat_told _, [.list _], rfl, [.list _], rfl, _, _, rfl, sz (n := 3) rfl (by decide), _, _, rfl, rfl, ne_same (dt_told (.good m (is ++ [(W : Int)]) cs)) (by decide) ⟨_, rfl, ?_⟩⟩
    exact ⟨[.d (pT (textF m (is ++ [(W : Int)]) W N cs))], rfl, s_law_due okX (by decide) ⟨flat_told _, [.d (pT (textF m (is ++ [(W : Int)]) W N cs))], rfl, s_law_told T F okX (by decide) ⟨flat_told _, _, _, rfl, rfl, ne_same (dt_told _) (by decide) ⟨_, rfl, h⟩⟩⟩⟩
theorem br7 (T : Txt K mg A) (F : FxT K A) (g : Good (m : Nat) (is ++ [(W : Int)]) cs) (hN : prodF is 1 = (N : Nat)) (hs : cs.length ≤ 300) (hn3 : N ≤ 300) {s6 s7 : Option SV}
    (h : P.nx (brS (some (.d (.int (m : Nat)))) (some (.d (.list ((is ++ [(W : Int)]).map .int)))) none (some (.own (cs.map .int))) s5 s6 s7 s8 s9 s10 (some (.d (pT (textF m (is ++ [(W : Int)]) W N cs)))) s12 s13)) :
    br_7 K A (brS (some (.d (.int (m : Nat)))) (some (.d (.list ((is ++ [(W : Int)]).map .int)))) none (some (.own (cs.map .int))) s5 s6 s7 s8 s9 s10 (some (.d (pT (textF m (is ++ [(W : Int)]) W N cs)))) s12 s13) P E := by
  have okX := text_k (W := W) g hs hn3
  have rb := read_back g hN
  refine ⟨[.d (pT (textF m (is ++ [(W : Int)]) W N cs))], rfl, s_Board_read T okX (by decide) (fun i e => ?_) (fun e => ?_) (fun m' ns' ms' e g' => ?_)⟩
  · rw [rb] at e; cases e
  · rw [rb] at e; cases e
  · rw [rb] at e
    cases e
    refine ⟨flat_fields, _, rfl, [.d (.int (m : Nat)), .d (.list ((is ++ [(W : Int)]).map .int)), .d (.list (cs.map .int))], rfl, mk_good T g true true ⟨flat_fields, ?_⟩⟩
    exact eq_oo T F.toFx true (by rw [decide_eq_true rfl, decide_eq_true rfl, decide_eq_true rfl]; rfl) ⟨_, rfl, h⟩
theorem br8_2 (T : Txt K mg A) (F : FxT K A) {n : Nat} {l : List Nat} {s1 s2 s3 s4 s6 s7 : Option SV} (hl : okT n l) (hn : n ≤ 500000) (h : P.nx (brS s1 s2 s3 s4 s5 s6 s7 s8 s9 s10 s11 (some (.d (pT l))) s13)) :
    br_8_2 K A (brS s1 s2 s3 s4 s5 s6 s7 s8 s9 s10 s11 (some (.d (pT l))) s13) P E :=
  ⟨[.d (pT l)], rfl, s_law_told T F hl hn ⟨flat_told _, [toldD (readF l)], rfl, repr_ok sh_told (by decide) (by decide) ⟨[.d (pT l)], rfl, s_law_due hl hn ⟨flat_told _, [toldD (readF l)], rfl, repr_ok sh_told (by decide) (by decide) ⟨_, _, rfl, rfl, ne_repr sh_told ⟨_, rfl, h⟩⟩⟩⟩⟩⟩
theorem br8_loop (T : Txt K mg A) (F : FxT K A) {X : List Nat} {s1 s2 s3 s4 s6 s7 : Option SV} (okX : okT 1000 X) (hX : X ≠ []) : ∀ (n k : Nat) (s5 s12 : Option SV), (∀ s5 s12, P.nx (brS s1 s2 s3 s4 s5 s6 s7 s8 s9 s10 (some (.d (pT X))) s12 s13)) →
    wLoop (.nm 5) (br_8_b K A) (rngK k n) (brS s1 s2 s3 s4 s5 s6 s7 s8 s9 s10 (some (.d (pT X))) s12 s13) P E
  | 0, k, s5, s12, h => h s5 s12
  | n + 1, k, s5, s12, h => by
    have ih := fun l' : List Nat => br8_loop T F (X := X) (s1 := s1) (s2 := s2) (s3 := s3) (s4 := s4) (s6 := s6) (s7 := s7) okX hX n (k + 1) (some (.d (.int (k : Nat)))) (some (.d (pT l'))) h
    refine ⟨_, rfl, [.deal 1, .d (pT X)], rfl, s_law_spoilt okX hX (by decide) fun l1 ok1 => ⟨rfl, _, _, rfl, ?_⟩⟩
    refine ⟨_, _, rfl, rfl, _, rfl, ?_⟩
    by_cases hk : (3 : Int) < (k : Nat)
    · rw [decide_eq_true hk]
      refine ⟨_, _, rfl, rfl, dne_k k_e ok1.ok (ok_k (by decide)) ⟨_, rfl, ?_⟩⟩
      by_cases he : l1 = []
      · rw [decide_eq_true he]
        refine ⟨[.deal 1, .d (pT X)], rfl, s_law_spoilt okX hX (by decide) fun l2 ok2 => ⟨rfl, _, _, rfl, ?_⟩⟩
        exact seq_i (br8_2 (K := K) (A := A) T F ok2 (by decide) (ih l2))
      · rw [decide_eq_false he]
        refine ⟨[.deal 1, .d (pT l1)], rfl, s_law_spoilt ok1 he (by decide) fun l2 ok2 => ⟨rfl, _, _, rfl, ?_⟩⟩
        exact seq_i (br8_2 (K := K) (A := A) T F ok2 (by decide) (ih l2))
    · rw [decide_eq_false hk]
      exact seq_i (br8_2 (K := K) (A := A) T F ok1 (by decide) (ih l1))
theorem br9 (T : Txt K mg A) (F : FxT K A) {X : List Nat} {s1 s2 s3 s4 s6 s7 : Option SV} (h : P.rt (.d (.bool true))) :
    br_9 K A (brS s1 s2 s3 s4 s5 s6 s7 s8 s9 s10 (some (.d (pT X))) s12 s13) P E := by
  refine ⟨_, _, rfl, sz (n := 1) rfl (by decide), _, _, rfl, sz (n := 1) rfl (by decide), _, _, rfl, sz (n := 5) rfl (by decide), _, _, _, rfl, .inr rfl, ?_⟩
  refine lc_fil (i := 13) (p := fun _ => false) (item := fun x => x) (by show 13 < 14; decide) [.none, .int 3, .list [pT X], .bool true, .tuple [pT X]] [] (by show 0 + 5 ≤ 1000000; decide) (fun x hx R q => ?_) ?_
  · refine ⟨[.d x], rfl, s_law_toldN T F (fun y => ?_) ⟨rfl, _, _, rfl, rfl, _, _, rfl, sz (n := 2) rfl (by decide), _, _, rfl, rfl, ne_same (dt_told (.text (-1))) (by decide) ⟨_, rfl, rfl, q⟩⟩⟩
    simp only [List.mem_cons, List.not_mem_nil, or_false] at hx
    rcases hx with rfl | rfl | rfl | rfl | rfl <;> exact fun z => by cases z
  · exact ⟨_, _, rfl, by rw [sizeLine_eq]; decide, _, _, rfl, rfl, eq_same (Dt.lst (k := 0) (xs := []) fun x hx => by cases hx) (by decide) ⟨_, rfl, h⟩⟩
end
theorem s_law_board_right2 (T : Txt K mg A) (F : FxT K A) (h : Q (.d (.bool true))) : p_law_board_right K A [.deal 1] Q E := by
  refine ⟨rfl, ?_⟩
  refine seq_i (br0 (K := K) (A := A) fun m ns m2 m8 b0 => ?_)
  refine seq_i (br1 (K := K) (A := A) b0 fun ns b => ?_)
  obtain ⟨is, w, rfl⟩ := snoc_of b.h0
  have hw := b.toGoodS.le w (List.mem_append_right _ (List.mem_singleton.mpr rfl))
  obtain ⟨W, rfl⟩ := Int.eq_ofNat_of_zero_le (a := w) (by omega)
  have hp1 : 1 ≤ prodF is 1 := prodF_ge is 1 (fun i hi => b.hn i (List.mem_append_left _ hi)) (by decide)
  obtain ⟨N, hN⟩ := Int.eq_ofNat_of_zero_le (a := prodF is 1) (by omega)
  refine seq_i (br2 (K := K) (A := A) m2 m8 b fun cs g => ?_)
  have hs : cs.length ≤ 300 := by have := g.hl; have := b.p3; omega
  have hn3 : N ≤ 300 := by
    have e3 : prodF (is ++ [(W : Int)]) 1 = prodF is 1 * (W : Int) := prodF_appL is [(W : Int)] 1
    have p3 := b.p3
    rw [e3, hN] at p3
    have p3' : ((N * W : Nat) : Int) ≤ 300 := by rw [Int.natCast_mul]; exact p3
    exact Nat.le_trans (Nat.le_mul_of_pos_right N (by omega : 0 < W)) (by omega)
  refine seq_i (br3 (K := K) (A := A) m2 m8 b ?_)
  refine seq_i (br4 (K := K) (A := A) g b hN fun s9 s10 => ?_)
  refine seq_i (br5 (K := K) (A := A) T g hN hs ?_)
  refine seq_i (br6 (K := K) (A := A) T F g hN hs hn3 ?_)
  refine seq_i (br7 (K := K) (A := A) T F g hN hs hn3 ?_)
  refine ⟨6, rfl, by decide, by decide, ?_⟩
  rw [show rngD 0 (6 : Int).toNat = rngK 0 6 from rngD_k 6]
  refine br8_loop (K := K) (A := A) T F (text_k (W := W) g hs hn3) text_ne 6 0 none none fun s5 s12 => ?_
  exact seq_i (br9 (K := K) (A := A) T F h)
theorem s_law2 (T : Txt K mg A) (F : FxT K A) {ns : List Int} (h : Q (.d (.bool true))) : p_law K A [.scr ns] Q E :=
  ⟨rfl, [.scr ns, .d (.int 0)], rfl, s_law_box (by decide) ⟨rfl, [.deal 1], rfl, s_law_board_right2 T F ⟨rfl, true, rfl, [.scr ns, .d (.int 1)], rfl, s_law_box (by decide) ⟨rfl, [.deal 1], rfl, s_law_board_right2 T F ⟨rfl, _, rfl, h⟩⟩⟩⟩⟩
end LW
set_option Elab.async false
set_option linter.all false
set_option maxRecDepth 100000
set_option maxHeartbeats 1000000
/-! ZE: what the head has written, told to the walks. -/
namespace LW
open PySem PySem.Spec PyProof.Rows L2 VL
section
variable {K : PySem.W.Frag} {mg : Str → Option Value}
def ErFn (K : PySem.W.Frag) (file : Str) (C fI : Addr) (f : Str) : Prop := ∃ (oc : Value) (od : Option Addr) (qual : Str) (sc : Scope) (doc pm : Value) (an : Option Addr) (ct : Value) (osl : Array (Option Value)) (cda cc : Addr) (txt : Str) (j : Nat) (r1 r2 p0 p1 p2 p3 p4 p5 q1 q2 q3 q4 : Pos)
      (ccl : Value) (cdd : Option Addr) (vs : Array Value) (ccs : Array (Option Value)) (tf : Tok) (cl : Value) (cld : Option Addr) (csl : Array (Option Value)),
    K.lookup fI = some ⟨oc, od, .func (PySem.W.fnX "__init__" qual (ER.iA f r1 r2) (ER.iB txt f j p0 p1 p2 p3 p4 p5 q1 q2 q3 q4) sc [("__class__", cc)] .none .none doc pm an (.ref cda) ct), osl⟩ ∧ PySem.W.codeIn K (.ref cda) qual = true ∧ ER.Sc f sc ∧
      K.lookup cda = some ⟨ccl, cdd, .fields vs, ccs⟩ ∧ vs[2]? = some (.str file tf) ∧ K.lookup cc = some ⟨cl, cld, .cell (some (.ref C)), csl⟩ ∧ ∃ pl : Sem Bool, ∀ env : Env, eval (.Call (.Attribute (.Call (.Name "super" p0) [] [] p1) "__init__" p2) [.Constant (.str txt) j p3] [] p4) env = (do
        let ov ← attributeBase (.Call (.Name "super" p0) [] [] p1) "__init__" env (eval (.Call (.Name "super" p0) [] [] p1) env)
        standAt p2.atName
        let (f, first) ← holding [ov] (getMethod ov "__init__" pl)
        callWith p4 f first (backTo p4 (starEach [.Constant (.str txt) j p3] env)) [])
theorem erFn_mk {file : Str} {C fI : Addr} {f : Str} {oc : Value} {od : Option Addr} {qual : Str} {sc : Scope} {doc pm : Value} {an : Option Addr} {ct : Value} {osl : Array (Option Value)} {cda cc : Addr} {txt : Str} {j : Nat} {r1 r2 p0 p1 p2 p3 p4 p5 q1 q2 q3 q4 : Pos}
    {ccl : Value} {cdd : Option Addr} {vs : Array Value} {ccs : Array (Option Value)} {tf : Tok} {cl : Value} {cld : Option Addr} {csl : Array (Option Value)}
    (h1 : K.lookup fI = some ⟨oc, od, .func (PySem.W.fnX "__init__" qual (ER.iA f r1 r2) (ER.iB txt f j p0 p1 p2 p3 p4 p5 q1 q2 q3 q4) sc [("__class__", cc)] .none .none doc pm an (.ref cda) ct), osl⟩) (h2 : PySem.W.codeIn K (.ref cda) qual = true) (h3 : ER.Sc f sc)
    (h4 : K.lookup cda = some ⟨ccl, cdd, .fields vs, ccs⟩) (h5 : vs[2]? = some (.str file tf)) (h6 : K.lookup cc = some ⟨cl, cld, .cell (some (.ref C)), csl⟩)
    (h7 : ∃ pl : Sem Bool, ∀ env : Env, eval (.Call (.Attribute (.Call (.Name "super" p0) [] [] p1) "__init__" p2) [.Constant (.str txt) j p3] [] p4) env = (do
        let ov ← attributeBase (.Call (.Name "super" p0) [] [] p1) "__init__" env (eval (.Call (.Name "super" p0) [] [] p1) env)
        standAt p2.atName
        let (f, first) ← holding [ov] (getMethod ov "__init__" pl)
        callWith p4 f first (backTo p4 (starEach [.Constant (.str txt) j p3] env)) [])) : ErFn K file C fI f :=
  ⟨_, _, _, _, _, _, _, _, _, _, _, _, _, _, _, _, _, _, _, _, _, _, _, _, _, _, _, _, _, _, _, _, _, h1, h2, h3, h4, h5, h6, h7⟩
theorem er_mk {file : Str} {C fI B : Addr} (f : Str)
    (cls : ∃ nm q N bs sn sub ab col dd k0 k1 k2 k3 k5, K.lookup C = some (excClassObj nm q C N bs (.ref B :: PySem.ESX.exTail) true sn sub ab col dd k0 k1 k2 k3 k5 "Exception.__new__"))
    (sa : PySem.W.findIn K (.ref C) "__setattr__" = some (some (.builtin "object.__setattr__"))) (ga : PySem.W.findIn K (.ref C) "__getattribute__" = some (some (.builtin "BaseException.__getattribute__"))) (gg : PySem.W.findIn K (.ref C) "__getattr__" = some none)
    (noN : PySem.W.findIn K (.ref C) f = some none) (iC : PySem.W.findIn K (.ref C) "__init__" = some (some (.ref fI))) (tC : PySem.W.typeIn K (.ref fI) = some (.type "function")) (kC : PySem.W.keepIn K (.ref C) = true)
    (exC : PySem.W.subIn K (.ref C) (.type "BaseException") = some true) (ex2 : PySem.W.subIn K (.ref C) (.type "Exception") = some true) (tyC : PySem.W.typeIn K (.ref C) = some (.type "type")) (hdC : PySem.W.hasDictIn K C = true)
    (opq : PySem.W.nsIn K cStatics "thirdparty.any" = some none) (alg : PySem.W.alongIn K "__init__" (.ref B :: PySem.ESX.exTail) = some (some (.builtin "Exception.__init__"))) (own : PySem.W.mroIn K C (.ref C) = some true) (sup : mg "super" = none) (fn : ErFn K file C fI f) : ER.Txt K file mg C fI B f := by
  refine ⟨cls, sa, ga, gg, noN, iC, tC, kC, exC, ex2, tyC, hdC, opq, alg, own, sup, ?_⟩
  obtain ⟨oc, od, qual, sc, doc, pm, an, ct, osl, cda, cc, txt, j, r1, r2, p0, p1, p2, p3, p4, p5, q1, q2, q3, q4, ccl, cdd, vs, ccs, tf, cl, cld, csl, h1, h2, h3, h4, h5, h6, h7⟩ := fn
  exact ⟨oc, od, qual, sc, doc, pm, an, ct, osl, cda, cc, txt, j, r1, r2, p0, p1, p2, p3, p4, p5, q1, q2, q3, q4, ccl, cdd, vs, ccs, tf, cl, cld, csl, h1, h2, h3, h4, h5, h6, h7⟩
theorem alg_of {B : Addr} {nm q : Str} {N : Addr} {bs : List Value} {sn : List Str} {sub : List Value} {ab : Bool} {col : Option Bool} {dd : Option Addr} {k0 k1 k2 k3 k5 : Option Value}
    (x : K.lookup B = some (excClassObj nm q B N bs PySem.ESX.exTail true sn sub ab col dd k0 k1 k2 k3 k5 "Exception.__new__")) (i : PySem.W.findIn K (.ref B) "__init__" = some (some (.builtin "Exception.__init__"))) : PySem.W.alongIn K "__init__" (.ref B :: PySem.ESX.exTail) = some (some (.builtin "Exception.__init__")) := by
  obtain ⟨cd, hcd, ha⟩ := PySem.W.kw_along i
  unfold PySem.W.clsIn at hcd
  rw [x] at hcd
  cases hcd
  exact ha
/-! ### kinds asked of classes -/
theorem kit_sub {t : Value} {S : Addr} {b : Bool} (h2 : PySem.W.isClsIn K S = true) (h3 : PySem.W.typeIn K (.ref S) = some (.type "type")) (h4 : PySem.W.subIn K t (.ref S) = some b) (hb : (t == .ref S) = true → b = true) : PySem.W.kitOne K t (.ref S) = some b := by
  unfold PySem.W.kitOne
  by_cases e : (t == .ref S) = true
  · rw [if_pos e, hb e]
  · rw [if_neg e]
    have h2' : (PySem.W.clsIn K S).isSome = true := h2
    show (if ((PySem.W.clsIn K S).isSome && PySem.W.typeIn K (.ref S) == some (.type "type")) = true then PySem.W.subIn K t (.ref S) else none) = some b
    rw [h2', h3]
    exact h4
theorem kit_type {t : Value} {T : String} {b : Bool} (hm : PySem.W.kitMeta T = true) (h4 : PySem.W.subIn K t (.type T) = some b) (hne : (t == .type T) = false) : PySem.W.kitOne K t (.type T) = some b := by
  unfold PySem.W.kitOne
  rw [hne]
  show (if PySem.W.kitMeta T = true then PySem.W.subIn K t (.type T) else none) = some b
  rw [if_pos hm]
  exact h4
theorem exm_sub {D S : Addr} {b : Bool} (h1 : PySem.W.subIn K (.ref S) (.type "BaseException") = some true) (h2 : PySem.W.isClsIn K S = true) (h3 : PySem.W.typeIn K (.ref S) = some (.type "type")) (h4 : PySem.W.subIn K (.ref D) (.ref S) = some b) : PySem.W.exmOne K (.ref D) (.ref S) = some b := by
  have e1 : (PySem.W.subIn K (.ref S) (.type "BaseException") == some true) = true := by rw [h1] <;> rfl
  have h2' : (PySem.W.clsIn K S).isSome = true := h2
  unfold PySem.W.exmOne
  rw [if_pos e1]
  show (if ((PySem.W.clsIn K S).isSome && PySem.W.typeIn K (.ref S) == some (.type "type")) = true then PySem.W.subIn K (.ref D) (.ref S) else none) = some b
  rw [h2', h3]
  exact h4
end
/-! ### the end -/
def spEnd (K : PySem.W.Frag) : Sp := fun vs H Q E => ∃ (a : Addr) (ns : List Int), vs = [.ref a] ∧ SqL K H a (ns.map V.int) ∧ Only H ∧ ∀ H', Q (.bl true) H'
theorem scr_of {K : PySem.W.Frag} {H : Hp} {a : Addr} {ns : List Int} (hO : Only H) (h : SqL K H a (ns.map V.int)) : Scr K H a ns := by
  rcases h with (h | ⟨o, h⟩) | h
  · rcases hO a with e | ⟨o, xs, e⟩
    · rw [h] at e; cases e
    · rw [h] at e; cases e
  · exact .inl ⟨o, h⟩
  · exact .inr (.inr h)
theorem end_spec {K : PySem.W.Frag} {p : VSp} (hp : ∀ ns : List Int, p [.scr ns] (fun tv => tv = .d (.bool true)) fun _ => False) : ∀ vs H Q E, spEnd K vs H Q E → spV K p vs H Q E := fun vs H Q E ⟨a, ns, ev, hS, hO, q⟩ => by
  subst ev
  refine ⟨⟨fun _ => False, fun _ => 0⟩, [.scr ns], (fun tv => tv = .d (.bool true)), (fun _ => False), ⟨fun a => ⟨(fun z => nomatch z), (fun z => nomatch z), (fun z => nomatch z), Nat.zero_le _⟩, (fun _ z => z.elim), (fun _ z => z.elim), fun _ _ h _ => h, fun _ h => h, (fun _ z => z.elim), (fun _ z => absurd rfl z), (fun _ z => absurd rfl z)⟩,
    .cons ⟨⟨a, rfl, scr_of hO hS⟩, trivial⟩ .nil, hp ns, (fun _ _ _ _ _ _ _ z => z.elim), fun tv G' H' v ex rt e => ?_⟩
  subst e
  have rt' : Rp K G'.F H' v (.bool true) := rt
  cases rt'
  exact q _
/-! ### keywords -/
theorem vals_pick {vs : List V} {us : List Value} (h : Vals vs us) (perm : List Nat) : Vals (pick perm vs) (pick perm us) := paired_pick h perm
theorem vals_pk0 {perm : List Nat} {vs : List V} {us : List Value} {zs : List V} {ws : List Value} (h : Vals vs us) (h2 : Vals zs ws) : Vals (pk0 perm vs zs) (pk0 perm us ws) := by
  cases h with
  | nil => exact vals_pick h2 perm
  | cons _ _ => exact .nil
theorem vals_pk0D {perm : List Nat} {vs : List V} {us : List Value} {zs : List V} {ws : List Value} (h : Vals vs us) (h2 : Vals zs ws) : Vals (pk0D perm .non vs zs) (pk0D perm .none us ws) := by
  cases h with
  | nil => exact (vals_pick h2 perm).append (.cons rfl .nil)
  | cons _ _ => exact .nil
theorem vals_pkN {n : Nat} {perm : List Nat} {vs : List V} {us : List Value} {zs : List V} {ws : List Value} (h : Vals vs us) (h2 : Vals zs ws) : Vals (pkN n perm vs zs) (pkN n perm us ws) := by
  unfold pkN
  rw [h.length]
  by_cases e : us.length = n
  · rw [if_pos e, if_pos e]
    exact vals_pick (h.append h2) perm
  · rw [if_neg e, if_neg e]
    exact .nil
end LW
set_option Elab.async false
set_option linter.all false
set_option maxRecDepth 100000
set_option maxHeartbeats 4000000
/-! printed by gen.py: what the head has written, told to Txt -/
namespace LW
open PySem PySem.Spec PyProof.Rows L2 VL ER
theorem kb_ok_Board_read {K : PySem.W.Frag} {f : Addr} {fd : FuncData} (F : Fun K "read" "Board.read" st_Board_read f fd) : KBinds K fd ["text"] ["text"] (pk0 [0]) (pk0 [0]) := by
  refine ⟨fun s us ws _ hl => ?_, fun h h2 => vals_pk0 h h2⟩
  obtain ⟨oc, od, kV, doc, pm, an, cdv, ct, osl, rfl, lk, hcd⟩ := F.ex
  rcases us with _ | ⟨u, us⟩
  · match ws, hl with
    | w0 :: ws, _ => exact .of_eq rfl
    | [], hl => first | cases hl | (simp [pk0, pick] at hl)
  · cases hl
theorem all_T {K : PySem.W.Frag} {h : Heap} {mg : Str → Option Value} (X : K.In h) (G : h.Ns mainGlobals mg)
    {a_BoardError a_InvalidBoard a_InvalidSetting a_InvalidText a_InvalidSize a_Board a_InvalidBoard_init a_InvalidSetting_init a_InvalidText_init a_InvalidSize_init a_is_integer a_is_number a_is_text a_is_sequence a_is_number_text a_settings_count a_steps_of a_setting_number a_wrong_content a_wrong_size a_wrong_mark a_Board_init a_Board_eq a_Board_len a_Board_call a_Board_text a_Board_read a_many_of_row a_sizes_of_row a_law_box a_law_take a_law_pick a_law_count a_law_number a_law_words a_law_rows a_law_head a_law_due a_law_told a_law_spoilt a_law_board_right a_law : Addr} {d_is_integer d_is_number d_is_text d_is_sequence d_is_number_text d_settings_count d_steps_of d_setting_number d_wrong_content d_wrong_size d_wrong_mark d_Board_init d_Board_eq d_Board_len d_Board_call d_Board_text d_Board_read d_many_of_row d_sizes_of_row d_law_box d_law_take d_law_pick d_law_count d_law_number d_law_words d_law_rows d_law_head d_law_due d_law_told d_law_spoilt d_law_board_right d_law : FuncData}
    {t_FIGURES : Tok}
    {t_MOST_MARKS : Nat}
    {t_MOST_PARTS : Nat}
    {t_MOST_SETTINGS : Nat}
    {nm_B q_B : Str} {N_B : Addr} {bs_B : List Value} {sn_B : List Str} {sub_B : List Value} {ab_B : Bool} {col_B : Option Bool} {dd_B : Option Addr} {k0_B k1_B k2_B k3_B k5_B : Option Value}
    {nm_InvalidBoard q_InvalidBoard : Str} {N_InvalidBoard : Addr} {bs_InvalidBoard : List Value} {sn_InvalidBoard : List Str} {sub_InvalidBoard : List Value} {ab_InvalidBoard : Bool} {col_InvalidBoard : Option Bool} {dd_InvalidBoard : Option Addr} {k0_InvalidBoard k1_InvalidBoard k2_InvalidBoard k3_InvalidBoard k5_InvalidBoard : Option Value}
    {nm_InvalidSetting q_InvalidSetting : Str} {N_InvalidSetting : Addr} {bs_InvalidSetting : List Value} {sn_InvalidSetting : List Str} {sub_InvalidSetting : List Value} {ab_InvalidSetting : Bool} {col_InvalidSetting : Option Bool} {dd_InvalidSetting : Option Addr} {k0_InvalidSetting k1_InvalidSetting k2_InvalidSetting k3_InvalidSetting k5_InvalidSetting : Option Value}
    {nm_InvalidText q_InvalidText : Str} {N_InvalidText : Addr} {bs_InvalidText : List Value} {sn_InvalidText : List Str} {sub_InvalidText : List Value} {ab_InvalidText : Bool} {col_InvalidText : Option Bool} {dd_InvalidText : Option Addr} {k0_InvalidText k1_InvalidText k2_InvalidText k3_InvalidText k5_InvalidText : Option Value}
    {nm_InvalidSize q_InvalidSize : Str} {N_InvalidSize : Addr} {bs_InvalidSize : List Value} {sn_InvalidSize : List Str} {sub_InvalidSize : List Value} {ab_InvalidSize : Bool} {col_InvalidSize : Option Bool} {dd_InvalidSize : Option Addr} {k0_InvalidSize k1_InvalidSize k2_InvalidSize k3_InvalidSize k5_InvalidSize : Option Value}
    {p_Board_read : Addr} {rest_Board_read : List Value}
    (zg_BoardError : PySem.W.nsIn K mainGlobals "BoardError" = some (some (.ref a_BoardError)))
    (zg_InvalidBoard : PySem.W.nsIn K mainGlobals "InvalidBoard" = some (some (.ref a_InvalidBoard)))
    (zg_InvalidSetting : PySem.W.nsIn K mainGlobals "InvalidSetting" = some (some (.ref a_InvalidSetting)))
    (zg_InvalidText : PySem.W.nsIn K mainGlobals "InvalidText" = some (some (.ref a_InvalidText)))
    (zg_InvalidSize : PySem.W.nsIn K mainGlobals "InvalidSize" = some (some (.ref a_InvalidSize)))
    (zg_Board : PySem.W.nsIn K mainGlobals "Board" = some (some (.ref a_Board)))
    (zg_is_integer : PySem.W.nsIn K mainGlobals "is_integer" = some (some (.ref a_is_integer)))
    (zg_is_number : PySem.W.nsIn K mainGlobals "is_number" = some (some (.ref a_is_number)))
    (zg_is_text : PySem.W.nsIn K mainGlobals "is_text" = some (some (.ref a_is_text)))
    (zg_is_sequence : PySem.W.nsIn K mainGlobals "is_sequence" = some (some (.ref a_is_sequence)))
    (zg_is_number_text : PySem.W.nsIn K mainGlobals "is_number_text" = some (some (.ref a_is_number_text)))
    (zg_settings_count : PySem.W.nsIn K mainGlobals "settings_count" = some (some (.ref a_settings_count)))
    (zg_steps_of : PySem.W.nsIn K mainGlobals "steps_of" = some (some (.ref a_steps_of)))
    (zg_setting_number : PySem.W.nsIn K mainGlobals "setting_number" = some (some (.ref a_setting_number)))
    (zg_wrong_content : PySem.W.nsIn K mainGlobals "wrong_content" = some (some (.ref a_wrong_content)))
    (zg_wrong_size : PySem.W.nsIn K mainGlobals "wrong_size" = some (some (.ref a_wrong_size)))
    (zg_wrong_mark : PySem.W.nsIn K mainGlobals "wrong_mark" = some (some (.ref a_wrong_mark)))
    (zg_many_of_row : PySem.W.nsIn K mainGlobals "many_of_row" = some (some (.ref a_many_of_row)))
    (zg_sizes_of_row : PySem.W.nsIn K mainGlobals "sizes_of_row" = some (some (.ref a_sizes_of_row)))
    (zg_law_box : PySem.W.nsIn K mainGlobals "_law_box" = some (some (.ref a_law_box)))
    (zg_law_take : PySem.W.nsIn K mainGlobals "_law_take" = some (some (.ref a_law_take)))
    (zg_law_pick : PySem.W.nsIn K mainGlobals "_law_pick" = some (some (.ref a_law_pick)))
    (zg_law_count : PySem.W.nsIn K mainGlobals "_law_count" = some (some (.ref a_law_count)))
    (zg_law_number : PySem.W.nsIn K mainGlobals "_law_number" = some (some (.ref a_law_number)))
    (zg_law_words : PySem.W.nsIn K mainGlobals "_law_words" = some (some (.ref a_law_words)))
    (zg_law_rows : PySem.W.nsIn K mainGlobals "_law_rows" = some (some (.ref a_law_rows)))
    (zg_law_head : PySem.W.nsIn K mainGlobals "_law_head" = some (some (.ref a_law_head)))
    (zg_law_due : PySem.W.nsIn K mainGlobals "_law_due" = some (some (.ref a_law_due)))
    (zg_law_told : PySem.W.nsIn K mainGlobals "_law_told" = some (some (.ref a_law_told)))
    (zg_law_spoilt : PySem.W.nsIn K mainGlobals "_law_spoilt" = some (some (.ref a_law_spoilt)))
    (zg_law_board_right : PySem.W.nsIn K mainGlobals "_law_board_right" = some (some (.ref a_law_board_right)))
    (zg_law : PySem.W.nsIn K mainGlobals "law" = some (some (.ref a_law)))
    (zgsd : PySem.W.specialIn K (.builtin "object.__class__") "__get__" = some (some (.builtin "getset_descriptor.__get__")))
    (zgst : PySem.W.takesIn K (.builtin "object.__class__") = some true)
    (zopq : PySem.W.nsIn K cStatics "thirdparty.any" = some none)
    (zsup : PySem.W.nsIn K mainGlobals "super" = some none)
    (zc_FIGURES : PySem.W.nsIn K mainGlobals "FIGURES" = some (some (.str "0123456789" t_FIGURES)))
    (zc_MOST_MARKS : PySem.W.nsIn K mainGlobals "MOST_MARKS" = some (some (.int 8 t_MOST_MARKS)))
    (zc_MOST_PARTS : PySem.W.nsIn K mainGlobals "MOST_PARTS" = some (some (.int 8 t_MOST_PARTS)))
    (zc_MOST_SETTINGS : PySem.W.nsIn K mainGlobals "MOST_SETTINGS" = some (some (.int 20000 t_MOST_SETTINGS)))
    (zn_ValueError : PySem.W.nsIn K mainGlobals "ValueError" = some none)
    (zn_abs : PySem.W.nsIn K mainGlobals "abs" = some none)
    (zn_all : PySem.W.nsIn K mainGlobals "all" = some none)
    (zn_bool : PySem.W.nsIn K mainGlobals "bool" = some none)
    (zn_enumerate : PySem.W.nsIn K mainGlobals "enumerate" = some none)
    (zn_int : PySem.W.nsIn K mainGlobals "int" = some none)
    (zn_isinstance : PySem.W.nsIn K mainGlobals "isinstance" = some none)
    (zn_len : PySem.W.nsIn K mainGlobals "len" = some none)
    (zn_list : PySem.W.nsIn K mainGlobals "list" = some none)
    (zn_min : PySem.W.nsIn K mainGlobals "min" = some none)
    (zn_range : PySem.W.nsIn K mainGlobals "range" = some none)
    (zn_repr : PySem.W.nsIn K mainGlobals "repr" = some none)
    (zn_reversed : PySem.W.nsIn K mainGlobals "reversed" = some none)
    (zn_str : PySem.W.nsIn K mainGlobals "str" = some none)
    (zn_tuple : PySem.W.nsIn K mainGlobals "tuple" = some none)
    (zn_zip : PySem.W.nsIn K mainGlobals "zip" = some none)
    (zx_B : K.lookup a_BoardError = some (excClassObj nm_B q_B a_BoardError N_B bs_B PySem.ESX.exTail true sn_B sub_B ab_B col_B dd_B k0_B k1_B k2_B k3_B k5_B "Exception.__new__"))
    (zi_B : PySem.W.findIn K (.ref a_BoardError) "__init__" = some (some (.builtin "Exception.__init__")))
    (zx_InvalidBoard : K.lookup a_InvalidBoard = some (excClassObj nm_InvalidBoard q_InvalidBoard a_InvalidBoard N_InvalidBoard bs_InvalidBoard (.ref a_BoardError :: PySem.ESX.exTail) true sn_InvalidBoard sub_InvalidBoard ab_InvalidBoard col_InvalidBoard dd_InvalidBoard k0_InvalidBoard k1_InvalidBoard k2_InvalidBoard k3_InvalidBoard k5_InvalidBoard "Exception.__new__"))
    (zsa_InvalidBoard : PySem.W.findIn K (.ref a_InvalidBoard) "__setattr__" = some (some (.builtin "object.__setattr__")))
    (zga_InvalidBoard : PySem.W.findIn K (.ref a_InvalidBoard) "__getattribute__" = some (some (.builtin "BaseException.__getattribute__")))
    (zgg_InvalidBoard : PySem.W.findIn K (.ref a_InvalidBoard) "__getattr__" = some none)
    (zno_InvalidBoard : PySem.W.findIn K (.ref a_InvalidBoard) "at" = some none)
    (zin_InvalidBoard : PySem.W.findIn K (.ref a_InvalidBoard) "__init__" = some (some (.ref a_InvalidBoard_init)))
    (ztf_InvalidBoard : PySem.W.typeIn K (.ref a_InvalidBoard_init) = some (.type "function"))
    (zkp_InvalidBoard : PySem.W.keepIn K (.ref a_InvalidBoard) = true)
    (zs1_InvalidBoard : PySem.W.subIn K (.ref a_InvalidBoard) (.type "BaseException") = some true)
    (zs2_InvalidBoard : PySem.W.subIn K (.ref a_InvalidBoard) (.type "Exception") = some true)
    (zty_InvalidBoard : PySem.W.typeIn K (.ref a_InvalidBoard) = some (.type "type"))
    (zhd_InvalidBoard : PySem.W.hasDictIn K a_InvalidBoard = true)
    (zow_InvalidBoard : PySem.W.mroIn K a_InvalidBoard (.ref a_InvalidBoard) = some true)
    (zha_InvalidBoard : PySem.W.findIn K (.ref a_InvalidBoard) "__class__" = some (some (.builtin "object.__class__")))
    (zmo_InvalidBoard : PySem.W.mroIn K a_InvalidBoard (.type "object") = some true)
    (zfn_InvalidBoard : ErFn K PP.main.file a_InvalidBoard a_InvalidBoard_init "at")
    (zx_InvalidSetting : K.lookup a_InvalidSetting = some (excClassObj nm_InvalidSetting q_InvalidSetting a_InvalidSetting N_InvalidSetting bs_InvalidSetting (.ref a_BoardError :: PySem.ESX.exTail) true sn_InvalidSetting sub_InvalidSetting ab_InvalidSetting col_InvalidSetting dd_InvalidSetting k0_InvalidSetting k1_InvalidSetting k2_InvalidSetting k3_InvalidSetting k5_InvalidSetting "Exception.__new__"))
    (zsa_InvalidSetting : PySem.W.findIn K (.ref a_InvalidSetting) "__setattr__" = some (some (.builtin "object.__setattr__")))
    (zga_InvalidSetting : PySem.W.findIn K (.ref a_InvalidSetting) "__getattribute__" = some (some (.builtin "BaseException.__getattribute__")))
    (zgg_InvalidSetting : PySem.W.findIn K (.ref a_InvalidSetting) "__getattr__" = some none)
    (zno_InvalidSetting : PySem.W.findIn K (.ref a_InvalidSetting) "at" = some none)
    (zin_InvalidSetting : PySem.W.findIn K (.ref a_InvalidSetting) "__init__" = some (some (.ref a_InvalidSetting_init)))
    (ztf_InvalidSetting : PySem.W.typeIn K (.ref a_InvalidSetting_init) = some (.type "function"))
    (zkp_InvalidSetting : PySem.W.keepIn K (.ref a_InvalidSetting) = true)
    (zs1_InvalidSetting : PySem.W.subIn K (.ref a_InvalidSetting) (.type "BaseException") = some true)
    (zs2_InvalidSetting : PySem.W.subIn K (.ref a_InvalidSetting) (.type "Exception") = some true)
    (zty_InvalidSetting : PySem.W.typeIn K (.ref a_InvalidSetting) = some (.type "type"))
    (zhd_InvalidSetting : PySem.W.hasDictIn K a_InvalidSetting = true)
    (zow_InvalidSetting : PySem.W.mroIn K a_InvalidSetting (.ref a_InvalidSetting) = some true)
    (zha_InvalidSetting : PySem.W.findIn K (.ref a_InvalidSetting) "__class__" = some (some (.builtin "object.__class__")))
    (zmo_InvalidSetting : PySem.W.mroIn K a_InvalidSetting (.type "object") = some true)
    (zfn_InvalidSetting : ErFn K PP.main.file a_InvalidSetting a_InvalidSetting_init "at")
    (zx_InvalidText : K.lookup a_InvalidText = some (excClassObj nm_InvalidText q_InvalidText a_InvalidText N_InvalidText bs_InvalidText (.ref a_BoardError :: PySem.ESX.exTail) true sn_InvalidText sub_InvalidText ab_InvalidText col_InvalidText dd_InvalidText k0_InvalidText k1_InvalidText k2_InvalidText k3_InvalidText k5_InvalidText "Exception.__new__"))
    (zsa_InvalidText : PySem.W.findIn K (.ref a_InvalidText) "__setattr__" = some (some (.builtin "object.__setattr__")))
    (zga_InvalidText : PySem.W.findIn K (.ref a_InvalidText) "__getattribute__" = some (some (.builtin "BaseException.__getattribute__")))
    (zgg_InvalidText : PySem.W.findIn K (.ref a_InvalidText) "__getattr__" = some none)
    (zno_InvalidText : PySem.W.findIn K (.ref a_InvalidText) "at" = some none)
    (zin_InvalidText : PySem.W.findIn K (.ref a_InvalidText) "__init__" = some (some (.ref a_InvalidText_init)))
    (ztf_InvalidText : PySem.W.typeIn K (.ref a_InvalidText_init) = some (.type "function"))
    (zkp_InvalidText : PySem.W.keepIn K (.ref a_InvalidText) = true)
    (zs1_InvalidText : PySem.W.subIn K (.ref a_InvalidText) (.type "BaseException") = some true)
    (zs2_InvalidText : PySem.W.subIn K (.ref a_InvalidText) (.type "Exception") = some true)
    (zty_InvalidText : PySem.W.typeIn K (.ref a_InvalidText) = some (.type "type"))
    (zhd_InvalidText : PySem.W.hasDictIn K a_InvalidText = true)
    (zow_InvalidText : PySem.W.mroIn K a_InvalidText (.ref a_InvalidText) = some true)
    (zha_InvalidText : PySem.W.findIn K (.ref a_InvalidText) "__class__" = some (some (.builtin "object.__class__")))
    (zmo_InvalidText : PySem.W.mroIn K a_InvalidText (.type "object") = some true)
    (zfn_InvalidText : ErFn K PP.main.file a_InvalidText a_InvalidText_init "at")
    (zx_InvalidSize : K.lookup a_InvalidSize = some (excClassObj nm_InvalidSize q_InvalidSize a_InvalidSize N_InvalidSize bs_InvalidSize (.ref a_BoardError :: PySem.ESX.exTail) true sn_InvalidSize sub_InvalidSize ab_InvalidSize col_InvalidSize dd_InvalidSize k0_InvalidSize k1_InvalidSize k2_InvalidSize k3_InvalidSize k5_InvalidSize "Exception.__new__"))
    (zsa_InvalidSize : PySem.W.findIn K (.ref a_InvalidSize) "__setattr__" = some (some (.builtin "object.__setattr__")))
    (zga_InvalidSize : PySem.W.findIn K (.ref a_InvalidSize) "__getattribute__" = some (some (.builtin "BaseException.__getattribute__")))
    (zgg_InvalidSize : PySem.W.findIn K (.ref a_InvalidSize) "__getattr__" = some none)
    (zno_InvalidSize : PySem.W.findIn K (.ref a_InvalidSize) "word" = some none)
    (zin_InvalidSize : PySem.W.findIn K (.ref a_InvalidSize) "__init__" = some (some (.ref a_InvalidSize_init)))
    (ztf_InvalidSize : PySem.W.typeIn K (.ref a_InvalidSize_init) = some (.type "function"))
    (zkp_InvalidSize : PySem.W.keepIn K (.ref a_InvalidSize) = true)
    (zs1_InvalidSize : PySem.W.subIn K (.ref a_InvalidSize) (.type "BaseException") = some true)
    (zs2_InvalidSize : PySem.W.subIn K (.ref a_InvalidSize) (.type "Exception") = some true)
    (zty_InvalidSize : PySem.W.typeIn K (.ref a_InvalidSize) = some (.type "type"))
    (zhd_InvalidSize : PySem.W.hasDictIn K a_InvalidSize = true)
    (zow_InvalidSize : PySem.W.mroIn K a_InvalidSize (.ref a_InvalidSize) = some true)
    (zha_InvalidSize : PySem.W.findIn K (.ref a_InvalidSize) "__class__" = some (some (.builtin "object.__class__")))
    (zmo_InvalidSize : PySem.W.mroIn K a_InvalidSize (.type "object") = some true)
    (zfn_InvalidSize : ErFn K PP.main.file a_InvalidSize a_InvalidSize_init "word")
    (zpg_Board : PySem.W.plainGet K a_Board Str.empty = true)
    (zhd_Board : PySem.W.hasDictIn K a_Board = true)
    (zpo_Board : PySem.W.plainOver K a_Board = true)
    (zsa_Board : PySem.W.findIn K (.ref a_Board) "__setattr__" = some (some (.builtin "object.__setattr__")))
    (zna_Board_many : PySem.W.findIn K (.ref a_Board) "many" = some none)
    (zna_Board_sizes : PySem.W.findIn K (.ref a_Board) "sizes" = some none)
    (zna_Board_marks : PySem.W.findIn K (.ref a_Board) "marks" = some none)
    (zna_Board_steps : PySem.W.findIn K (.ref a_Board) "steps" = some none)
    (zmk_Board : PySem.W.makesIn K a_Board = true)
    (zin_Board : PySem.W.findIn K (.ref a_Board) "__init__" = some (some (.ref a_Board_init)))
    (zif_Board : PySem.W.isFn K (.ref a_Board_init) = true)
    (zkp_Board : PySem.W.keepIn K (.ref a_Board) = true)
    (zha_Board : PySem.W.findIn K (.ref a_Board) "__class__" = some (some (.builtin "object.__class__")))
    (zmo_Board : PySem.W.mroIn K a_Board (.type "object") = some true)
    (zne_Board : PySem.W.findIn K (.ref a_Board) "__ne__" = some (some (.builtin "object.__ne__")))
    (zeq_Board : PySem.W.findIn K (.ref a_Board) "__eq__" = some (some (.ref a_Board_eq)))
    (zeqF_Board : PySem.W.isFn K (.ref a_Board_eq) = true)
    (zeqI_Board : PySem.W.fnIn K a_Board_eq = true)
    (zlen_Board : PySem.W.findIn K (.ref a_Board) "__len__" = some (some (.ref a_Board_len)))
    (zlenF_Board : PySem.W.isFn K (.ref a_Board_len) = true)
    (zlenI_Board : PySem.W.fnIn K a_Board_len = true)
    (zcall_Board : PySem.W.findIn K (.ref a_Board) "__call__" = some (some (.ref a_Board_call)))
    (zcallF_Board : PySem.W.isFn K (.ref a_Board_call) = true)
    (zcallI_Board : PySem.W.fnIn K a_Board_call = true)
    (zs1_Board_read : PySem.W.findCls K (.ref a_Board) (.type "type") "read" = some (.get (.builtin "staticmethod.__get__") (.ref p_Board_read) .none (.ref a_Board)))
    (zs2_Board_read : PySem.W.recIn K p_Board_read "staticmethod" = some (.ref a_Board_read :: rest_Board_read))
    (zs3_Board_read : PySem.W.readsIn K a_Board (.type "type") = true)
    (zs4_Board_read : PySem.W.specialIn K (.ref a_Board) "__getattribute__" = some (some (.builtin "type.__getattribute__")))
    (zs5_Board_read : PySem.W.keepIn K (.ref a_Board_read) = true)
    (zm1_Board_text : PySem.W.findIn K (.ref a_Board) "text" = some (some (.ref a_Board_text)))
    (zm2_Board_text : PySem.W.isFn K (.ref a_Board_text) = true)
    (zm3_Board_text : PySem.W.keepIn K (.ref a_Board_text) = true)
    (zF_is_integer : Fun K "is_integer" "is_integer" st_is_integer a_is_integer d_is_integer)
    (zF_is_number : Fun K "is_number" "is_number" st_is_number a_is_number d_is_number)
    (zF_is_text : Fun K "is_text" "is_text" st_is_text a_is_text d_is_text)
    (zF_is_sequence : Fun K "is_sequence" "is_sequence" st_is_sequence a_is_sequence d_is_sequence)
    (zF_is_number_text : Fun K "is_number_text" "is_number_text" st_is_number_text a_is_number_text d_is_number_text)
    (zF_settings_count : Fun K "settings_count" "settings_count" st_settings_count a_settings_count d_settings_count)
    (zF_steps_of : Fun K "steps_of" "steps_of" st_steps_of a_steps_of d_steps_of)
    (zF_setting_number : Fun K "setting_number" "setting_number" st_setting_number a_setting_number d_setting_number)
    (zF_wrong_content : Fun K "wrong_content" "wrong_content" st_wrong_content a_wrong_content d_wrong_content)
    (zF_wrong_size : Fun K "wrong_size" "wrong_size" st_wrong_size a_wrong_size d_wrong_size)
    (zF_wrong_mark : Fun K "wrong_mark" "wrong_mark" st_wrong_mark a_wrong_mark d_wrong_mark)
    (zF_Board_init : Fun K "__init__" "Board.__init__" st_Board_init a_Board_init d_Board_init)
    (zF_Board_eq : Fun K "__eq__" "Board.__eq__" st_Board_eq a_Board_eq d_Board_eq)
    (zF_Board_len : Fun K "__len__" "Board.__len__" st_Board_len a_Board_len d_Board_len)
    (zF_Board_call : Fun K "__call__" "Board.__call__" st_Board_call a_Board_call d_Board_call)
    (zF_Board_text : Fun K "text" "Board.text" st_Board_text a_Board_text d_Board_text)
    (zF_Board_read : Fun K "read" "Board.read" st_Board_read a_Board_read d_Board_read)
    (zF_many_of_row : Fun K "many_of_row" "many_of_row" st_many_of_row a_many_of_row d_many_of_row)
    (zF_sizes_of_row : Fun K "sizes_of_row" "sizes_of_row" st_sizes_of_row a_sizes_of_row d_sizes_of_row)
    (zF_law_box : Fun K "_law_box" "_law_box" st_law_box a_law_box d_law_box)
    (zF_law_take : Fun K "_law_take" "_law_take" st_law_take a_law_take d_law_take)
    (zF_law_pick : Fun K "_law_pick" "_law_pick" st_law_pick a_law_pick d_law_pick)
    (zF_law_count : Fun K "_law_count" "_law_count" st_law_count a_law_count d_law_count)
    (zF_law_number : Fun K "_law_number" "_law_number" st_law_number a_law_number d_law_number)
    (zF_law_words : Fun K "_law_words" "_law_words" st_law_words a_law_words d_law_words)
    (zF_law_rows : Fun K "_law_rows" "_law_rows" st_law_rows a_law_rows d_law_rows)
    (zF_law_head : Fun K "_law_head" "_law_head" st_law_head a_law_head d_law_head)
    (zF_law_due : Fun K "_law_due" "_law_due" st_law_due a_law_due d_law_due)
    (zF_law_told : Fun K "_law_told" "_law_told" st_law_told a_law_told d_law_told)
    (zF_law_spoilt : Fun K "_law_spoilt" "_law_spoilt" st_law_spoilt a_law_spoilt d_law_spoilt)
    (zF_law_board_right : Fun K "_law_board_right" "_law_board_right" st_law_board_right a_law_board_right d_law_board_right)
    (zF_law : Fun K "law" "law" st_law a_law d_law)
    : Txt K mg ⟨a_BoardError, a_InvalidBoard, a_InvalidSetting, a_InvalidText, a_InvalidSize, a_Board, a_InvalidBoard_init, a_InvalidSetting_init, a_InvalidText_init, a_InvalidSize_init, a_is_integer, d_is_integer, a_is_number, d_is_number, a_is_text, d_is_text, a_is_sequence, d_is_sequence, a_is_number_text, d_is_number_text, a_settings_count, d_settings_count, a_steps_of, d_steps_of, a_setting_number, d_setting_number, a_wrong_content, d_wrong_content, a_wrong_size, d_wrong_size, a_wrong_mark, d_wrong_mark, a_Board_init, d_Board_init, a_Board_eq, d_Board_eq, a_Board_len, d_Board_len, a_Board_call, d_Board_call, a_Board_text, d_Board_text, a_Board_read, d_Board_read, a_many_of_row, d_many_of_row, a_sizes_of_row, d_sizes_of_row, a_law_box, d_law_box, a_law_take, d_law_take, a_law_pick, d_law_pick, a_law_count, d_law_count, a_law_number, d_law_number, a_law_words, d_law_words, a_law_rows, d_law_rows, a_law_head, d_law_head, a_law_due, d_law_due, a_law_told, d_law_told, a_law_spoilt, d_law_spoilt, a_law_board_right, d_law_board_right, a_law, d_law⟩ where
  g_is_integer := PySem.W.mg_of X G zg_is_integer
  g_is_number := PySem.W.mg_of X G zg_is_number
  g_is_text := PySem.W.mg_of X G zg_is_text
  g_is_sequence := PySem.W.mg_of X G zg_is_sequence
  g_is_number_text := PySem.W.mg_of X G zg_is_number_text
  g_settings_count := PySem.W.mg_of X G zg_settings_count
  g_steps_of := PySem.W.mg_of X G zg_steps_of
  g_setting_number := PySem.W.mg_of X G zg_setting_number
  g_wrong_content := PySem.W.mg_of X G zg_wrong_content
  g_wrong_size := PySem.W.mg_of X G zg_wrong_size
  g_wrong_mark := PySem.W.mg_of X G zg_wrong_mark
  g_many_of_row := PySem.W.mg_of X G zg_many_of_row
  g_sizes_of_row := PySem.W.mg_of X G zg_sizes_of_row
  g_law_box := PySem.W.mg_of X G zg_law_box
  g_law_take := PySem.W.mg_of X G zg_law_take
  g_law_pick := PySem.W.mg_of X G zg_law_pick
  g_law_count := PySem.W.mg_of X G zg_law_count
  g_law_number := PySem.W.mg_of X G zg_law_number
  g_law_words := PySem.W.mg_of X G zg_law_words
  g_law_rows := PySem.W.mg_of X G zg_law_rows
  g_law_head := PySem.W.mg_of X G zg_law_head
  g_law_due := PySem.W.mg_of X G zg_law_due
  g_law_told := PySem.W.mg_of X G zg_law_told
  g_law_spoilt := PySem.W.mg_of X G zg_law_spoilt
  g_law_board_right := PySem.W.mg_of X G zg_law_board_right
  g_law := PySem.W.mg_of X G zg_law
  c_FIGURES := ⟨t_FIGURES, PySem.W.mg_of X G zc_FIGURES⟩
  c_MOST_MARKS := ⟨t_MOST_MARKS, PySem.W.mg_of X G zc_MOST_MARKS⟩
  c_MOST_PARTS := ⟨t_MOST_PARTS, PySem.W.mg_of X G zc_MOST_PARTS⟩
  c_MOST_SETTINGS := ⟨t_MOST_SETTINGS, PySem.W.mg_of X G zc_MOST_SETTINGS⟩
  n_ValueError := PySem.W.mg_none_of X G zn_ValueError
  n_abs := PySem.W.mg_none_of X G zn_abs
  n_all := PySem.W.mg_none_of X G zn_all
  n_bool := PySem.W.mg_none_of X G zn_bool
  n_enumerate := PySem.W.mg_none_of X G zn_enumerate
  n_int := PySem.W.mg_none_of X G zn_int
  n_isinstance := PySem.W.mg_none_of X G zn_isinstance
  n_len := PySem.W.mg_none_of X G zn_len
  n_list := PySem.W.mg_none_of X G zn_list
  n_min := PySem.W.mg_none_of X G zn_min
  n_range := PySem.W.mg_none_of X G zn_range
  n_repr := PySem.W.mg_none_of X G zn_repr
  n_reversed := PySem.W.mg_none_of X G zn_reversed
  n_str := PySem.W.mg_none_of X G zn_str
  n_tuple := PySem.W.mg_none_of X G zn_tuple
  n_zip := PySem.W.mg_none_of X G zn_zip
  g_BoardError := PySem.W.mg_of X G zg_BoardError
  g_InvalidBoard := PySem.W.mg_of X G zg_InvalidBoard
  g_InvalidSetting := PySem.W.mg_of X G zg_InvalidSetting
  g_InvalidText := PySem.W.mg_of X G zg_InvalidText
  g_InvalidSize := PySem.W.mg_of X G zg_InvalidSize
  g_Board := PySem.W.mg_of X G zg_Board
  e_InvalidBoard := er_mk "at" ⟨_, _, _, _, _, _, _, _, _, _, _, _, _, _, zx_InvalidBoard⟩ zsa_InvalidBoard zga_InvalidBoard zgg_InvalidBoard zno_InvalidBoard zin_InvalidBoard ztf_InvalidBoard zkp_InvalidBoard zs1_InvalidBoard zs2_InvalidBoard zty_InvalidBoard zhd_InvalidBoard zopq (alg_of zx_B zi_B) zow_InvalidBoard (PySem.W.mg_none_of X G zsup) zfn_InvalidBoard
  xf_InvalidBoard := ⟨zga_InvalidBoard, zgg_InvalidBoard, zs1_InvalidBoard, zhd_InvalidBoard⟩
  nx_InvalidBoard := zno_InvalidBoard
  exc_InvalidBoard := ⟨zga_InvalidBoard, zgg_InvalidBoard, zs1_InvalidBoard, zhd_InvalidBoard, zha_InvalidBoard, zgsd, zgst, zmo_InvalidBoard⟩
  e_InvalidSetting := er_mk "at" ⟨_, _, _, _, _, _, _, _, _, _, _, _, _, _, zx_InvalidSetting⟩ zsa_InvalidSetting zga_InvalidSetting zgg_InvalidSetting zno_InvalidSetting zin_InvalidSetting ztf_InvalidSetting zkp_InvalidSetting zs1_InvalidSetting zs2_InvalidSetting zty_InvalidSetting zhd_InvalidSetting zopq (alg_of zx_B zi_B) zow_InvalidSetting (PySem.W.mg_none_of X G zsup) zfn_InvalidSetting
  xf_InvalidSetting := ⟨zga_InvalidSetting, zgg_InvalidSetting, zs1_InvalidSetting, zhd_InvalidSetting⟩
  nx_InvalidSetting := zno_InvalidSetting
  exc_InvalidSetting := ⟨zga_InvalidSetting, zgg_InvalidSetting, zs1_InvalidSetting, zhd_InvalidSetting, zha_InvalidSetting, zgsd, zgst, zmo_InvalidSetting⟩
  e_InvalidText := er_mk "at" ⟨_, _, _, _, _, _, _, _, _, _, _, _, _, _, zx_InvalidText⟩ zsa_InvalidText zga_InvalidText zgg_InvalidText zno_InvalidText zin_InvalidText ztf_InvalidText zkp_InvalidText zs1_InvalidText zs2_InvalidText zty_InvalidText zhd_InvalidText zopq (alg_of zx_B zi_B) zow_InvalidText (PySem.W.mg_none_of X G zsup) zfn_InvalidText
  xf_InvalidText := ⟨zga_InvalidText, zgg_InvalidText, zs1_InvalidText, zhd_InvalidText⟩
  nx_InvalidText := zno_InvalidText
  exc_InvalidText := ⟨zga_InvalidText, zgg_InvalidText, zs1_InvalidText, zhd_InvalidText, zha_InvalidText, zgsd, zgst, zmo_InvalidText⟩
  e_InvalidSize := er_mk "word" ⟨_, _, _, _, _, _, _, _, _, _, _, _, _, _, zx_InvalidSize⟩ zsa_InvalidSize zga_InvalidSize zgg_InvalidSize zno_InvalidSize zin_InvalidSize ztf_InvalidSize zkp_InvalidSize zs1_InvalidSize zs2_InvalidSize zty_InvalidSize zhd_InvalidSize zopq (alg_of zx_B zi_B) zow_InvalidSize (PySem.W.mg_none_of X G zsup) zfn_InvalidSize
  xf_InvalidSize := ⟨zga_InvalidSize, zgg_InvalidSize, zs1_InvalidSize, zhd_InvalidSize⟩
  nx_InvalidSize := zno_InvalidSize
  exc_InvalidSize := ⟨zga_InvalidSize, zgg_InvalidSize, zs1_InvalidSize, zhd_InvalidSize, zha_InvalidSize, zgsd, zgst, zmo_InvalidSize⟩
  cls_Board := ⟨zpg_Board, zhd_Board, zpo_Board, zsa_Board⟩
  na_Board := fun f hf => by
    simp only [List.mem_cons, List.not_mem_nil, or_false] at hf
    rcases hf with rfl | rfl | rfl | rfl
    · exact zna_Board_many
    · exact zna_Board_sizes
    · exact zna_Board_marks
    · exact zna_Board_steps
  mk_Board := ⟨zmk_Board, zin_Board, zif_Board, zkp_Board⟩
  ok_Board := ⟨⟨zpg_Board, zhd_Board, zpo_Board, zsa_Board⟩, zha_Board, zgsd, zgst, zmo_Board⟩
  Board_eqAt := zeq_Board
  Board_eqFn := zeqF_Board
  Board_eqFi := zeqI_Board
  Board_lenAt := zlen_Board
  Board_lenFn := zlenF_Board
  Board_lenFi := zlenI_Board
  Board_callAt := zcall_Board
  Board_callFn := zcallF_Board
  Board_callFi := zcallI_Board
  sm_Board_read := ⟨⟨.type "type", p_Board_read, rest_Board_read, zs1_Board_read, zs2_Board_read, zs3_Board_read⟩, zs4_Board_read, zs5_Board_read⟩
  mt_Board_text := ⟨zm1_Board_text, zm2_Board_text, zm3_Board_text⟩
  Board_neAt := zne_Board
  Board_mro := zmo_Board
  f_is_integer := zF_is_integer
  b_is_integer := zF_is_integer.binds (ps := ["value"]) fun _ _ _ _ _ _ us hl => match us, hl with | [_], _ => rfl
  f_is_number := zF_is_number
  b_is_number := zF_is_number.binds (ps := ["value"]) fun _ _ _ _ _ _ us hl => match us, hl with | [_], _ => rfl
  f_is_text := zF_is_text
  b_is_text := zF_is_text.binds (ps := ["value"]) fun _ _ _ _ _ _ us hl => match us, hl with | [_], _ => rfl
  f_is_sequence := zF_is_sequence
  b_is_sequence := zF_is_sequence.binds (ps := ["value"]) fun _ _ _ _ _ _ us hl => match us, hl with | [_], _ => rfl
  f_is_number_text := zF_is_number_text
  b_is_number_text := zF_is_number_text.binds (ps := ["value", "most"]) fun _ _ _ _ _ _ us hl => match us, hl with | [_, _], _ => rfl
  f_settings_count := zF_settings_count
  b_settings_count := zF_settings_count.binds (ps := ["sizes"]) fun _ _ _ _ _ _ us hl => match us, hl with | [_], _ => rfl
  f_steps_of := zF_steps_of
  b_steps_of := zF_steps_of.binds (ps := ["sizes"]) fun _ _ _ _ _ _ us hl => match us, hl with | [_], _ => rfl
  f_setting_number := zF_setting_number
  b_setting_number := zF_setting_number.binds (ps := ["sizes", "setting"]) fun _ _ _ _ _ _ us hl => match us, hl with | [_, _], _ => rfl
  f_wrong_content := zF_wrong_content
  b_wrong_content := zF_wrong_content.binds (ps := ["sizes", "value"]) fun _ _ _ _ _ _ us hl => match us, hl with | [_, _], _ => rfl
  f_wrong_size := zF_wrong_size
  b_wrong_size := zF_wrong_size.binds (ps := ["sizes"]) fun _ _ _ _ _ _ us hl => match us, hl with | [_], _ => rfl
  f_wrong_mark := zF_wrong_mark
  b_wrong_mark := zF_wrong_mark.binds (ps := ["marks", "count", "many"]) fun _ _ _ _ _ _ us hl => match us, hl with | [_, _, _], _ => rfl
  f_Board_init := zF_Board_init
  b_Board_init := zF_Board_init.binds (ps := ["self", "many", "sizes", "marks"]) fun _ _ _ _ _ _ us hl => match us, hl with | [_, _, _, _], _ => rfl
  f_Board_eq := zF_Board_eq
  b_Board_eq := zF_Board_eq.binds (ps := ["self", "other"]) fun _ _ _ _ _ _ us hl => match us, hl with | [_, _], _ => rfl
  f_Board_len := zF_Board_len
  b_Board_len := zF_Board_len.binds (ps := ["self"]) fun _ _ _ _ _ _ us hl => match us, hl with | [_], _ => rfl
  f_Board_call := zF_Board_call
  b_Board_call := zF_Board_call.binds (ps := ["self", "setting"]) fun _ _ _ _ _ _ us hl => match us, hl with | [_, _], _ => rfl
  f_Board_text := zF_Board_text
  b_Board_text := zF_Board_text.binds (ps := ["self"]) fun _ _ _ _ _ _ us hl => match us, hl with | [_], _ => rfl
  f_Board_read := zF_Board_read
  b_Board_read := zF_Board_read.binds (ps := ["text"]) fun _ _ _ _ _ _ us hl => match us, hl with | [_], _ => rfl
  f_many_of_row := zF_many_of_row
  b_many_of_row := zF_many_of_row.binds (ps := ["row"]) fun _ _ _ _ _ _ us hl => match us, hl with | [_], _ => rfl
  f_sizes_of_row := zF_sizes_of_row
  b_sizes_of_row := zF_sizes_of_row.binds (ps := ["row"]) fun _ _ _ _ _ _ us hl => match us, hl with | [_], _ => rfl
  f_law_box := zF_law_box
  b_law_box := zF_law_box.binds (ps := ["script", "k"]) fun _ _ _ _ _ _ us hl => match us, hl with | [_, _], _ => rfl
  f_law_take := zF_law_take
  b_law_take := zF_law_take.binds (ps := ["box", "many"]) fun _ _ _ _ _ _ us hl => match us, hl with | [_, _], _ => rfl
  f_law_pick := zF_law_pick
  b_law_pick := zF_law_pick.binds (ps := ["box", "some"]) fun _ _ _ _ _ _ us hl => match us, hl with | [_, _], _ => rfl
  f_law_count := zF_law_count
  b_law_count := zF_law_count.binds (ps := ["sizes"]) fun _ _ _ _ _ _ us hl => match us, hl with | [_], _ => rfl
  f_law_number := zF_law_number
  b_law_number := zF_law_number.binds (ps := ["text", "most"]) fun _ _ _ _ _ _ us hl => match us, hl with | [_, _], _ => rfl
  f_law_words := zF_law_words
  b_law_words := zF_law_words.binds (ps := ["text"]) fun _ _ _ _ _ _ us hl => match us, hl with | [_], _ => rfl
  f_law_rows := zF_law_rows
  b_law_rows := zF_law_rows.binds (ps := ["text"]) fun _ _ _ _ _ _ us hl => match us, hl with | [_], _ => rfl
  f_law_head := zF_law_head
  b_law_head := zF_law_head.binds (ps := ["rows"]) fun _ _ _ _ _ _ us hl => match us, hl with | [_], _ => rfl
  f_law_due := zF_law_due
  b_law_due := zF_law_due.binds (ps := ["text"]) fun _ _ _ _ _ _ us hl => match us, hl with | [_], _ => rfl
  f_law_told := zF_law_told
  b_law_told := zF_law_told.binds (ps := ["text"]) fun _ _ _ _ _ _ us hl => match us, hl with | [_], _ => rfl
  f_law_spoilt := zF_law_spoilt
  b_law_spoilt := zF_law_spoilt.binds (ps := ["box", "text"]) fun _ _ _ _ _ _ us hl => match us, hl with | [_, _], _ => rfl
  f_law_board_right := zF_law_board_right
  b_law_board_right := zF_law_board_right.binds (ps := ["box"]) fun _ _ _ _ _ _ us hl => match us, hl with | [_], _ => rfl
  f_law := zF_law
  b_law := zF_law.binds (ps := ["script"]) fun _ _ _ _ _ _ us hl => match us, hl with | [_], _ => rfl
  kb_Board_read := kb_ok_Board_read zF_Board_read
end LW
set_option Elab.async false
set_option linter.all false
set_option maxRecDepth 100000
set_option maxHeartbeats 0
namespace LW
open PySem PySem.Spec PyProof.Rows L2 VL
theorem all_F {K : PySem.W.Frag} {A : Ad} {cb cbe cib ciz cis cit : Addr} (e0 : A.a_Board = cb) (e1 : A.a_BoardError = cbe) (e2 : A.a_InvalidBoard = cib) (e3 : A.a_InvalidSize = ciz) (e4 : A.a_InvalidSetting = cis) (e5 : A.a_InvalidText = cit)
    (y1 : PySem.W.isClsIn K cb = true)
    (y2 : PySem.W.typeIn K (.ref cb) = some (.type "type"))
    (y3 : PySem.W.subIn K (.ref cb) (.ref cb) = some true)
    (yk_NoneType : PySem.W.subIn K (.type "NoneType") (.ref cb) = some false)
    (yn_NoneType : PySem.W.notFirst K cb (.type "NoneType") = true)
    (yk_bool : PySem.W.subIn K (.type "bool") (.ref cb) = some false)
    (yn_bool : PySem.W.notFirst K cb (.type "bool") = true)
    (yk_int : PySem.W.subIn K (.type "int") (.ref cb) = some false)
    (yn_int : PySem.W.notFirst K cb (.type "int") = true)
    (yk_str : PySem.W.subIn K (.type "str") (.ref cb) = some false)
    (yn_str : PySem.W.notFirst K cb (.type "str") = true)
    (yk_list : PySem.W.subIn K (.type "list") (.ref cb) = some false)
    (yn_list : PySem.W.notFirst K cb (.type "list") = true)
    (yk_tuple : PySem.W.subIn K (.type "tuple") (.ref cb) = some false)
    (yn_tuple : PySem.W.notFirst K cb (.type "tuple") = true)
    (yk_dict : PySem.W.subIn K (.type "dict") (.ref cb) = some false)
    (yn_dict : PySem.W.notFirst K cb (.type "dict") = true)
    (y4 : PySem.W.notFirst K cb (.ref cb) = true)
    (yc_be : PySem.W.isClsIn K cbe = true)
    (yt_be : PySem.W.typeIn K (.ref cbe) = some (.type "type"))
    (yc_ib : PySem.W.isClsIn K cib = true)
    (yt_ib : PySem.W.typeIn K (.ref cib) = some (.type "type"))
    (ye_ib : PySem.W.subIn K (.ref cib) (.type "BaseException") = some true)
    (ys_ib : PySem.W.subIn K (.ref cib) (.ref cib) = some true)
    (yb_ib : PySem.W.subIn K (.ref cib) (.ref cbe) = some true)
    (yc_iz : PySem.W.isClsIn K ciz = true)
    (yt_iz : PySem.W.typeIn K (.ref ciz) = some (.type "type"))
    (ye_iz : PySem.W.subIn K (.ref ciz) (.type "BaseException") = some true)
    (ys_iz : PySem.W.subIn K (.ref ciz) (.ref ciz) = some true)
    (yb_iz : PySem.W.subIn K (.ref ciz) (.ref cbe) = some true)
    (yc_is : PySem.W.isClsIn K cis = true)
    (yt_is : PySem.W.typeIn K (.ref cis) = some (.type "type"))
    (ye_is : PySem.W.subIn K (.ref cis) (.type "BaseException") = some true)
    (ys_is : PySem.W.subIn K (.ref cis) (.ref cis) = some true)
    (yb_is : PySem.W.subIn K (.ref cis) (.ref cbe) = some true)
    (y5 : PySem.W.subIn K (.ref cib) (.ref ciz) = some false)
    (y6 : PySem.W.subIn K (.ref ciz) (.ref cib) = some false)
    (y7 : PySem.W.subIn K (.ref cib) (.type "ValueError") = some false)
    (y8 : ciz ≠ cib)
    (yc_it : PySem.W.isClsIn K cit = true)
    (yt_it : PySem.W.typeIn K (.ref cit) = some (.type "type"))
    (ye_it : PySem.W.subIn K (.ref cit) (.type "BaseException") = some true)
    (ys_it : PySem.W.subIn K (.ref cit) (.ref cit) = some true)
    (yb_it : PySem.W.subIn K (.ref cit) (.ref cbe) = some true)
    (y9 : PySem.W.subIn K (.ref ciz) (.ref cit) = some false)
    (y10 : PySem.W.subIn K (.ref cit) (.type "ValueError") = some false) : FxT K A := by
  subst e0 e1 e2 e3 e4 e5
  exact {
    kbb := kit_sub y1 y2 y3 fun _ => rfl
    kdb := fun x => by
      cases x
      · exact kit_sub y1 y2 yk_NoneType (fun z => nomatch z)
      · exact kit_sub y1 y2 yk_bool (fun z => nomatch z)
      · exact kit_sub y1 y2 yk_int (fun z => nomatch z)
      · exact kit_sub y1 y2 yk_str (fun z => nomatch z)
      · exact kit_sub y1 y2 yk_list (fun z => nomatch z)
      · exact kit_sub y1 y2 yk_tuple (fun z => nomatch z)
      · exact kit_sub y1 y2 yk_dict (fun z => nomatch z)
    nfo := y4
    nfd := fun x => by
      cases x
      · exact yn_NoneType
      · exact yn_bool
      · exact yn_int
      · exact yn_str
      · exact yn_list
      · exact yn_tuple
      · exact yn_dict
    ess := exm_sub ye_iz yc_iz yt_iz ys_iz
    ebs := exm_sub ye_iz yc_iz yt_iz y5
    ebb := exm_sub ye_ib yc_ib yt_ib ys_ib
    ett := exm_sub ye_is yc_is yt_is ys_is
    kse := kit_sub yc_be yt_be yb_iz fun _ => rfl
    ksb := kit_sub yc_ib yt_ib y6 fun z => absurd (Value.ref.inj (eq_of_beq z)) y8
    kbe := kit_sub yc_be yt_be yb_ib fun _ => rfl
    kbv := kit_type (by decide +kernel) y7 rfl
    kte := kit_sub yc_be yt_be yb_is fun _ => rfl
    ext := exm_sub ye_it yc_it yt_it ys_it
    est := exm_sub ye_it yc_it yt_it y9
    kxe := kit_sub yc_be yt_be yb_it fun _ => rfl
    kxv := kit_type (by decide +kernel) y10 rfl }
theorem fin_mk {l : PySem.W.OpenLaw} {w : World} {K : PySem.W.Frag} {mg : Str → Option Value} {fa : Addr} {A : Ad} (hl : l.prog = PP) (T : Txt K mg A) (F : FxT K A) (hmg : mg "law" = some (.ref fa)) :
    ∃ fd : FuncData, (∀ (s : Shared) (u : Value), BindsTo s fd ⟨[u], []⟩ [("script", u)]) ∧ ∀ base : Heap, K.In base → base.Ns mainGlobals mg → FnG l.prog w K mg base (L2.CX PP w) 10 fa fd ["script"] (spEnd K) := by
  have e := hmg.symm.trans T.g_law
  cases e
  rw [hl]
  obtain ⟨oc, od, kV, doc, pm, an, cdv, ct, osl, e, lk, hcd⟩ := T.f_law.ex
  exact ⟨A.d_law, fun s u => by rw [e]; exact .of_eq rfl, fun base _ _ => (ok_law T).imp (end_spec fun ns => s_law2 T F rfl)⟩
end LW
open PySem PySem.W PyProof.Rows
theorem PySem.Challenge.cw_oncetested_k02_boards_written_and_read_holds : PySem.Challenge.rw_oncetested_k02_boards_written_and_read.Holds := by
  w_on; o_law; k_head; (case hw => w_witness2)
  k_fill
  refine L2.walk_ofG (l := PySem.Challenge.rw_oncetested_k02_boards_written_and_read) (n := 63) (k := 10) (x := "script") (CX := fun w => L2.CX LW.PP w) (sp := fun w => LW.spEnd _) rfl (by decide) rfl ⟨rfl, by decide, by decide⟩ (fun w h Y => PySem.W.kIn_of Y) ?F (fun w H a ns hl hb hO hS => ⟨a, ns, rfl, hS, hO, fun _ => rfl⟩) (fun w H s e s' ⟨_, _, _, _, _, _, _, _, _, _, _, _, z⟩ => z)
  case F =>
    intro w mg fa h KX G hmg
    refine' LW.fin_mk rfl ?T ?F hmg
    case T =>
      refine' LW.all_T KX G ?zg_BoardError ?zg_InvalidBoard ?zg_InvalidSetting ?zg_InvalidText ?zg_InvalidSize ?zg_Board ?zg_is_integer ?zg_is_number ?zg_is_text ?zg_is_sequence ?zg_is_number_text ?zg_settings_count ?zg_steps_of ?zg_setting_number ?zg_wrong_content ?zg_wrong_size ?zg_wrong_mark ?zg_many_of_row ?zg_sizes_of_row ?zg_law_box ?zg_law_take ?zg_law_pick ?zg_law_count ?zg_law_number ?zg_law_words ?zg_law_rows ?zg_law_head ?zg_law_due ?zg_law_told ?zg_law_spoilt ?zg_law_board_right ?zg_law ?zgsd ?zgst ?zopq ?zsup ?zc_FIGURES ?zc_MOST_MARKS ?zc_MOST_PARTS ?zc_MOST_SETTINGS ?zn_ValueError ?zn_abs ?zn_all ?zn_bool ?zn_enumerate ?zn_int ?zn_isinstance ?zn_len ?zn_list ?zn_min ?zn_range ?zn_repr ?zn_reversed ?zn_str ?zn_tuple ?zn_zip ?zx_B ?zi_B ?zx_InvalidBoard ?zsa_InvalidBoard ?zga_InvalidBoard ?zgg_InvalidBoard ?zno_InvalidBoard ?zin_InvalidBoard ?ztf_InvalidBoard ?zkp_InvalidBoard ?zs1_InvalidBoard ?zs2_InvalidBoard ?zty_InvalidBoard ?zhd_InvalidBoard ?zow_InvalidBoard ?zha_InvalidBoard ?zmo_InvalidBoard ?zfn_InvalidBoard ?zx_InvalidSetting ?zsa_InvalidSetting ?zga_InvalidSetting ?zgg_InvalidSetting ?zno_InvalidSetting ?zin_InvalidSetting ?ztf_InvalidSetting ?zkp_InvalidSetting ?zs1_InvalidSetting ?zs2_InvalidSetting ?zty_InvalidSetting ?zhd_InvalidSetting ?zow_InvalidSetting ?zha_InvalidSetting ?zmo_InvalidSetting ?zfn_InvalidSetting ?zx_InvalidText ?zsa_InvalidText ?zga_InvalidText ?zgg_InvalidText ?zno_InvalidText ?zin_InvalidText ?ztf_InvalidText ?zkp_InvalidText ?zs1_InvalidText ?zs2_InvalidText ?zty_InvalidText ?zhd_InvalidText ?zow_InvalidText ?zha_InvalidText ?zmo_InvalidText ?zfn_InvalidText ?zx_InvalidSize ?zsa_InvalidSize ?zga_InvalidSize ?zgg_InvalidSize ?zno_InvalidSize ?zin_InvalidSize ?ztf_InvalidSize ?zkp_InvalidSize ?zs1_InvalidSize ?zs2_InvalidSize ?zty_InvalidSize ?zhd_InvalidSize ?zow_InvalidSize ?zha_InvalidSize ?zmo_InvalidSize ?zfn_InvalidSize ?zpg_Board ?zhd_Board ?zpo_Board ?zsa_Board ?zna_Board_many ?zna_Board_sizes ?zna_Board_marks ?zna_Board_steps ?zmk_Board ?zin_Board ?zif_Board ?zkp_Board ?zha_Board ?zmo_Board ?zne_Board ?zeq_Board ?zeqF_Board ?zeqI_Board ?zlen_Board ?zlenF_Board ?zlenI_Board ?zcall_Board ?zcallF_Board ?zcallI_Board ?zs1_Board_read ?zs2_Board_read ?zs3_Board_read ?zs4_Board_read ?zs5_Board_read ?zm1_Board_text ?zm2_Board_text ?zm3_Board_text ?zF_is_integer ?zF_is_number ?zF_is_text ?zF_is_sequence ?zF_is_number_text ?zF_settings_count ?zF_steps_of ?zF_setting_number ?zF_wrong_content ?zF_wrong_size ?zF_wrong_mark ?zF_Board_init ?zF_Board_eq ?zF_Board_len ?zF_Board_call ?zF_Board_text ?zF_Board_read ?zF_many_of_row ?zF_sizes_of_row ?zF_law_box ?zF_law_take ?zF_law_pick ?zF_law_count ?zF_law_number ?zF_law_words ?zF_law_rows ?zF_law_head ?zF_law_due ?zF_law_told ?zF_law_spoilt ?zF_law_board_right ?zF_law
      (case zg_BoardError => k_is)
      (case zg_InvalidBoard => k_is)
      (case zg_InvalidSetting => k_is)
      (case zg_InvalidText => k_is)
      (case zg_InvalidSize => k_is)
      (case zg_Board => k_is)
      (case zg_is_integer => k_is)
      (case zg_is_number => k_is)
      (case zg_is_text => k_is)
      (case zg_is_sequence => k_is)
      (case zg_is_number_text => k_is)
      (case zg_settings_count => k_is)
      (case zg_steps_of => k_is)
      (case zg_setting_number => k_is)
      (case zg_wrong_content => k_is)
      (case zg_wrong_size => k_is)
      (case zg_wrong_mark => k_is)
      (case zg_many_of_row => k_is)
      (case zg_sizes_of_row => k_is)
      (case zg_law_box => k_is)
      (case zg_law_take => k_is)
      (case zg_law_pick => k_is)
      (case zg_law_count => k_is)
      (case zg_law_number => k_is)
      (case zg_law_words => k_is)
      (case zg_law_rows => k_is)
      (case zg_law_head => k_is)
      (case zg_law_due => k_is)
      (case zg_law_told => k_is)
      (case zg_law_spoilt => k_is)
      (case zg_law_board_right => k_is)
      (case zg_law => k_is)
      (case zgsd => k_is)
      (case zgst => k_is)
      (case zopq => k_is)
      (case zsup => k_is)
      (case zc_FIGURES => k_is)
      (case zc_MOST_MARKS => k_is)
      (case zc_MOST_PARTS => k_is)
      (case zc_MOST_SETTINGS => k_is)
      (case zn_ValueError => k_is)
      (case zn_abs => k_is)
      (case zn_all => k_is)
      (case zn_bool => k_is)
      (case zn_enumerate => k_is)
      (case zn_int => k_is)
      (case zn_isinstance => k_is)
      (case zn_len => k_is)
      (case zn_list => k_is)
      (case zn_min => k_is)
      (case zn_range => k_is)
      (case zn_repr => k_is)
      (case zn_reversed => k_is)
      (case zn_str => k_is)
      (case zn_tuple => k_is)
      (case zn_zip => k_is)
      (case zx_B => k_is)
      (case zi_B => k_is)
      (case zx_InvalidBoard => k_is)
      (case zsa_InvalidBoard => k_is)
      (case zga_InvalidBoard => k_is)
      (case zgg_InvalidBoard => k_is)
      (case zno_InvalidBoard => k_is)
      (case zin_InvalidBoard => k_is)
      (case ztf_InvalidBoard => k_is)
      (case zkp_InvalidBoard => k_is)
      (case zs1_InvalidBoard => k_is)
      (case zs2_InvalidBoard => k_is)
      (case zty_InvalidBoard => k_is)
      (case zhd_InvalidBoard => k_is)
      (case zow_InvalidBoard => k_is)
      (case zha_InvalidBoard => k_is)
      (case zmo_InvalidBoard => k_is)
      (case zfn_InvalidBoard => (refine' LW.erFn_mk ?x1 ?x2 ?x3 ?x4 ?x5 ?x6 ?x7; (case x1 => k_is); (case x2 => k_is); (case x3 => exact ⟨rfl, rfl, rfl, by decide +kernel, by decide +kernel, by decide +kernel, by decide +kernel, by decide +kernel, by decide +kernel⟩); (case x4 => k_is); (case x5 => rfl); (case x6 => k_is); (case x7 => exact ⟨_, fun env => rfl⟩)))
      (case zx_InvalidSetting => k_is)
      (case zsa_InvalidSetting => k_is)
      (case zga_InvalidSetting => k_is)
      (case zgg_InvalidSetting => k_is)
      (case zno_InvalidSetting => k_is)
      (case zin_InvalidSetting => k_is)
      (case ztf_InvalidSetting => k_is)
      (case zkp_InvalidSetting => k_is)
      (case zs1_InvalidSetting => k_is)
      (case zs2_InvalidSetting => k_is)
      (case zty_InvalidSetting => k_is)
      (case zhd_InvalidSetting => k_is)
      (case zow_InvalidSetting => k_is)
      (case zha_InvalidSetting => k_is)
      (case zmo_InvalidSetting => k_is)
      (case zfn_InvalidSetting => (refine' LW.erFn_mk ?x1 ?x2 ?x3 ?x4 ?x5 ?x6 ?x7; (case x1 => k_is); (case x2 => k_is); (case x3 => exact ⟨rfl, rfl, rfl, by decide +kernel, by decide +kernel, by decide +kernel, by decide +kernel, by decide +kernel, by decide +kernel⟩); (case x4 => k_is); (case x5 => rfl); (case x6 => k_is); (case x7 => exact ⟨_, fun env => rfl⟩)))
      (case zx_InvalidText => k_is)
      (case zsa_InvalidText => k_is)
      (case zga_InvalidText => k_is)
      (case zgg_InvalidText => k_is)
      (case zno_InvalidText => k_is)
      (case zin_InvalidText => k_is)
      (case ztf_InvalidText => k_is)
      (case zkp_InvalidText => k_is)
      (case zs1_InvalidText => k_is)
      (case zs2_InvalidText => k_is)
      (case zty_InvalidText => k_is)
      (case zhd_InvalidText => k_is)
      (case zow_InvalidText => k_is)
      (case zha_InvalidText => k_is)
      (case zmo_InvalidText => k_is)
      (case zfn_InvalidText => (refine' LW.erFn_mk ?x1 ?x2 ?x3 ?x4 ?x5 ?x6 ?x7; (case x1 => k_is); (case x2 => k_is); (case x3 => exact ⟨rfl, rfl, rfl, by decide +kernel, by decide +kernel, by decide +kernel, by decide +kernel, by decide +kernel, by decide +kernel⟩); (case x4 => k_is); (case x5 => rfl); (case x6 => k_is); (case x7 => exact ⟨_, fun env => rfl⟩)))
      (case zx_InvalidSize => k_is)
      (case zsa_InvalidSize => k_is)
      (case zga_InvalidSize => k_is)
      (case zgg_InvalidSize => k_is)
      (case zno_InvalidSize => k_is)
      (case zin_InvalidSize => k_is)
      (case ztf_InvalidSize => k_is)
      (case zkp_InvalidSize => k_is)
      (case zs1_InvalidSize => k_is)
      (case zs2_InvalidSize => k_is)
      (case zty_InvalidSize => k_is)
      (case zhd_InvalidSize => k_is)
      (case zow_InvalidSize => k_is)
      (case zha_InvalidSize => k_is)
      (case zmo_InvalidSize => k_is)
      (case zfn_InvalidSize => (refine' LW.erFn_mk ?x1 ?x2 ?x3 ?x4 ?x5 ?x6 ?x7; (case x1 => k_is); (case x2 => k_is); (case x3 => exact ⟨rfl, rfl, rfl, by decide +kernel, by decide +kernel, by decide +kernel, by decide +kernel, by decide +kernel, by decide +kernel⟩); (case x4 => k_is); (case x5 => rfl); (case x6 => k_is); (case x7 => exact ⟨_, fun env => rfl⟩)))
      (case zpg_Board => k_is)
      (case zhd_Board => k_is)
      (case zpo_Board => k_is)
      (case zsa_Board => k_is)
      (case zna_Board_many => k_is)
      (case zna_Board_sizes => k_is)
      (case zna_Board_marks => k_is)
      (case zna_Board_steps => k_is)
      (case zmk_Board => k_is)
      (case zin_Board => k_is)
      (case zif_Board => k_is)
      (case zkp_Board => k_is)
      (case zha_Board => k_is)
      (case zmo_Board => k_is)
      (case zne_Board => k_is)
      (case zeq_Board => k_is)
      (case zeqF_Board => k_is)
      (case zeqI_Board => k_is)
      (case zlen_Board => k_is)
      (case zlenF_Board => k_is)
      (case zlenI_Board => k_is)
      (case zcall_Board => k_is)
      (case zcallF_Board => k_is)
      (case zcallI_Board => k_is)
      (case zs1_Board_read => k_is)
      (case zs2_Board_read => k_is)
      (case zs3_Board_read => k_is)
      (case zs4_Board_read => k_is)
      (case zs5_Board_read => k_is)
      (case zm1_Board_text => k_is)
      (case zm2_Board_text => k_is)
      (case zm3_Board_text => k_is)
      (case zF_is_integer => (refine' L2.fun_mk ?l ?c ?k; (case l => k_is); (case c => k_is); (case k => k_is)))
      (case zF_is_number => (refine' L2.fun_mk ?l ?c ?k; (case l => k_is); (case c => k_is); (case k => k_is)))
      (case zF_is_text => (refine' L2.fun_mk ?l ?c ?k; (case l => k_is); (case c => k_is); (case k => k_is)))
      (case zF_is_sequence => (refine' L2.fun_mk ?l ?c ?k; (case l => k_is); (case c => k_is); (case k => k_is)))
      (case zF_is_number_text => (refine' L2.fun_mk ?l ?c ?k; (case l => k_is); (case c => k_is); (case k => k_is)))
      (case zF_settings_count => (refine' L2.fun_mk ?l ?c ?k; (case l => k_is); (case c => k_is); (case k => k_is)))
      (case zF_steps_of => (refine' L2.fun_mk ?l ?c ?k; (case l => k_is); (case c => k_is); (case k => k_is)))
      (case zF_setting_number => (refine' L2.fun_mk ?l ?c ?k; (case l => k_is); (case c => k_is); (case k => k_is)))
      (case zF_wrong_content => (refine' L2.fun_mk ?l ?c ?k; (case l => k_is); (case c => k_is); (case k => k_is)))
      (case zF_wrong_size => (refine' L2.fun_mk ?l ?c ?k; (case l => k_is); (case c => k_is); (case k => k_is)))
      (case zF_wrong_mark => (refine' L2.fun_mk ?l ?c ?k; (case l => k_is); (case c => k_is); (case k => k_is)))
      (case zF_Board_init => (refine' L2.fun_mk ?l ?c ?k; (case l => k_is); (case c => k_is); (case k => k_is)))
      (case zF_Board_eq => (refine' L2.fun_mk ?l ?c ?k; (case l => k_is); (case c => k_is); (case k => k_is)))
      (case zF_Board_len => (refine' L2.fun_mk ?l ?c ?k; (case l => k_is); (case c => k_is); (case k => k_is)))
      (case zF_Board_call => (refine' L2.fun_mk ?l ?c ?k; (case l => k_is); (case c => k_is); (case k => k_is)))
      (case zF_Board_text => (refine' L2.fun_mk ?l ?c ?k; (case l => k_is); (case c => k_is); (case k => k_is)))
      (case zF_Board_read => (refine' L2.fun_mk ?l ?c ?k; (case l => k_is); (case c => k_is); (case k => k_is)))
      (case zF_many_of_row => (refine' L2.fun_mk ?l ?c ?k; (case l => k_is); (case c => k_is); (case k => k_is)))
      (case zF_sizes_of_row => (refine' L2.fun_mk ?l ?c ?k; (case l => k_is); (case c => k_is); (case k => k_is)))
      (case zF_law_box => (refine' L2.fun_mk ?l ?c ?k; (case l => k_is); (case c => k_is); (case k => k_is)))
      (case zF_law_take => (refine' L2.fun_mk ?l ?c ?k; (case l => k_is); (case c => k_is); (case k => k_is)))
      (case zF_law_pick => (refine' L2.fun_mk ?l ?c ?k; (case l => k_is); (case c => k_is); (case k => k_is)))
      (case zF_law_count => (refine' L2.fun_mk ?l ?c ?k; (case l => k_is); (case c => k_is); (case k => k_is)))
      (case zF_law_number => (refine' L2.fun_mk ?l ?c ?k; (case l => k_is); (case c => k_is); (case k => k_is)))
      (case zF_law_words => (refine' L2.fun_mk ?l ?c ?k; (case l => k_is); (case c => k_is); (case k => k_is)))
      (case zF_law_rows => (refine' L2.fun_mk ?l ?c ?k; (case l => k_is); (case c => k_is); (case k => k_is)))
      (case zF_law_head => (refine' L2.fun_mk ?l ?c ?k; (case l => k_is); (case c => k_is); (case k => k_is)))
      (case zF_law_due => (refine' L2.fun_mk ?l ?c ?k; (case l => k_is); (case c => k_is); (case k => k_is)))
      (case zF_law_told => (refine' L2.fun_mk ?l ?c ?k; (case l => k_is); (case c => k_is); (case k => k_is)))
      (case zF_law_spoilt => (refine' L2.fun_mk ?l ?c ?k; (case l => k_is); (case c => k_is); (case k => k_is)))
      (case zF_law_board_right => (refine' L2.fun_mk ?l ?c ?k; (case l => k_is); (case c => k_is); (case k => k_is)))
      (case zF_law => (refine' L2.fun_mk ?l ?c ?k; (case l => k_is); (case c => k_is); (case k => k_is)))
    case F =>
      refine' LW.all_F ?e0 ?e1 ?e2 ?e3 ?e4 ?e5 ?y1 ?y2 ?y3 ?yk_NoneType ?yn_NoneType ?yk_bool ?yn_bool ?yk_int ?yn_int ?yk_str ?yn_str ?yk_list ?yn_list ?yk_tuple ?yn_tuple ?yk_dict ?yn_dict ?y4 ?yc_be ?yt_be ?yc_ib ?yt_ib ?ye_ib ?ys_ib ?yb_ib ?yc_iz ?yt_iz ?ye_iz ?ys_iz ?yb_iz ?yc_is ?yt_is ?ye_is ?ys_is ?yb_is ?y5 ?y6 ?y7 ?y8 ?yc_it ?yt_it ?ye_it ?ys_it ?yb_it ?y9 ?y10
      (case e0 => dsimp only)
      (case e1 => dsimp only)
      (case e2 => dsimp only)
      (case e3 => dsimp only)
      (case e4 => dsimp only)
      (case e5 => dsimp only)
      (case y1 => k_is)
      (case y2 => k_is)
      (case y3 => k_is)
      (case yk_NoneType => k_is)
      (case yn_NoneType => k_is)
      (case yk_bool => k_is)
      (case yn_bool => k_is)
      (case yk_int => k_is)
      (case yn_int => k_is)
      (case yk_str => k_is)
      (case yn_str => k_is)
      (case yk_list => k_is)
      (case yn_list => k_is)
      (case yk_tuple => k_is)
      (case yn_tuple => k_is)
      (case yk_dict => k_is)
      (case yn_dict => k_is)
      (case y4 => k_is)
      (case yc_be => k_is)
      (case yt_be => k_is)
      (case yc_ib => k_is)
      (case yt_ib => k_is)
      (case ye_ib => k_is)
      (case ys_ib => k_is)
      (case yb_ib => k_is)
      (case yc_iz => k_is)
      (case yt_iz => k_is)
      (case ye_iz => k_is)
      (case ys_iz => k_is)
      (case yb_iz => k_is)
      (case yc_is => k_is)
      (case yt_is => k_is)
      (case ye_is => k_is)
      (case ys_is => k_is)
      (case yb_is => k_is)
      (case y5 => k_is)
      (case y6 => k_is)
      (case y7 => k_is)
      (case y8 => decide)
      (case yc_it => k_is)
      (case yt_it => k_is)
      (case ye_it => k_is)
      (case ys_it => k_is)
      (case yb_it => k_is)
      (case y9 => k_is)
      (case y10 => k_is)
