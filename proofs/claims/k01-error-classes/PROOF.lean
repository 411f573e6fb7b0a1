import PyProof.Rows.All
import Wide.All
import OpenK.AllK
import Wide.FinOn
import HandS.ForMost
import HandS.Exc
import HandS.ExcOwn
import KE.KExcSuper
import HandS.ExcInit
import KE.KTryMore
import KE.KExcHand
import HandS.TryOnly
import KE.KExcIs
import HandS.IsInst
import PyProof.ReprRoads
import PyProof.CallFns
import HandS.TupMul
import KE.GoesMore
import KE.GoesEnum
import HandS.AnyAll
import HandS.EndBits
import HandS.Evl
import HandS.Walk
import HandS.Zip
import PyProof.ReprBulk
import HandS.Replace
import HandS.ExcValue
import HandS.SetFor
import HandS.Style
import PySem.Challenge.RW_brinejar_k01_error_classes
set_option Elab.async false
set_option linter.all false
set_option maxRecDepth 100000
set_option maxHeartbeats 4000000
/-! calls whose Around has no guards (no repr is running): promises, the rule for a def, the rules for calls -/
namespace BJ
open PySem PySem.Spec PyProof.Rows L2

/-- the promise of a def, for callers that no repr surrounds -/
structure FnG (P : Program) (w : World) (K : PySem.W.Frag) (mg : Str → Option Value) (base : Heap)
    (k : Nat) (f : Addr) (fd : FuncData) (ps : List Str) (sp : Sp) : Prop where
  len : ∀ vs H Q E, sp vs H Q E → vs.length = ps.length
  run : ∀ (A : Around) (outer : List Env) (s : Shared) (H : Hp) (args : Args) (us : List Value) (vs : List V) (Q : VK) (E : XK),
    Room k A → A.guards = some [] → Env0 P w K mg base A outer s H → BindsTo s fd args (ps.zip us) → Vals vs us →
    sp vs H Q E → codeAny (model P w) A (.call (.ref f) args) (CR (L2.CX P w) outer P w H s Q E) s

section
variable {P : Program} {w : World} {K : PySem.W.Frag} {mg : Str → Option Value} {base : Heap}
theorem FnG.mono {j k : Nat} {f : Addr} {fd : FuncData} {ps : List Str} {sp : Sp}
    (F : FnG P w K mg base j f fd ps sp) (h : j ≤ k) : FnG P w K mg base k f fd ps sp :=
  ⟨F.len, fun A o s H a us vs Q E hr => F.run A o s H a us vs Q E (hr.mono h)⟩

/-- the rule for a def -/
theorem fnG_of {k : Nat} {f : Addr} {name qual : Str} {params : Arguments} {body : List Stmt} {scope : Scope}
    {dV kV doc pm cdv ct oc : Value} {an od : Option Addr} {osl : Array (Option Value)} {N ps : List Str} {sp : Sp}
    (lk : K.lookup f = some ⟨oc, od, .func (PySem.W.fnOf name qual params body scope dV kV doc pm an cdv ct), osl⟩)
    (hcd : PySem.W.codeIn K cdv qual = true) (S : FnScope N ps scope)
    (len : ∀ vs H Q E, sp vs H Q E → vs.length = ps.length)
    (hbody : ∀ (A : Around) (outer : List Env) (s : Shared) (H : Hp) (vs : List V) (Q : VK) (E : XK),
      Room k (A.deeper (envOfC qual scope s.heap.objs.size f cdv)) → A.guards = some [] → sp vs H Q E →
      ∃ t, PSs (cxOf (L2.CX P w) P w K mg base N qual scope f cdv A outer s H E) body t ∧
        t { nx := fun _ H' => Q .non H', rt := Q } (start N vs) H) :
    FnG P w K mg base (k + 1) f (PySem.W.fnOf name qual params body scope dV kV doc pm an cdv ct) ps sp where
  len := len
  run := by
    intro A outer s H args us vs Q E room hg e0 bnd rel prom
    have KX : K.In s.heap := e0.mod.kin.keeps fun b o e => (e0.bs b o e).1
    have nl : s.heap.NoLimit := e0.mod.nolimit.keeps fun b o e => (e0.bs b o e).1
    have kinds : ∀ y ∈ ps.zip us, scope.names.lookup y.1 = some .local ∨
        (scope.names.lookup y.1 = some .cell ∧ ((cellsFrom (s.heap.objs.size + 1) scope.names []).lookup y.1).isSome = true) := by
      rintro ⟨n, v⟩ hy
      rcases S.par n (List.of_mem_zip hy).1 with q | q
      · exact .inl q
      · exact .inr ⟨q, PySem.W.cellsFrom_some _ _ _ (.inl q)⟩
    refine codeAny_call_function room.depth (KX _ _ lk) rfl S.co S.gen rfl (PySem.W.codeRec_of KX hcd) (bnd _ _ _ _ ?_)
    refine wpAny_newFunctionEnv_cells S.kind kinds fun env he s1 x => ?_
    subst he
    obtain ⟨t, ht, hq⟩ := hbody A outer s H vs Q E (room.deeper _) hg prom
    have I := inv_start (CX := L2.CX P w) (E := E) (cd := cdv) (f := f) (qual := qual) S room.hd e0 (len _ _ _ _ prom) rel x
    refine ⟨nl.keeps x.toInCall.keep, codeAny_func (wpAny_mono (ht.run [] s1 _ H _ I hq) (fun fl s' hs => ?_) fun e s' hs => hs)⟩
    match fl, hs with
    | .ret u, ⟨v, σ', H', J, rv, q⟩ => exact ⟨v, H', J.os, J.bare, J.base, J.hok, rv, q⟩
    | .next, ⟨σ', H', J, q⟩ => exact ⟨V.non, H', J.os, J.bare, J.base, J.hok, rfl, q⟩
    | .brk, ⟨_, _, _, q⟩ => exact q.elim
    | .cont, ⟨_, _, _, q⟩ => exact q.elim
end

/-- a value that may be called with positional values and the keywords ks: u (a def, a class) -/
def CallG (P : Program) (w : World) (K : PySem.W.Frag) (mg : Str → Option Value) (base : Heap) (k : Nat) (u : Value)
    (ks : List Str) (sp : List V → List V → Hp → VK → XK → Prop) : Prop :=
  ∀ (A : Around) (outer : List Env) (s : Shared) (H : Hp) (us ws : List Value) (vs zs : List V) (Q : VK) (E : XK),
    Room k A → A.guards = some [] → Env0 P w K mg base A outer s H → Vals vs us → Vals zs ws → sp vs zs H Q E →
    codeAny (model P w) A (.call u ⟨us, ks.zip ws⟩) (CR (L2.CX P w) outer P w H s Q E) s
/-- .. no keywords -/
abbrev CallP (P : Program) (w : World) (K : PySem.W.Frag) (mg : Str → Option Value) (base : Heap) (k : Nat) (u : Value) (sp : Sp) : Prop :=
  CallG P w K mg base k u [] fun vs zs H Q E => zs = [] ∧ sp vs H Q E

section
variable {P : Program} {w : World} {K : PySem.W.Frag} {mg : Str → Option Value} {base : Heap}
theorem CallG.mono {j k : Nat} {u : Value} {ks : List Str} {sp : List V → List V → Hp → VK → XK → Prop}
    (F : CallG P w K mg base j u ks sp) (h : j ≤ k) : CallG P w K mg base k u ks sp :=
  fun A o s H us ws vs zs Q E hr => F A o s H us ws vs zs Q E (hr.mono h)
/-- a def, positional values (the defaults ds behind them) -/
theorem FnG.callP {k : Nat} {f : Addr} {fd : FuncData} {ps : List Str} {sp : Sp} {ds : List Value} {dvs : List V}
    (F : FnG P w K mg base k f fd ps sp) (hb : Binds K fd ps ds) (hd : Vals dvs ds) :
    CallP P w K mg base k (.ref f) fun vs H Q E => sp (vs ++ dvs) H Q E := by
  rintro A outer s H us ws vs zs Q E room hg e0 rel relz ⟨rfl, prom⟩
  cases relz
  have r2 : Vals (vs ++ dvs) (us ++ ds) := rel.append hd
  have hl : (us ++ ds).length = ps.length := r2.length.symm.trans (F.len _ _ _ _ prom)
  have KX : K.In s.heap := e0.mod.kin.keeps fun b o e => (e0.bs b o e).1
  exact F.run A outer s H ⟨us, []⟩ (us ++ ds) (vs ++ dvs) Q E room hg e0 (hb s us KX hl) r2 prom
/-- .. with keywords -/
theorem FnG.callK {k : Nat} {f : Addr} {fd : FuncData} {ps ks : List Str} {sp : Sp}
    {g : List Value → List Value → List Value} {gV : List V → List V → List V} (F : FnG P w K mg base k f fd ps sp)
    (hb : KBinds K fd ps ks g gV) : CallG P w K mg base k (.ref f) ks fun vs zs H Q E => sp (gV vs zs) H Q E := by
  intro A outer s H us ws vs zs Q E room hg e0 rel relz prom
  have r2 := hb.rel rel relz
  have hl : (g us ws).length = ps.length := r2.length.symm.trans (F.len _ _ _ _ prom)
  have KX : K.In s.heap := e0.mod.kin.keeps fun b o e => (e0.bs b o e).1
  exact F.run A outer s H ⟨us, ks.zip ws⟩ (g us ws) (gV vs zs) Q E room hg e0 (hb.to s us ws KX hl) r2 prom
end

/-! ### the rules -/
section
variable {X : Cx} {k : Nat} {u : Value} {ks : List Str} {sp : Sp} {spk : List V → List V → Hp → VK → XK → Prop} {W : WX}
  {x m : Str} {p pos apos : Pos} {e o : Expr} {es : List Expr} {kws : List Keyword} {ta : TE} {t tk : TA}
/-- nothing that is raised is taken -/
theorem tkN : Takes X (fun _ _ _ _ => False) := fun _ _ ⟨_, _, _, _, _, _, _, _, _, _, _, _, _, _, _, _, q⟩ => q.elim

theorem run_callG {pins : List (Addr × Obj)} {σ : L2.St} {H : Hp} {s : Shared} {Q : VK} {us ws : List Value} {vs zs : List V}
    (F : CallG X.prog X.w X.K X.mg X.base k u ks spk) (hr : Room k X.A) (hG : X.A.guards = some []) (tkW : Takes X W)
    (I : Inv X pins σ H s) (r : Vals vs us) (rz : Vals zs ws) (h : spk vs zs H Q fun cls d H' => W cls d σ H') :
    wpAny (model X.prog X.w) X.A (call u us (ks.zip ws)) (EP X pins σ Q) X.xe s := by
  refine wpAny_call (codeAny_mono (F X.A X.stack s H us ws vs zs Q _ hr hG I.env0 r rz h) ?_)
  intro res s' hq
  match res, hq with
  | .error e, hq => exact tkW e s' (XE.of_call I (fun _ _ _ z => z) hq)
  | .ok (.ret u), hq => exact I.after hq

/-- f(e, ..) -/
def tCa (sp : Sp) (W : WX) (t : TA) : TE := fun σ H Q => t σ H fun vs H1 => sp vs H1 Q fun cls d H' => W cls d σ H'
theorem pe_ca (F : CallP X.prog X.w X.K X.mg X.base k u sp) (hr : Room k X.A) (hG : X.A.guards = some []) (hg : Gl X x) (hm : X.mg x = some u)
    (hk : PySem.W.keepIn X.K u = true) (tkW : Takes X W) (ha : PA X (e :: es) t) (hdb : (x == ("__debug__" : Str)) = false := by decide)
    (he : starEach (e :: es) X.env = (false, eval e X.env) :: starEach es X.env := by rfl)
    (hpl : (backTo pos (starEach es X.env)).any (·.1) = false := by rfl) : PE X (.Call (.Name x p) (e :: es) [] pos) (tCa sp W t) where
  run := by
    intro pins s σ H Q I h
    refine wpAny_Call_Name_kw (ld_glob I hg hm ?_ hdb)
    refine PySem.W.callWith_K (h₀ := X.base) I.ok.mod.kin hk (thn (ha.run pos pins s σ H _ I h) ?_) he hpl
    rintro us s1 ⟨vs, H1, I1, r, q⟩
    exact ⟨I1.kIn, run_callG (ws := []) (zs := []) F hr hG tkW I1 r .nil ⟨rfl, q⟩⟩
theorem pe_ca0 (F : CallP X.prog X.w X.K X.mg X.base k u sp) (hr : Room k X.A) (hG : X.A.guards = some []) (hg : Gl X x) (hm : X.mg x = some u)
    (hk : PySem.W.keepIn X.K u = true) (tkW : Takes X W) (hdb : (x == ("__debug__" : Str)) = false := by decide) :
    PE X (.Call (.Name x p) [] [] pos) (tCa sp W tNil) where
  run := by
    intro pins s σ H Q I h
    refine wpAny_Call_Name_kw (ld_glob I hg hm ?_ hdb)
    exact PySem.W.callWith_K0 I.kIn hk (run_callG (us := []) (vs := []) (ws := []) (zs := []) F hr hG tkW I .nil .nil ⟨rfl, h⟩)
/-- f(e, .., k = v, ..) -/
def tCaK (sp : List V → List V → Hp → VK → XK → Prop) (W : WX) (t tk : TA) : TE := fun σ H Q =>
  t σ H fun vs H1 => tk σ H1 fun zs H2 => sp vs zs H2 Q fun cls d H' => W cls d σ H'
theorem pe_caK (F : CallG X.prog X.w X.K X.mg X.base k u ks spk) (hr : Room k X.A) (hG : X.A.guards = some []) (hg : Gl X x) (hm : X.mg x = some u)
    (hk : PySem.W.keepIn X.K u = true) (tkW : Takes X W) (ha : PA X (e :: es) t) (hkw : PK X kws tk)
    (hall : (backToKw pos (keywordEach kws X.env)).all (·.1.isSome) = true := by rfl) (hks : (backToKw pos (keywordEach kws X.env)).filterMap (·.1) = ks := by rfl)
    (hdb : (x == ("__debug__" : Str)) = false := by decide) (he : starEach (e :: es) X.env = (false, eval e X.env) :: starEach es X.env := by rfl)
    (hpl : ((backTo pos (starEach (e :: es) X.env)).any (·.1) || (backToKw pos (keywordEach kws X.env)).any (·.1.isNone)) = false := by rfl) :
    PE X (.Call (.Name x p) (e :: es) kws pos) (tCaK spk W t tk) where
  run := by
    intro pins s σ H Q I h
    refine wpAny_Call_Name_kw (ld_glob I hg hm ?_ hdb)
    refine PySem.W.callWith_KW (h₀ := X.base) I.ok.mod.kin hk hall (thn (ha.run pos pins s σ H _ I h) ?_) hpl he
    rintro us s1 ⟨vs, H1, I1, r, q⟩
    refine thn (hkw.run pos pins s1 σ H1 _ I1 q) ?_
    rintro ws s2 ⟨zs, H2, I2, rz, q2⟩
    rw [hks]
    exact ⟨I2.kIn, run_callG F hr hG tkW I2 r rz q2⟩
/-- f(k = v, ..) -/
theorem pe_caK0 (F : CallG X.prog X.w X.K X.mg X.base k u ks spk) (hr : Room k X.A) (hG : X.A.guards = some []) (hg : Gl X x) (hm : X.mg x = some u)
    (hk : PySem.W.keepIn X.K u = true) (tkW : Takes X W) (hkw : PK X kws tk)
    (hall : (backToKw pos (keywordEach kws X.env)).all (·.1.isSome) = true := by rfl) (hks : (backToKw pos (keywordEach kws X.env)).filterMap (·.1) = ks := by rfl)
    (hdb : (x == ("__debug__" : Str)) = false := by decide)
    (hpl : ((backTo pos (starEach [] X.env)).any (·.1) || (backToKw pos (keywordEach kws X.env)).any (·.1.isNone)) = false := by rfl) :
    PE X (.Call (.Name x p) [] kws pos) (tCaK spk W tNil tk) where
  run := by
    intro pins s σ H Q I h
    refine wpAny_Call_Name_kw (ld_glob I hg hm ?_ hdb)
    refine PySem.W.callWith_KW0 (h₀ := X.base) I.ok.mod.kin hk hall (thn (hkw.run pos pins s σ H _ I h) ?_) hpl
    rintro ws s2 ⟨zs, H2, I2, rz, q2⟩
    rw [hks]
    exact ⟨I2.kIn, run_callG (us := []) (vs := []) F hr hG tkW I2 .nil rz q2⟩
end
end BJ

/-! own exception classes over a family over a built-in class; __init__(self, f, ..): super().__init__(text); self.f = f; .. -/
namespace BJ
open PySem PySem.Spec PyProof.Rows L2 Builtin Builtin.ObjectAttr
open PySem.W (Looks Frag findIn subIn nsIn typeIn keepIn codeIn hasDictIn clsIn takerIn excInitIn excOver excObj KxsFacts ksFn ksEnv ks_superIn isFn looks_findIn looks_clsIn InstAt kxs_mw)

/-- the built-in class at the end -/
structure Fam (B initId newId : String) (bm : List Value) : Prop where
  FB : ExcBaseFacts B newId initId bm
  SF : StoreFacts B bm "object.__setattr__" "object"
  KF : KxsFacts B initId
theorem famV : Fam "ValueError" "ValueError.__init__" "ValueError.__new__" [.type "ValueError", .type "Exception", .type "BaseException", .type "object"] := ⟨F.excBase_ValueError, F.store_ValueError, PySem.W.kxs_ValueError⟩
theorem famR : Fam "RuntimeError" "RuntimeError.__init__" "RuntimeError.__new__" [.type "RuntimeError", .type "Exception", .type "BaseException", .type "object"] :=
  ⟨F.excBase_RuntimeError, F.store_RuntimeError, PySem.W.kxs_RuntimeError⟩
theorem famL : Fam "LookupError" "LookupError.__init__" "LookupError.__new__" [.type "LookupError", .type "Exception", .type "BaseException", .type "object"] :=
  ⟨F.excBase_LookupError, F.store_LookupError, PySem.W.kxs_LookupError⟩

section
variable {prog : Program} {w : World} {M : Model} {A : Around} {E : Value → Shared → Prop} {R : Result → Shared → Prop} {hp : Heap} {g : Array GenState} {d : Drawn} {t : Nat} {os : OsState}
  {B initId newId : String} {bm : List Value} {K : Frag} {C x : Addr} {name : Str} {v : Value}
/-- the first field of a fresh exception: its dict is made -/
theorem errset_new {t0 : Addr} {Q : Unit → Shared → Prop} (FA : Fam B initId newId bm) (X : K.In hp) (hx : hp.get? x = some (excObj C t0 none .none))
    (ov : excOver K C bm = true) (hd : hasDictIn K C = true) (tk : takerIn K C name = some none)
    (sa : findIn K (.ref C) "__setattr__" = some (some (.builtin "object.__setattr__")))
    (hq : ∀ h' tk' dx, (∀ b o, b ≠ x → hp.get? b = some o → h'.get? b = some o) → hp.objs.size ≤ dx → dx ≠ x →
      h'.get? x = some (excObj C t0 (some dx) .none) → h'.Ns1 dx (fun y => if y = name then some v else none) → Q () ⟨h', g, d, tk', os⟩) :
    wpAny (model prog w) A (setAttr (.ref x) name v) Q E ⟨hp, g, d, t, os⟩ := by
  have I : InstAt hp x (excObj C t0 none .none) C none := ⟨hx, rfl, rfl, trivial⟩
  have hxs : x ≠ hp.objs.size := Nat.ne_of_lt (Heap.lt_size hx)
  obtain ⟨cd, hcd, hh⟩ : ∃ cd, clsIn K C = some cd ∧ cd.hasDict = true := by
    have z : (clsIn K C).any (·.hasDict) = true := hd
    cases e : clsIn K C with
    | none => rw [e] at z; cases z
    | some cd => rw [e] at z; exact ⟨cd, rfl, z⟩
  have hcls : Looks (model prog w) hp (classData C) cd := looks_clsIn X hcd
  obtain ⟨nm, bs, mro, ns, qn, hdd, sn, sb, ab, col, del⟩ := cd
  dsimp only at hh
  subst hh
  refine PySem.W.set_plain X I sa (PySem.W.osa_openX FA.SF X I ov tk fun b => ?_)
  show wpAny _ _ (storeInOwnDict (.ref x) (.ref C) (.str name t) name v b) _ _ _
  unfold storeInOwnDict ownDictForStores
  repeat (first
    | with_reducible refine HandSPX.store_in_new ?_ ?_
    | with_reducible refine wpAny_loadPart_at hx ?_
    | with_reducible refine hcls.at ?_
    | wp_step)
  · exact ⟨_, #[], _, (Heap.get?_update_ne _ _ _ _ hxs.symm).trans (Heap.get?_push_at rfl rfl), rfl, fun e he => absurd he (by simp), fun _ => rfl⟩
  · intro h' tk' hn' hs
    have hx₁ : (hp.push { cls := .type "dict", data := .dict #[] }).get? x = some (excObj C t0 none .none) := Heap.get?_push_of_some _ hx
    refine hq h' tk' hp.objs.size (fun b o hb ho => ?_) (Nat.le_refl _) hxs.symm ?_ hn'
    · exact (hs.2 b (Nat.ne_of_lt (Heap.lt_size ho))).trans ((Heap.get?_update_ne _ _ _ _ hb).trans (Heap.get?_push_of_some _ ho))
    · exact (hs.2 x hxs).trans (Heap.get?_update_self _ hx₁ rfl)
/-- a further field -/
theorem errset_old {t0 dx : Addr} {m0 : Str → Option Value} {nl : List Str} {Q : Unit → Shared → Prop} (FA : Fam B initId newId bm) (X : K.In hp)
    (hx : hp.get? x = some (excObj C t0 (some dx) .none)) (hns : hp.Ns1 dx m0) (hw : Within m0 nl) (hz : nl.length ≤ 1000)
    (ov : excOver K C bm = true) (hd : hasDictIn K C = true) (tk : takerIn K C name = some none)
    (sa : findIn K (.ref C) "__setattr__" = some (some (.builtin "object.__setattr__")))
    (hq : ∀ h' tk', (∀ b o, b ≠ dx → hp.get? b = some o → h'.get? b = some o) → h'.Ns1 dx (fun y => if y = name then some v else m0 y) → Q () ⟨h', g, d, tk', os⟩) :
    wpAny (model prog w) A (setAttr (.ref x) name v) Q E ⟨hp, g, d, t, os⟩ := by
  obtain ⟨oD, esD, epD, hoD, hdD, _⟩ := hns.count hw
  have I : InstAt hp x (excObj C t0 (some dx) .none) C (some oD) := ⟨hx, rfl, rfl, hoD⟩
  obtain ⟨cd, hcd, hh⟩ : ∃ cd, clsIn K C = some cd ∧ cd.hasDict = true := by
    have z : (clsIn K C).any (·.hasDict) = true := hd
    cases e : clsIn K C with
    | none => rw [e] at z; cases z
    | some cd => rw [e] at z; exact ⟨cd, rfl, z⟩
  have hcls : Looks (model prog w) hp (classData C) cd := looks_clsIn X hcd
  obtain ⟨nm, bs, mro, ns, qn, hdd, sn, sb, ab, col, del⟩ := cd
  dsimp only at hh
  subst hh
  refine PySem.W.set_plain X I sa (PySem.W.osa_openX FA.SF X I ov tk fun b => ?_)
  show wpAny _ _ (storeInOwnDict (.ref x) (.ref C) (.str name t) name v b) _ _ _
  unfold storeInOwnDict ownDictForStores
  repeat (first
    | with_reducible refine OEX.store_in_old hns hw hz ?_
    | with_reducible refine wpAny_loadPart_at hx ?_
    | with_reducible refine hcls.at ?_
    | wp_step)
  intro h' tk' hn' hs
  exact hq h' tk' (fun b o hb ho => (hs.2 b hb).trans ho) hn'

/-- super().__init__(text) in an own exception's __init__, called: the bound wrapper is called -/
theorem errcall {u e t0 : Addr} {rest : List Value} {Q : Value → Shared → Prop} (FA : Fam B initId newId bm) (X : K.In hp) (q : excInitIn K C bm newId = true)
    (he : hp.get? e = some (excObj C t0 none .none)) (hu : hp.get? u = some (kxs_mw initId e)) (hz : rest.length ≤ sizeLine)
    (hq : ∀ h' t1, (∀ b o, b ≠ e → hp.get? b = some o → h'.get? b = some o) → h'.get? e = some (excObj C t1 none .none) → Q .none ⟨h', g, d, t, os⟩) :
    wpAny (model prog w) A (call (.ref u) rest) Q E ⟨hp, g, d, t, os⟩ := by
  obtain ⟨nm, N', qn, bs, bm', hdct, sn, sub, ab, col, dd, k0, k1, k2, k3, k5, hC, hT⟩ := PySem.W.excInit_of X q
  refine wpAny_call (codeAny_of_tree ?_)
  show wpAny _ A.in1 (callAny (.ref u) ⟨rest, []⟩) _ _ _
  simp only [callAny]
  refine wpAny_bind (wpAny_load hu ?_)
  simp only [kxs_mw, show (Value.type "method-wrapper" == Value.type "method" || Value.type "method-wrapper" == Value.type "builtin_function_or_method" ||
    Value.type "method-wrapper" == Value.type "method-wrapper") = true by decide, if_true]
  refine PySem.W.KFB.if_so (by decide) (wpAny_bind (PySem.W.check_bound_init FA.FB.toExcCallFacts hC he rfl ?_))
  refine wpAny_bind (wpAny_pure (wpAny_pure ⟨plainId_quiet FA.FB.init.plain _, codeAny_builtin FA.FB.initEntry ?_⟩))
  exact PySem.W.exc_init_tree (cls := .ref C) (t0 := t0) (dv := none) (c2 := .none) (c3 := .none) (b4 := .bool false) he hz fun h' k e' _ => hq h' _ k e'
end
end BJ

/-! the run of such an __init__; the class called -/
namespace BJ
open PySem PySem.Spec PyProof.Rows L2 Builtin Builtin.ObjectAttr
open PySem.W (Looks Frag findIn subIn nsIn typeIn keepIn codeIn hasDictIn clsIn takerIn excInitIn excOver excObj KxsFacts ksFn ksEnv ks_superIn isFn looks_findIn looks_clsIn InstAt kxs_mw)

/-! ### the text -/
def eiA (fs : List (Str × Pos)) (p : Pos) : Arguments :=
  { posonlyargs := [], args := { arg := "self", annotation := none, pos := p } :: fs.map fun f => { arg := f.1, annotation := none, pos := f.2 },
    vararg := none, kwonlyargs := [], kw_defaults := [], kwarg := none, defaults := [] }
def eiSup (t : Str) (p0 p1 p2 p3 p4 : Pos) : Stmt :=
  .Expr (.Call (.Attribute (.Call (.Name "super" p0) [] [] p1) "__init__" p2) [.Constant (.str t) 0 p3] [] p4) p4
def eiSet (f : Str) (q1 q2 q3 q4 : Pos) : Stmt := .Assign [.Attribute (.Name "self" q1) f q2] (.Name f q3) q4
def eiS (fs : List Str) : Scope := { kind := .function, names := (("self" : Str), NameKind.local) :: (fs.map (fun f => (f, NameKind.local)) ++ [(("__class__" : Str), NameKind.free), (("super" : Str), NameKind.globalImplicit)]), isGenerator := false, isCoroutine := false, more := [] }

/-- what the written part says of the class at C, its __init__ at fI, the class cell at cc, the code object at cda -/
structure ErrK (prog : Program) (K : Frag) (mg : Str → Option Value) (C fI cc cda : Addr) (B initId newId : String) (bm : List Value) (x : Str) (fs : List Str) : Prop where
  fam : Fam B initId newId bm
  gC : mg x = some (.ref C)
  ini : excInitIn K C bm newId = true
  ov : excOver K C bm = true
  hd : hasDictIn K C = true
  iC : findIn K (.ref C) "__init__" = some (some (.ref fI))
  isf : isFn K (.ref fI) = true
  sup : ks_superIn K C C "__init__" = some (some (.builtin initId))
  subB : subIn K (.ref C) (.type B) = some true
  stat : nsIn K PySem.cStatics "thirdparty.any" = some none
  super : mg "super" = none
  sa : findIn K (.ref C) "__setattr__" = some (some (.builtin "object.__setattr__"))
  tk : ∀ f ∈ fs, takerIn K C f = some none
  cell : ∃ cl cld csl, K.lookup cc = some ⟨cl, cld, .cell (some (.ref C)), csl⟩
  code : ∃ ccl cdd vs ccs tf, K.lookup cda = some ⟨ccl, cdd, .fields vs, ccs⟩ ∧ vs[2]? = some (.str prog.main.file tf)
  mro : PySem.W.mroIn K C (.ref C) = some true
  cls : ∃ cd, clsIn K C = some cd
  top : (prog.main.scope.names.lookup ("super" : Str)).isSome = false

section
variable {prog : Program} {w : World} {A : Around} {E : Value → Shared → Prop} {R : Result → Shared → Prop} {s : Shared} {K : Frag} {mg : Str → Option Value} {base : Heap}
  {B initId newId : String} {bm : List Value} {C fI cc cda x : Addr} {cn qual t : Str} {fs : List Str}

theorem eval_sup {o : Expr} {name : Str} {p2 p4 p3 : Pos} {env : Env} (hl : (p2.endLine == p4.line) = true) : eval (.Call (.Attribute o name p2) [.Constant (.str t) 0 p3] [] p4) env = (do
      let ov ← attributeBase o name env (eval o env)
      standAt p2.atName
      let (f, first) ← holding [ov] (getMethod ov name (do return (← importBound o env).getD true))
      callWith p4 f first (backTo p4 (starEach [.Constant (.str t) 0 p3] env)) []) := by
  show (do
    let ov ← attributeBase o name env (eval o env)
    standAt p2.atName
    methodCall o name p2 p4 env ov 1 (backTo p4 (starEach [.Constant (.str t) 0 p3] env)) []) = _
  have e : ∀ ov, methodCall o name p2 p4 env ov 1 (backTo p4 (starEach [.Constant (.str t) 0 p3] env)) [] = (do
      let (f, first) ← holding [ov] (getMethod ov name (do return (← importBound o env).getD true))
      callWith p4 f first (backTo p4 (starEach [.Constant (.str t) 0 p3] env)) []) := fun ov => by
    unfold methodCall methodCallPos
    rw [hl, Bool.or_true, if_pos rfl]
    rfl
  simp only [e]
/-- the first statement -/
theorem err_sup (T : ErrK prog K mg C fI cc cda B initId newId bm cn fs) (M0 : Mod K mg base) {scope : Scope} {body : List Stmt} {L : Addr} {m : Str → Option Value} {oI : Obj} {fd : FuncData} {ar : Arg}
    (kb : ∀ b o, base.get? b = some o → s.heap.get? b = some o) {t0 : Addr} (hx : s.heap.get? x = some (excObj C t0 none .none)) (hns : s.heap.Ns L m) (hm : m "self" = some (.ref x)) (xL : L ≠ x)
    (lk : K.lookup fI = some oI) (hfd : oI.data = .func fd) (hp : (fd.params.posonlyargs ++ fd.params.args).head? = some ar) (har : ar.arg = "self")
    (hk : scope.kind = .function) (hka : scope.names.lookup ("self" : Str) = some .local) (hkc : scope.names.lookup ("__class__" : Str) = some .free) (hks : scope.names.lookup ("super" : Str) = some .globalImplicit)
    {p0 p1 p2 p3 p4 : Pos} {Q : Flow → Shared → Prop} (hl : (p2.endLine == p4.line) = true)
    (hq : ∀ h' tk' t1, (∀ b o, b ≠ x → s.heap.get? b = some o → h'.get? b = some o) → h'.get? x = some (excObj C t1 none .none) → h'.Ns L m → Q .next { s with heap := h', toks := tk' }) :
    _root_.PySem.wpAt (model prog w) A (.func body (ksEnv qual scope L fI (.ref cda) cc)) (exec (eiSup t p0 p1 p2 p3 p4) (ksEnv qual scope L fI (.ref cda) cc)) Q E s := by
  have X : K.In s.heap := M0.kin.keeps kb
  obtain ⟨ccl, cdd, vs, ccs, tf, hcode, hvs⟩ := T.code
  obtain ⟨cl, cld, csl, hcell⟩ := T.cell
  obtain ⟨cd, hcd⟩ := T.cls
  obtain ⟨mb, hb1, hb2⟩ := M0.blt
  obtain ⟨oD, hD1, hD2⟩ : ∃ oD, s.heap.get? C = some oD ∧ oD.data = .cls cd := by
    have hcd' := hcd
    unfold PySem.W.clsIn at hcd'
    split at hcd'
    · rename_i c d cd' sl ho
      cases hcd'
      exact ⟨_, X _ _ ho, rfl⟩
    · cases hcd'
  have I : InstAt s.heap x (excObj C t0 none .none) C none := ⟨hx, rfl, rfl, trivial⟩
  obtain ⟨hh, g, d, tk, os⟩ := s
  refine ks_wpAt_Expr_any (ks_wpAt_MethodCall (ks_wpAt_super_base (of := oI) (fd := fd) (ar := ar) (vs := vs) (file := prog.main.file) (tf := tf) hks hkc (by decide) rfl (X _ _ lk) hfd hp rfl (X _ _ hcode) rfl hvs (by simp) T.top ?_) (eval_sup hl)) (by simp [interactive, hk])
  refine PySem.W.ks_loadName_global hk hks (Calls.loadGlobal_builtin (M0.glob.keeps kb) T.super (hb1.keeps kb) ((hb2 _ (by decide)).trans (show bootBuiltins "super" = some (.type "super") by decide +kernel)) ⟨rfl, ?_⟩)
  refine wpAny_loadName_free hk hkc rfl ⟨_, X _ _ hcell, rfl⟩ ?_
  refine wpAny_loadName_local hk (by rw [har]; exact hka) hns (by rw [har]; exact hm) ?_
  refine ks_wpAny_isType_cls hD1 hD2 ⟨rfl, ?_⟩
  refine ks_wpAny_call_super hD1 hD2 hx rfl (fun c e => nomatch e) (PySem.W.looks_mroIn X T.mro) fun h1 e1 k1 => ?_
  have X1 : K.In h1 := X.keeps k1
  have hm1 : Looks (model prog w) h1 (mroOf (.ref C)) cd.mro := (looks_clsIn X1 hcd).andThen .now
  have sup := T.sup
  unfold PySem.W.ks_superIn at sup
  rw [hcd, Option.bind_some] at sup
  have xC : x ≠ C := PySem.W.ks_ne X I hcd
  refine PySem.W.kxs_getMethod T.fam.KF e1 (PySem.W.looks_opaque X1 T.stat) hm1 rfl X1 sup ((InstAt.type (od := none) ⟨k1 _ _ hx, rfl, rfl, trivial⟩ : Looks _ h1 (typeOf (.ref x)) (.ref C)).andThen (PySem.W.looks_subIn X1 T.subB)) xC (by decide) ?_
  have hpu : (h1.push (kxs_mw initId x)).get? h1.objs.size = some (kxs_mw initId x) := Heap.get?_push_at rfl rfl
  refine PySem.W.kxs_callWith (i := initId) (x := x) rfl ?_
  refine Calls.evalArgs_plain (Calls.spliced_cons (Calls.Constant_str (k := 0) (pos := p3) ?_))
  refine Calls.spliced_nil ⟨hpu, ?_⟩
  refine errcall T.fam (X1.keeps fun b o e => Heap.get?_push_of_some _ e) T.ini (Heap.get?_push_of_some _ (k1 _ _ hx)) hpu (by rw [sizeLine_eq]; show 1 ≤ 16777216; decide) fun h' t1 k' hx' => ?_
  have ka : ∀ b o, b ≠ x → hh.get? b = some o → h'.get? b = some o := fun b o hb e => k' b o hb (Heap.get?_push_of_some _ (k1 _ _ e))
  refine hq h' _ t1 ka hx' ?_
  obtain ⟨o, es, ep, ho, r⟩ := hns
  exact ⟨o, es, ep, ka _ _ xL ho, r⟩

/-- a name of the frame -/
theorem ldF {M : Model} {m : Str → Option Value} {env : Env} {y : Str} {pos : Pos} {v : Value} {Q : Value → Shared → Prop} (hk : env.scope.kind = .function)
    (hl : env.kindOf y = some .local) (hn : s.heap.Ns env.locals m) (hv : m y = some v) (h : Q v s) (hd : (y == ("__debug__" : Str)) = false) : wpAny M A (eval (.Name y pos) env) Q E s :=
  wpAny_Name (wpAny_loadName_local hk hl hn hv h) hd
theorem err_fn (T : ErrK prog K mg C fI cc cda B initId newId bm cn fs) (X : K.In s.heap) : ∃ o, s.heap.get? fI = some o ∧ o.cls = .type "function" := by
  obtain ⟨o, ho, hc⟩ := Option.map_eq_some_iff.mp (show (K.lookup fI).map (·.cls) = some (.type "function") from beq_iff_eq.mp T.isf)
  exact ⟨o, X _ _ ho, hc⟩

/-- the stores -/
def setsB (l : List (Str × Pos × Pos × Pos × Pos)) : List Stmt := l.map fun y => eiSet y.1 y.2.1 y.2.2.1 y.2.2.2.1 y.2.2.2.2
/-- what a frame must know for a store -/
structure SetOk (K : Frag) (C x L : Addr) (env : Env) (m : Str → Option Value) (val : Str → Value) (f : Str) : Prop where
  tk : takerIn K C f = some none
  loc : env.kindOf f = some .local
  at_ : m f = some (val f)
  dbg : (f == ("__debug__" : Str)) = false
def putM (l : List Str) (val : Str → Value) (m0 : Str → Option Value) : Str → Option Value := fun y => if y ∈ l then some (val y) else m0 y
theorem putM_nil {val : Str → Value} {m0 : Str → Option Value} : putM [] val m0 = m0 := by
  funext y
  simp [putM]
theorem putM_cons {f : Str} {l : List Str} {val : Str → Value} {m0 : Str → Option Value} : putM l val (fun y => if y = f then some (val f) else m0 y) = putM (f :: l) val m0 := by
  funext y
  unfold putM
  by_cases h : y ∈ l
  · simp [h]
  · by_cases e : y = f
    · subst e; simp [h]
    · simp [h, e]
theorem sets_old {env : Env} {m : Str → Option Value} {val : Str → Value} {dx t0 : Addr} (FA : Fam B initId newId bm) (ov : excOver K C bm = true) (hd : hasDictIn K C = true)
    (sa : findIn K (.ref C) "__setattr__" = some (some (.builtin "object.__setattr__"))) (hk : env.scope.kind = .function) (hself : env.kindOf "self" = some .local) (hms : m "self" = some (.ref x)) (Ld : env.locals ≠ dx) (xd : x ≠ dx) (nK : K.lookup dx = none) :
    ∀ (l : List (Str × Pos × Pos × Pos × Pos)) (s : Shared) (m0 : Str → Option Value) (nl : List Str) (Q : Flow → Shared → Prop), K.In s.heap → s.heap.get? x = some (excObj C t0 (some dx) .none) → s.heap.Ns1 dx m0 → Within m0 nl → nl.length + l.length ≤ 1000 →
      s.heap.Ns env.locals m → (∀ y ∈ l, SetOk K C x env.locals env m val y.1) →
      (∀ h' tk', (∀ b o, b ≠ dx → s.heap.get? b = some o → h'.get? b = some o) → h'.Ns1 dx (putM (l.map (·.1)) val m0) → Q .next { s with heap := h', toks := tk' }) →
      wpAny (model prog w) A (execs (setsB l) env) Q E s
  | [], s, m0, nl, Q, X, hx, hns, hw, hz, hF, hy, hq => by
    refine wpAny_execs_nil (hq s.heap s.toks (fun _ _ _ e => e) ?_)
    rw [List.map_nil, putM_nil]
    exact hns
  | y :: r, s, m0, nl, Q, X, hx, hns, hw, hz, hF, hy, hq => by
    have S := hy y List.mem_cons_self
    rw [List.length_cons] at hz
    refine wpAny_execs_cons (plainObj_wpAny_Assign_Attribute (ldF hk S.loc hF S.at_ (ldF hk hself hF hms ?_ (by decide)) S.dbg))
    obtain ⟨hp, g, d, t, os⟩ := s
    refine errset_old FA X hx hns hw (by omega) ov hd S.tk sa fun h' tk' k' n' => ?_
    have X' : K.In h' := fun a o e => k' a o (fun z => by rw [z, nK] at e; cases e) (X a o e)
    have hF' : h'.Ns env.locals m := by
      obtain ⟨o, es, ep, ho, r⟩ := hF
      exact ⟨o, es, ep, k' _ _ Ld ho, r⟩
    refine sets_old FA ov hd sa hk hself hms Ld xd nK r ⟨h', g, d, tk', os⟩ _ (y.1 :: nl) Q X' (k' _ _ xd hx) n' (Within.cons _ _ hw) (by rw [List.length_cons]; omega) hF' (fun z hz => hy z (List.mem_cons_of_mem _ hz)) fun h2 tk2 k2 n2 => ?_
    refine hq h2 tk2 (fun b o hb e => k2 b o hb (k' b o hb e)) ?_
    rw [List.map_cons, ← putM_cons]
    exact n2

/-- what is left of a made exception: its object at e, its dict at d -/
structure ErrMade (h h' : Heap) (e C d : Addr) (mA : Str → Option Value) : Prop where
  keep : ∀ b o, h.get? b = some o → h'.get? b = some o
  new : h.objs.size ≤ e
  obj : ∃ t0, h'.get? e = some (excObj C t0 (some d) .none)
  dnew : h.objs.size ≤ d
  dne : d ≠ e
  ns : h'.Ns1 d mA

/-- the text of __init__ with the fields fs; the function object -/
structure IniK (K : Frag) (fI cc cda : Addr) (qual t : Str) (fs : List Str) : Prop where
  lk : ∃ (oc : Value) (od : Option Addr) (dV kV doc pm : Value) (an : Option Addr) (ct : Value) (osl : Array (Option Value)) (p : Pos) (qs : List Pos) (p0 p1 p2 p3 p4 : Pos) (l : List (Str × Pos × Pos × Pos × Pos)),
    K.lookup fI = some ⟨oc, od, .func (ksFn "__init__" qual (eiA (fs.zip qs) p) (eiSup t p0 p1 p2 p3 p4 :: setsB l) (eiS fs) dV kV doc pm an (.ref cda) ct cc), osl⟩ ∧
      (p2.endLine == p4.line) = true ∧ l.map (·.1) = fs ∧ qs.length = fs.length
  code : codeIn K (.ref cda) qual = true
  ne : ∀ f ∈ fs, ¬ f = "self" ∧ ¬ f = "__class__" ∧ ¬ f = "super" ∧ (f == ("__debug__" : Str)) = false
  nd : fs.Nodup
  some_ : fs ≠ [] ∧ fs.length ≤ 10
  bind : ∀ fd, (∃ oc od osl, K.lookup fI = some ⟨oc, od, .func fd, osl⟩) → ∀ (u : Value) (us : List Value), us.length = fs.length → bindArgs fd ⟨u :: us, []⟩ = pure ((("self" : Str), u) :: fs.zip us)

theorem lookup_cons_if {β : Type} (a : Str) (b : β) (l : List (Str × β)) (y : Str) : List.lookup y ((a, b) :: l) = if y = a then some b else l.lookup y := by
  rw [List.lookup_cons]
  by_cases h : y = a
  · subst h; simp
  · have z : (y == a) = false := by simpa using h
    rw [z, if_neg h]
theorem lookup_append_ {β : Type} (l r : List (Str × β)) (y : Str) : List.lookup y (l ++ r) = (l.lookup y).or (r.lookup y) := by
  induction l with
  | nil => simp
  | cons p l ih =>
    obtain ⟨a, b⟩ := p
    rw [List.cons_append, lookup_cons_if, lookup_cons_if, ih]
    split <;> simp
theorem lookup_rev {β : Type} : ∀ (l : List (Str × β)), (l.map (·.1)).Nodup → ∀ k v, (k, v) ∈ l → l.reverse.lookup k = some v
  | [], _, _, _, h => nomatch h
  | (a, b) :: l, nd, k, v, h => by
    rw [List.map_cons, List.nodup_cons] at nd
    rw [List.reverse_cons, lookup_append_]
    rcases List.mem_cons.mp h with e | h
    · injection e with e1 e2
      subst e1
      subst e2
      have z : l.reverse.lookup k = none := by
        rw [List.lookup_eq_none_iff]
        intro p hp
        have hp' : p ∈ l := by simpa using hp
        have : ¬ k = p.1 := fun e => nd.1 (by rw [e]; exact List.mem_map_of_mem (f := (·.1)) hp')
        simpa using this
      rw [z, Option.none_or, lookup_cons_if, if_pos rfl]
    · rw [lookup_rev l nd.2 k v h]
      rfl
theorem eiS_loc {fs : List Str} {y : Str} (h : y = "self" ∨ y ∈ fs) : (eiS fs).names.lookup y = some .local := by
  unfold eiS
  show List.lookup y ((("self" : Str), NameKind.local) :: _) = _
  rw [lookup_cons_if]
  by_cases e : y = "self"
  · rw [if_pos e]
  · rw [if_neg e, lookup_append_]
    have hy : y ∈ fs := h.resolve_left e
    have : (fs.map fun f => (f, NameKind.local)).lookup y = some .local := by
      clear h e
      induction fs with
      | nil => cases hy
      | cons a l ih =>
        rw [List.map_cons, lookup_cons_if]
        by_cases e : y = a
        · rw [if_pos e]
        · rw [if_neg e]
          exact ih ((List.mem_cons.mp hy).resolve_left e)
    rw [this]
    rfl
theorem eiS_out {fs : List Str} {y : Str} (h : ¬ y = "self") (hy : y ∉ fs) : (eiS fs).names.lookup y = List.lookup y [(("__class__" : Str), NameKind.free), (("super" : Str), NameKind.globalImplicit)] := by
  unfold eiS
  show List.lookup y ((("self" : Str), NameKind.local) :: _) = _
  rw [lookup_cons_if, if_neg h, lookup_append_]
  have : (fs.map fun f => (f, NameKind.local)).lookup y = none := by
    rw [List.lookup_eq_none_iff]
    intro p hp
    obtain ⟨f, hf, rfl⟩ := List.mem_map.mp hp
    have : ¬ y = f := fun e => hy (e ▸ hf)
    simpa using this
  rw [this]
  rfl
theorem eiS_cell {fs : List Str} : ∀ z ∈ (eiS fs).names, z.2 ≠ .cell := by
  intro z hz
  unfold eiS at hz
  rcases List.mem_cons.mp hz with rfl | hz
  · exact fun e => nomatch e
  rcases List.mem_append.mp hz with hz | hz
  · obtain ⟨f, _, rfl⟩ := List.mem_map.mp hz
    exact fun e => nomatch e
  · rcases List.mem_cons.mp hz with rfl | hz
    · exact fun e => nomatch e
    · rcases List.mem_cons.mp hz with rfl | hz
      · exact fun e => nomatch e
      · cases hz

/-- THE RUN of __init__ -/
theorem err_init (T : ErrK prog K mg C fI cc cda B initId newId bm cn fs) (N : IniK K fI cc cda qual t fs) (M0 : Mod K mg base) {us : List Value} {args : Args} {t0 : Addr} (hul : us.length = fs.length)
    (kb : ∀ b o, base.get? b = some o → s.heap.get? b = some o) (hx : s.heap.get? x = some (excObj C t0 none .none)) (nK : K.lookup x = none) (hroom : A.depth < recursionLimit)
    (hb : ∀ fd, (∃ oc od osl, K.lookup fI = some ⟨oc, od, .func fd, osl⟩) → BindsTo s fd args ((("self" : Str), Value.ref x) :: fs.zip us))
    (hq : ∀ h' tk' d t1, (∀ b o, b ≠ x → s.heap.get? b = some o → h'.get? b = some o) → s.heap.objs.size ≤ d → h'.get? x = some (excObj C t1 (some d) .none) →
      h'.Ns1 d (putM fs (fun f => ((fs.zip us).lookup f).getD .none) fun _ => none) → R (.ok (.ret .none)) { s with heap := h', toks := tk' }) :
    codeAny (model prog w) A (.call (.ref fI) args) R s := by
  obtain ⟨oc, od, dV, kV, doc, pm, an, ct, osl, p, qs, p0, p1, p2, p3, p4, l, lk, hl, hlf, hqs⟩ := N.lk
  have X : K.In s.heap := M0.kin.keeps kb
  have nl : s.heap.NoLimit := M0.nolimit.keeps kb
  have zf : (fs.zip us).map (·.1) = fs := by rw [List.map_fst_zip (by omega)]
  have nself : ("self" : Str) ∉ fs := fun h => (N.ne _ h).1 rfl
  have nd' : (((("self" : Str), Value.ref x) :: fs.zip us).map (·.1)).Nodup := by
    rw [List.map_cons, zf]
    exact List.nodup_cons.mpr ⟨nself, N.nd⟩
  refine PySem.ks_codeAny_call_defAt (binds := (("self" : Str), Value.ref x) :: fs.zip us) hroom (X _ _ lk) rfl nl (PySem.W.codeRec_of X N.code) rfl (hb _ ⟨_, _, _, lk⟩) eiS_cell (fun y hy => eiS_loc ?_) (fun h₁ hns k₁ => ?_) rfl rfl rfl
  · rcases List.mem_cons.mp hy with rfl | hy
    · exact .inl rfl
    · exact .inr (List.of_mem_zip hy).1
  have hm : ((("self" : Str), Value.ref x) :: fs.zip us).reverse.lookup ("self" : Str) = some (Value.ref x) := lookup_rev _ nd' _ _ List.mem_cons_self
  have hmf : ∀ f ∈ fs, ((("self" : Str), Value.ref x) :: fs.zip us).reverse.lookup f = some (((fs.zip us).lookup f).getD .none) := fun f hf => by
    have : f ∈ (fs.zip us).map (·.1) := by rw [zf]; exact hf
    obtain ⟨⟨f', u⟩, hm', rfl⟩ := List.mem_map.mp this
    have ndz : ((fs.zip us).map (·.1)).Nodup := by rw [zf]; exact N.nd
    have e1 : (fs.zip us).lookup f' = some u := by
      have z := lookup_rev ((fs.zip us).reverse) (by rw [List.map_reverse]; exact (List.reverse_perm _).nodup_iff.mpr ndz) f' u (by simpa using hm')
      rw [List.reverse_reverse] at z
      exact z
    show _ = some (((fs.zip us).lookup f').getD .none)
    rw [e1]
    exact lookup_rev _ nd' _ _ (List.mem_cons_of_mem _ hm')
  have hxL : s.heap.objs.size ≠ x := Nat.ne_of_gt (Heap.lt_size hx)
  have ncl : ("__class__" : Str) ∉ fs := fun h => (N.ne _ h).2.1 rfl
  have nsu : ("super" : Str) ∉ fs := fun h => (N.ne _ h).2.2.1 rfl
  refine ks_wpAt_execs_cons (err_sup (scope := eiS fs) T M0 (fun b o e => k₁ b o (kb b o e)) (k₁ _ _ hx) hns hm hxL lk rfl rfl rfl rfl (eiS_loc (.inl rfl)) ?_ ?_ hl fun h2 tk2 t2 k2 hx2 hns2 => ?_)
  · rw [eiS_out (by decide) ncl]; rfl
  · rw [eiS_out (by decide) nsu]; rfl
  show _root_.PySem.wpAt _ _ _ (execs (setsB l) _) _ _ _
  refine wpAt_of_wpAny ?_
  have X2 : K.In h2 := fun a o e => k2 a o (fun z => by rw [z, nK] at e; cases e) (k₁ a o (X a o e))
  obtain ⟨hne, hlen⟩ := N.some_
  cases l with
  | nil => exact absurd hlf.symm hne
  | cons y r =>
    have setok : ∀ z ∈ y :: r, SetOk K C x s.heap.objs.size (ksEnv qual (eiS fs) s.heap.objs.size fI (.ref cda) cc) (fun y => ((("self" : Str), Value.ref x) :: fs.zip us).reverse.lookup y)
        (fun f => ((fs.zip us).lookup f).getD .none) z.1 := fun z hz => by
      have hzf : z.1 ∈ fs := by rw [← hlf]; exact List.mem_map_of_mem hz
      exact ⟨T.tk _ hzf, eiS_loc (.inr hzf), hmf _ hzf, (N.ne _ hzf).2.2.2⟩
    have S := setok y List.mem_cons_self
    refine wpAny_execs_cons (plainObj_wpAny_Assign_Attribute (ldF rfl S.loc hns2 S.at_ (ldF rfl (eiS_loc (.inl rfl)) hns2 hm ?_ (by decide)) S.dbg))
    refine errset_new T.fam X2 hx2 T.ov T.hd S.tk T.sa fun h3 tk3 dx k3 dz dxn hx3 n3 => ?_
    have nKd : K.lookup dx = none := by
      cases e : K.lookup dx with
      | none => rfl
      | some o => exact absurd (Heap.lt_size (X2 _ _ e)) (Nat.not_lt.mpr dz)
    have X3 : K.In h3 := fun a o e => k3 a o (fun z => by rw [z, nK] at e; cases e) (X2 a o e)
    have Ld : s.heap.objs.size ≠ dx := Nat.ne_of_lt (Nat.lt_of_lt_of_le hns2.lt dz)
    have hns3 : h3.Ns s.heap.objs.size (fun y => ((("self" : Str), Value.ref x) :: fs.zip us).reverse.lookup y) := by
      obtain ⟨o, es, ep, ho, r⟩ := hns2
      exact ⟨o, es, ep, k3 _ _ hxL ho, r⟩
    have hrl : r.length ≤ 10 := by
      have := congrArg List.length hlf
      rw [List.length_map, List.length_cons] at this
      omega
    refine sets_old (env := ksEnv qual (eiS fs) s.heap.objs.size fI (.ref cda) cc) T.fam T.ov T.hd T.sa (m := fun y => ((("self" : Str), Value.ref x) :: fs.zip us).reverse.lookup y) (val := fun f => ((fs.zip us).lookup f).getD .none) (dx := dx) rfl (eiS_loc (.inl rfl)) hm Ld dxn.symm nKd r
      _ _ [y.1] _ X3 hx3 n3 (Within.cons _ _ Within.nil) (by rw [List.length_singleton]; omega) hns3 (fun z hz => setok z (List.mem_cons_of_mem _ hz)) fun h4 tk4 k4 n4 => ?_
    refine hq h4 tk4 dx t2 (fun b o hb e => ?_) (Nat.le_of_lt (Nat.lt_of_lt_of_le hns2.lt dz)) (k4 _ _ dxn.symm hx3) ?_
    · have e2 := k2 b o hb (k₁ b o e)
      have nbd : b ≠ dx := Nat.ne_of_lt (Nat.lt_of_lt_of_le (Heap.lt_size e2) dz)
      exact k4 b o nbd (k3 b o hb e2)
    · have e4 : putM (r.map (·.1)) (fun f => ((fs.zip us).lookup f).getD .none) (fun z => if z = y.1 then some (((fs.zip us).lookup y.1).getD .none) else none) = putM fs (fun f => ((fs.zip us).lookup f).getD .none) fun _ => none := by
        have q := putM_cons (f := y.1) (l := r.map (·.1)) (val := fun f => ((fs.zip us).lookup f).getD .none) (m0 := fun _ => none)
        rw [← List.map_cons, hlf] at q
        exact q
      rw [← e4]
      exact n4

/-- the class called -/
theorem err_made (T : ErrK prog K mg C fI cc cda B initId newId bm cn fs) (N : IniK K fI cc cda qual t fs) (M0 : Mod K mg base) {us : List Value} (hul : us.length = fs.length)
    (kb : ∀ b o, base.get? b = some o → s.heap.get? b = some o) (hroom : A.depth + 1 < recursionLimit)
    (hq : ∀ h' tk e d, ErrMade s.heap h' e C d (putM fs (fun f => ((fs.zip us).lookup f).getD .none) fun _ => none) → R (.ok (.ret (.ref e))) { s with heap := h', toks := tk }) :
    codeAny (model prog w) A (.call (.ref C) ⟨us, []⟩) R s := by
  have X : K.In s.heap := M0.kin.keeps kb
  obtain ⟨nm, N', qn, bs, bm', hdct, sn, sub, ab, col, dd, k0, k1, k2, k3, k5, hC, hT⟩ := PySem.W.excInit_of X T.ini
  obtain ⟨oI, hoI, hcI⟩ := err_fn T X
  have hz : us.length ≤ sizeLine := by rw [sizeLine_eq, hul]; have := N.some_.2; omega
  obtain ⟨hp, g, dr, tk, os⟩ := s
  have old : ∀ b o, hp.get? b = some o → ((hp.push (PySem.W.kdv_tup us)).push (HandSPX.excO C hp.objs.size)).get? b = some o := fun b o e => Heap.get?_push_of_some _ (Heap.get?_push_of_some _ e)
  have hget : ((hp.push (PySem.W.kdv_tup us)).push (HandSPX.excO C hp.objs.size)).get? (hp.objs.size + 1) = some (HandSPX.excO C hp.objs.size) := by heap_get
  have hnx : K.lookup (hp.objs.size + 1) = none := by
    cases e : K.lookup (hp.objs.size + 1) with
    | none => rfl
    | some o => exact absurd (Nat.lt_of_succ_lt (Heap.lt_size (show hp.get? _ = some o from X _ _ e))) (Nat.lt_irrefl _)
  refine HandSPX.call_own T.fam.FB hT hC (looks_findIn X T.iC) (fun self => PySem.W.exc_bind hoI hcI self) hz ?_
  refine err_init (x := hp.objs.size + 1) (t0 := hp.objs.size) (us := us) (s := ⟨(hp.push (PySem.W.kdv_tup us)).push (HandSPX.excO C hp.objs.size), g, dr, tk, os⟩) T N M0 hul (fun b o e => old b o (kb b o e)) hget hnx ?_
    (fun fd hfd => BindsTo.of_eq (N.bind fd hfd _ us hul)) fun h' tk' d t1 k' dz hx n' => ?_
  · show A.depth + 1 < recursionLimit
    exact hroom
  · have dz' : hp.objs.size + 1 + 1 ≤ d := by
      have q := dz
      rw [Heap.size_push, Heap.size_push] at q
      exact q
    exact ⟨rfl, hq h' tk' (hp.objs.size + 1) d ⟨fun b o e => k' b o (Nat.ne_of_lt (Nat.lt_succ_of_lt (Heap.lt_size e))) (old b o e), Nat.le_succ _, ⟨_, hx⟩, Nat.le_trans (Nat.le_trans (Nat.le_succ _) (Nat.le_succ _)) dz', (Nat.ne_of_lt (Nat.lt_of_succ_le dz')).symm, n'⟩⟩
end

/-! ### raise C(..) over the layer -/
/-- the fields of an exception's own dict, as values of the layer -/
theorem relO_putM : ∀ {fs : List Str} {vs : List V} {us : List Value}, Vals vs us → vs.length = fs.length → ∀ y, RelO ((fs.zip vs).lookup y) (putM fs (fun f => ((fs.zip us).lookup f).getD .none) (fun _ => none) y)
  | [], _, _, _, _, y => by simp [putM, RelO]
  | f :: fs, [], _, _, h, _ => by simp at h
  | f :: fs, v :: vs, u :: us, .cons r rs, h, y => by
    rw [List.zip_cons_cons, lookup_cons_if]
    by_cases e : y = f
    · subst e
      simp [putM, RelO, lookup_cons_if, r]
    · rw [if_neg e]
      have ih := relO_putM (fs := fs) rs (by simpa using h) y
      have : putM (f :: fs) (fun g => (((f :: fs).zip (u :: us)).lookup g).getD .none) (fun _ => none) y = putM fs (fun g => ((fs.zip us).lookup g).getD .none) (fun _ => none) y := by
        unfold putM
        by_cases h : y ∈ fs
        · simp [h, List.zip_cons_cons, lookup_cons_if, e]
        · simp [h, e]
      rw [this]
      exact ih
section
variable {X : Cx} {C fI cc cda : Addr} {B initId newId : String} {bm : List Value} {cn qual t : Str} {fs : List Str} {W : WX}
def tMkErr (C : Addr) (fs : List Str) (ta : TA) : L2.St → Hp → XK → Prop := fun σ H Q => ta σ H fun vs H1 => vs.length = fs.length ∧ ∀ d, H1 d = none → Q (.ref C) (some d) (upd H1 d (.xd (fs.zip vs)))
theorem pmk_err {e : Expr} {es : List Expr} {ta : TA} {p pos : Pos} (T : ErrK X.prog X.K X.mg C fI cc cda B initId newId bm cn fs) (N : IniK X.K fI cc cda qual t fs) (kC : keepIn X.K (.ref C) = true)
    (eC : subIn X.K (.ref C) (.type "BaseException") = some true) (tC : typeIn X.K (.ref C) = some (.type "type")) {k : Nat} (hr : Room k X.A) (ha : PA X (e :: es) ta) (hg : Gl X cn) (hdb : (cn == ("__debug__" : Str)) = false := by decide)
    (he : starEach (e :: es) X.env = (false, eval e X.env) :: starEach es X.env := by rfl) (hpl : (backTo pos (starEach es X.env)).any (·.1) = false := by rfl) :
    PMk X (.Call (.Name cn p) (e :: es) [] pos) (tMkErr C fs ta) := by
  intro pins s σ H Q I h
  refine wpAny_Call_Name_kw (ld_glob I hg T.gC ?_ hdb)
  refine PySem.W.callWith_K (h₀ := X.base) I.ok.mod.kin kC (thn (ha.run pos pins s σ H _ I h) ?_) he hpl
  rintro us s1 ⟨vs, H1, I1, r1, hvl, q1⟩
  refine ⟨I1.kIn, ?_⟩
  show wpAny _ _ (call (.ref C) us) _ _ _
  have hul : us.length = fs.length := r1.length.symm.trans hvl
  have hbk := I1.bk
  obtain ⟨hp, g, dr, tk, os⟩ := s1
  refine wpAny_call (err_made T N I1.mod hul hbk (by have := hr.dp; omega) fun h' tk' a d M => ?_)
  show MkP X pins σ Q (.ref a) ⟨h', g, dr, tk', os⟩
  obtain ⟨t0, ha'⟩ := M.obj
  obtain ⟨G', g1, g2⟩ := restrict h' fun b => decide (b ≠ a)
  have gk : ∀ b, b ≠ a → G'.get? b = h'.get? b := fun b hb => g1 b (decide_eq_true hb)
  have ge : G'.get? a = none := g2 a (by simp)
  have gold : ∀ b o, hp.get? b = some o → G'.get? b = some o := fun b o q => (gk b (Nat.ne_of_lt (Nat.lt_of_lt_of_le (Heap.lt_size q) M.new))).trans (M.keep b o q)
  have ob : ObjOk X.prog X.w (upd H1 d (.xd (fs.zip vs))) G' d (.xd (fs.zip vs)) := ⟨_, M.ns.at (fun o q => (gk d M.dne).trans q), relO_putM r1 hvl⟩
  have J : Inv X pins σ (upd H1 d (.xd (fs.zip vs))) ⟨G', g, dr, tk', os⟩ := I1.laid (t' := tk') gold M.dnew ob
  have subs : ∀ b o, G'.get? b = some o → h'.get? b = some o := fun b o q => by
    by_cases hb : b = a
    · rw [hb, ge] at q; cases q
    · exact (gk b hb).symm.trans q
  refine ⟨a, _, _, ⟨G', g, dr, tk', os⟩, _, .ref C, some d, rfl, J, subs, ge, ha', ⟨rfl, rfl⟩, rfl, rfl, ?_, rfl, I1.bare, raises_own eC tC, q1 d (I1.hok.fresh M.dnew)⟩
  rw [upd_ne (Ne.symm M.dne)]
  exact I1.hok.fresh M.new
/-- raise C(e, ..) -/
def tRaiseErr (C : Addr) (fs : List Str) (W : WX) (ta : TA) : TS := fun _ σ H => tMkErr C fs ta σ H fun cls d H' => W cls d σ H'
theorem ps_raiseErr {e : Expr} {es : List Expr} {ta : TA} {p pos pos2 : Pos} (hc : X.calm = true) (T : ErrK X.prog X.K X.mg C fI cc cda B initId newId bm cn fs) (N : IniK X.K fI cc cda qual t fs) (kC : keepIn X.K (.ref C) = true)
    (eC : subIn X.K (.ref C) (.type "BaseException") = some true) (tC : typeIn X.K (.ref C) = some (.type "type")) {k : Nat} (hr : Room k X.A) (tkW : Takes X W) (ha : PA X (e :: es) ta) (hg : Gl X cn) (hdb : (cn == ("__debug__" : Str)) = false := by decide)
    (he : starEach (e :: es) X.env = (false, eval e X.env) :: starEach es X.env := by rfl) (hpl : (backTo pos (starEach es X.env)).any (·.1) = false := by rfl) :
    PS X (.Raise (some (.Call (.Name cn p) (e :: es) [] pos)) none pos2) (tRaiseErr C fs W ta) := ps_raise hc tkW (pmk_err T N kC eC tC hr ha hg hdb he hpl)
end
end BJ

/-! try: body / except X as n: suite, where the exception stays known behind the statement; its fields -/
namespace BJ
open PySem PySem.Spec PyProof.Rows L2
open PySem.W (Looks Frag findIn subIn nsIn typeIn keepIn hasDictIn)

/-- an exception object that is held: of class cls, its own dict at d -/
def ExcK (a : Addr) (cls : Value) (d : Option Addr) : HO := .ext fun h => ∃ (oe : Obj) (vs : Array Value), h.get? a = some oe ∧ Zc cls d oe ∧ oe.data = .fields vs
theorem excK_ok {P : Program} {w : World} {H : Hp} {h : Heap} {a : Addr} {cls : Value} {d : Option Addr} {oe : Obj} {vs : Array Value} (e : h.get? a = some oe) (z : Zc cls d oe) (hd : oe.data = .fields vs) : ObjOk P w H h a (ExcK a cls d) :=
  ⟨⟨oe, vs, e, z, hd⟩, ⟨oe, e⟩, fun _ _ ⟨o, v, q, r⟩ k => ⟨o, v, k o q, r⟩⟩
theorem excK_at {P : Program} {w : World} {H : Hp} {h : Heap} {a : Addr} {cls : Value} {d : Option Addr} (x : HOk P w H h) (e : H a = some (ExcK a cls d)) : ∃ (oe : Obj) (vs : Array Value), h.get? a = some oe ∧ Zc cls d oe ∧ oe.data = .fields vs := by
  have q : ObjOk P w H h a (ExcK a cls d) := x a _ e
  exact q.1

section
variable {X : Cx} {pins : List (Addr × Obj)} {σ : L2.St} {H : Hp} {s : Shared}
/-- a pinned object that is new is tracked from here on -/
theorem Inv.track {a : Addr} {oe : Obj} {φ : Heap → Prop} (I : Inv X ((a, oe) :: pins) σ H s) (hnew : X.s_0.heap.get? a = none) (hp : ∀ p ∈ X.pn ++ pins, p.1 ≠ a)
    (ok : ObjOk X.prog X.w (upd H a (.ext φ)) s.heap a (.ext φ)) : Inv X pins σ (upd H a (.ext φ)) s := by
  obtain ⟨ha, na, nL, nF, nc⟩ := I.pin (a, oe) (List.mem_append_right _ List.mem_cons_self)
  have up : ∀ b u, H b = some u → upd H a (.ext φ) b = some u := fun b u e => by
    rw [upd_ne (ne_of_none e na)]
    exact e
  have old : ∀ b o, X.s_0.heap.get? b = some o → b ≠ a := fun b o e z => by
    rw [z, hnew] at e
    cases e
  constructor
  · exact I.ok
  · exact I.os
  · exact I.bare
  · exact ⟨I.base.keep, I.base.slot, fun b o e n x => by rw [upd_ne (old b o e)]; exact I.base.free b o e n x, I.base.there, fun b xs e => up _ _ (I.base.tups b xs e), fun b o u e => up _ _ (I.base.frzs b o u e),
      fun b ps e => let ⟨m, q⟩ := I.base.tbls b ps e; ⟨m, up _ _ q⟩⟩
  · exact I.loc
  · exact I.cell
  · rw [upd_ne (Ne.symm nL)]
    exact I.free
  · intro y c e
    have q : c ≠ a := fun z => by
      obtain ⟨v, o, ho, hd⟩ := I.cell y c e
      rw [z] at ho
      have ha' : s.heap.get? a = some oe := ha
      rw [ha'] at ho
      cases ho
      exact nc _ hd
    rw [upd_ne q]
    exact I.freeC y c e
  · intro p hpm
    obtain ⟨e, n, r⟩ := I.pin p ((List.mem_append.mp hpm).elim (fun z => List.mem_append_left _ z) fun z => List.mem_append_right _ (List.mem_cons_of_mem _ z))
    exact ⟨e, by rw [upd_ne (hp p hpm)]; exact n, r⟩
  · intro b u e
    by_cases hb : b = a
    · subst hb
      rw [upd_same] at e
      cases e
      exact ok
    · rw [upd_ne hb] at e
      exact (I.hok b u e).stay (fun _ _ _ q => q) (fun c q => up _ _ q) fun c xs q => up _ _ q
  · exact I.len

/-- the test of an except clause -/
def ClauseT (X : Cx) (t : Expr) (mt : Value → Option Bool) : Prop := ∀ (a : Addr) (pn : List (Addr × Obj)) (s : Shared) (σ : L2.St) (H : Hp) (cls : Value) (b : Bool) (E : Value → Shared → Prop) (Q : Value → Shared → Prop),
  Inv (X.suite a pn) [] σ H s → Looks (model X.prog X.w) s.heap (typeOf (.ref a)) cls → mt cls = some b →
  (∀ c h' tk', (∀ b o, s.heap.get? b = some o → h'.get? b = some o) → Looks (model X.prog X.w) h' (excMatches (.ref a) c) b → Q c { s with heap := h', toks := tk' }) →
  wpAny (model X.prog X.w) (X.A.mark (some (.ref a))) (eval t X.env) Q E s
theorem name_ld {x : Str} {c : Value} {np : Pos} {A : Around} {E : Value → Shared → Prop} {Q : Value → Shared → Prop} {a : Addr} {pn : List (Addr × Obj)} (hc : Names X x c) (S : Inv (X.suite a pn) [] σ H s) (q : Q c s) :
    wpAny (model X.prog X.w) (X.A.mark (some (.ref a))) (eval (.Name x np) X.env) Q E s := by
  obtain ⟨hg, hdbg, hm | ⟨hm, hv, hnn⟩⟩ := hc
  · exact ld_glob (X := X.suite a pn) S hg hm q hdbg
  · exact ld_blt (X := X.suite a pn) S hg hm hv q hnn hdbg
theorem cl_one {x : Str} {c : Value} {np : Pos} (hc : Names X x c) : ClauseT X (.Name x np) (fun cls => PySem.W.exmOne X.K cls c) := fun a pn s σ H cls b E Q S LT hb hq =>
  name_ld (A := X.A) hc S (hq c s.heap s.toks (fun _ _ e => e) (PySem.W.exm_one S.kIn LT hb))
theorem cl_three {x1 x2 x3 : Str} {c1 c2 c3 : Value} {p1 p2 p3 p : Pos} {k : Nat} (h1 : Names X x1 c1) (h2 : Names X x2 c2) (h3 : Names X x3 c3) (hl : starEach [.Name x1 p1, .Name x2 p2, .Name x3 p3] X.env = [(false, eval (.Name x1 p1) X.env), (false, eval (.Name x2 p2) X.env), (false, eval (.Name x3 p3) X.env)] := by rfl) :
    ClauseT X (.Tuple [.Name x1 p1, .Name x2 p2, .Name x3 p3] k p) (fun cls => PySem.W.exmAny X.K cls [c1, c2, c3]) := fun a pn s σ H cls b E Q S LT hb hq => by
  refine wpAny_Tuple_spliced ?_
  rw [hl]
  refine Calls.spliced_cons (name_ld (A := X.A) h1 S ?_)
  refine Calls.spliced_cons (name_ld (A := X.A) h2 S ?_)
  refine Calls.spliced_cons (name_ld (A := X.A) h3 S ?_)
  refine Calls.spliced_nil ⟨by rw [sizeLine_eq]; show 3 ≤ 16777216; decide, ?_⟩
  have k : ∀ b o, s.heap.get? b = some o → (s.heap.push ({ cls := .type "tuple", data := .seq [c1, c2, c3].toArray } : Obj)).get? b = some o := fun b o e => Heap.get?_push_of_some _ e
  exact hq _ _ s.toks k (PySem.W.exm_tup3 (S.kIn.keeps k) (fun A Q E s' k' q => LT A Q E s' (fun b o e => k' b o (k b o e)) q) (Heap.get?_push_size _ rfl) hb)
end

theorem FlyingZ.grow {base h h' : Heap} {l : List Env} {e : Addr} {Z : Obj → Prop} (x : HandSPX.FlyingZ base l e Z h) (k : ∀ b o, h.get? b = some o → h'.get? b = some o) : HandSPX.FlyingZ base l e Z h' := by
  obtain ⟨f1, f2, f3, oe, vs, T, oT, ts, a1, a2, a3, a4, a5, a6, a7, a8⟩ := x
  exact ⟨fun b o e => k b o (f1 b o e), f2, Heap.FunFrames.of_keeps (fun b o e _ => ⟨o, k b o e, rfl⟩) f3, oe, vs, T, oT, ts, k _ _ a1, a2, a3, a4, a5, a6, k _ _ a7, a8⟩

/-- what the clause wishes of an exception of the body; behind it the exception is known at a -/
def wTry (mt : Value → Option Bool) (i : Nat) (ts : Addr → Value → Option Addr → TS) (Wout : WX) (D : Ends) : WX := fun cls d σ H =>
  ∃ b, mt cls = some b ∧
    (b = true → ∀ a, H a = none → ts a cls d { nx := fun σ' H' => D.nx (σ'.set i none) (upd H' a (ExcK a cls d)), rt := D.rt, bk := fun σ' H' => D.bk (σ'.set i none) (upd H' a (ExcK a cls d)), ct := fun σ' H' => D.ct (σ'.set i none) (upd H' a (ExcK a cls d)) } (σ.set i (some (.ref a))) H) ∧
    (b = false → Wout cls d σ H)
section
variable {X : Cx} {n : Str} {t : Expr} {mt : Value → Option Bool} {i : Nat} {body suite : List Stmt} {b₀ : Stmt} {pos pos' : Pos} {tb : WX → TS} {ts : Addr → Value → Option Addr → TS} {Wout : WX}
theorem ps_tryK (hs : X.stack = X.env :: X.outer) (hf : X.env.frame = some X.env.locals) (hex : X.ex = []) (hN : X.N.Nodup) (hi : X.N[i]? = some n) (hln : X.env.kindOf n = some .local) (hc : ClauseT X t mt) (tk : Takes X Wout)
    (hb : ∀ (W : WX) (pn : List (Addr × Obj)) (xe : Value → Shared → Prop), Takes (X.tr pn xe) W → PassesOwn (model X.prog X.w) X.A X.env xe → PSs (X.tr pn xe) body (tb W))
    (hsu : ∀ (a : Addr) (oe : Obj) (cls : Value) (d : Option Addr) (pn : List (Addr × Obj)), Zc cls d oe → (∃ vs, oe.data = .fields vs) → PSs (X.suite a ((a, oe) :: pn)) (b₀ :: suite) (ts a cls d)) :
    PS X (.Try body [.ExceptHandler (some t) (some n) (b₀ :: suite) pos'] [] [] pos) (fun D σ H => tb (wTry mt i ts Wout D) D σ H) where
  run := by
    intro pins s σ H D I h
    have ok := I.ok
    have hfr : X.A.frames = some (X.env :: X.outer) := by rw [ok.frames, hs]
    refine wpAny_Try_except (wpAny_mono ((hb (wTry mt i ts Wout D) (X.pn ++ pins) (fun e s₁ => wpAny (model X.prog X.w) X.A (noteFrame e X.env) (fun _ s₂ =>
      wpAny (model X.prog X.w) X.A (setFlight e none) (fun _ s₃ => wpAny (model X.prog X.w) X.A (handleBy e X.env [.ExceptHandler (some t) (some n) (b₀ :: suite) pos']) (SP X pins D) X.xe s₃) X.xe s₂) X.xe s₁)
      ?cat PassesOwn.looking).run [] s σ H D (I.toTry _) h) ?thru fun e s1 he => he)
    case thru =>
      rintro (_ | _ | _ | u) s1 hsp
      · obtain ⟨σ', H', J, q⟩ := hsp
        exact wpAny_execs_nil ⟨σ', H', J.ofTry ok, q⟩
      · obtain ⟨σ', H', J, q⟩ := hsp
        exact ⟨σ', H', J.ofTry ok, q⟩
      · obtain ⟨σ', H', J, q⟩ := hsp
        exact ⟨σ', H', J.ofTry ok, q⟩
      · obtain ⟨v, σ', H', J, r, q⟩ := hsp
        exact ⟨v, σ', H', J.ofTry ok, r, q⟩
    case cat =>
      rintro u s' ⟨a, B, sI, pins', σ', H', cls, d, rfl, J0, nb, up, sky, na, os, ag, b, hb1, hyes, hno⟩
      have J : Inv X pins σ' H' sI := J0.ofTry ok
      rw [hs] at sky
      refine Sky.land Zc.steady hfr hf (show Sky B (X.env :: X.outer) a (Zc cls d) X.env.locals s'.heap from sky) fun h3 fl3 up3 => ?_
      have J3 : Inv X pins σ' H' { s' with heap := h3 } := J.landed nb fl3.1 (up.trans up3) os ag
      obtain ⟨oe3, vs3, he3, hz3, hd3⟩ := fl3.there
      have nfr : a ∉ frs (X.env :: X.outer) := fun hm => by
        obtain ⟨_, o', e', hnf⟩ := fl3.2.2.1.mem hm
        rw [he3] at e'
        cases e'
        exact hnf _ hd3
      have nL : a ≠ X.env.locals := fun z => nfr (List.mem_filterMap.mpr ⟨X.env, List.mem_cons_self, by rw [hf, z]⟩)
      have nF : a ∉ X.fs := fun hm => by
        obtain ⟨e, he, q⟩ := List.mem_filterMap.mp hm
        exact nfr (List.mem_filterMap.mpr ⟨e, List.mem_cons_of_mem _ he, q⟩)
      have nI : sI.heap.get? a = none := by
        cases e : sI.heap.get? a with
        | none => rfl
        | some o =>
          have z := nb a o e (by rw [hs]; exact nfr)
          rw [fl3.2.1] at z
          cases z
      have n0 : X.s_0.heap.get? a = none := by
        cases e : X.s_0.heap.get? a with
        | none => rfl
        | some o =>
          obtain ⟨o', z⟩ := J.base.there a o e (by rw [hex]; exact fun z => nomatch z)
          rw [nI] at z
          cases z
      have np : ∀ p ∈ X.pn ++ pins, p.1 ≠ a := fun p hp z => by
        have q := (J.pin p hp).1
        rw [z, nI] at q
        cases q
      have S3 := J3.suite he3 hd3 na nL nF
      have LT : Looks (model X.prog X.w) h3 (typeOf (.ref a)) cls := fun A Q E s k q => wpAny_typeOf_ref (k _ _ he3) (by rw [hz3.1]; exact q)
      refine PySem.W.exc_clause_as (hc a _ _ σ' H' cls b _ _ S3 LT hb1 fun c h4 tk4 k4 LM => ⟨b, LM, ?_⟩)
      have fl4 := FlyingZ.grow fl3 k4
      have J4 : Inv X pins σ' H' { s' with heap := h4, toks := tk4 } := J3.kept (t' := tk4) k4
      cases b with
      | true =>
        refine HandSPX.lands_againZ fl4 fun h5 fl5 up5 => ?_
        have J5 : Inv X pins σ' H' { s' with heap := h5, toks := tk4 } :=
          J.landed (s' := { s' with heap := h5, toks := tk4 }) nb fl5.1 (((up.trans up3).trans (Heap.UpToSlots.of_keeps k4)).trans up5) os ag
        obtain ⟨oe5, vs5, he5, hz5, hd5⟩ := fl5.there
        have S5 := J5.suite he5 hd5 na nL nF
        refine store_ok (X := X.suite a ((a, oe5) :: (X.pn ++ pins))) (v := .ref a) S5 hN hi (.inl hln) rfl (fun s6 S6 => ?_) (.inr hln)
        refine wpAny_mono ((hsu a oe5 cls d (X.pn ++ pins) hz5 ⟨_, hd5⟩).run [] s6 _ H' _ S6 (hyes rfl a na)) (fun f s7 hsp => ?_) fun _ _ z => False.elim z
        have out : ∀ {σ7 : L2.St} {H7 : Hp} {s7 : Shared}, Inv (X.suite a ((a, oe5) :: (X.pn ++ pins))) [] σ7 H7 s7 → Inv X ((a, oe5) :: pins) σ7 H7 s7 := fun {σ7 H7 s7} S =>
          ⟨ok, S.os, S.bare, S.base, S.loc, S.cell, S.free, S.freeC, fun p hp => S.pin p (by
            rw [List.append_nil]
            rcases List.mem_append.mp hp with z | z
            · exact List.mem_cons_of_mem _ (List.mem_append_left _ z)
            · rcases List.mem_cons.mp z with z | z
              · rw [z]; exact List.mem_cons_self
              · exact List.mem_cons_of_mem _ (List.mem_append_right _ z)), S.hok, S.len⟩
        have fin : ∀ {σ7 : L2.St} {H7 : Hp} {Q : Shared → Prop} {s7 : Shared}, Inv (X.suite a ((a, oe5) :: (X.pn ++ pins))) [] σ7 H7 s7 → (∀ s8, Inv X pins (σ7.set i none) (upd H7 a (ExcK a cls d)) s8 → Q s8) →
            (∀ s8, Inv X pins (σ7.set i none) H7 s8 → True) → wpAny (model X.prog X.w) X.A (do bindName X.env n .none; unbindBehindTheSuite X.env n pos') (fun _ s8 => Q s8) X.xe s7 := fun {σ7 H7 Q s7} S hq _ =>
          gone_ok (out S) hN hi hln fun s8 J8 => hq s8 (Inv.track J8 n0 np (excK_ok (J8.pin (a, oe5) (List.mem_append_right _ List.mem_cons_self)).1 hz5 hd5))
        match f, hsp with
        | .next, ⟨σ7, H7, S7, q7⟩ => exact fin S7 (fun s8 J8 => ⟨_, _, J8, q7⟩) fun _ _ => trivial
        | .brk, ⟨σ7, H7, S7, q7⟩ => exact fin S7 (fun s8 J8 => ⟨_, _, J8, q7⟩) fun _ _ => trivial
        | .cont, ⟨σ7, H7, S7, q7⟩ => exact fin S7 (fun s8 J8 => ⟨_, _, J8, q7⟩) fun _ _ => trivial
        | .ret u, ⟨v7, σ7, H7, S7, r7, q7⟩ => exact gone_ok (S7.unsuite ok) hN hi hln fun s8 J8 => ⟨_, _, _, J8, r7, q7⟩
      | false =>
        show wpAny _ X.A (handleBy (.ref a) X.env []) _ _ _
        refine wpAny_handleBy_nil ?_
        obtain ⟨k1, k2, k3, oe, vs, T, oT, ts', he, hz, hd, h1, hr⟩ := id fl4
        have fin : wpAny (model X.prog X.w) X.A (setFlight (.ref a) X.env.frame) (fun _ s5 => wpAny (model X.prog X.w) X.A (throw (.ref a) : Sem Flow) (SP X pins D) X.xe s5) X.xe { s' with heap := h4, toks := tk4 } := by
          rw [hf]
          refine HandSPX.setFlight_upZ fl4 fun h5 hh5 up5 => wpAny_throw (tk _ _ ?_)
          exact ⟨a, B, sI, pins, σ', H', cls, d, rfl, J, nb, ((up.trans up3).trans (Heap.UpToSlots.of_keeps k4)).trans up5, .inr (.inr (by rw [hs]; exact hh5)), na, os, ag, hno rfl⟩
        unfold PySem.passOn
        refine wpAny_bind (wpAny_field he hd h1 ?_)
        rw [if_neg (by simp)]
        first
          | exact wpAny_bind (wpAny_pure (wpAny_bind fin))
          | exact wpAny_bind fin
end
end BJ

/-! fields of a held exception; isinstance of any value; repr of data -/
namespace BJ
open PySem PySem.Spec PyProof.Rows L2
open PySem.W (Looks Frag findIn subIn nsIn typeIn keepIn hasDictIn clsIn specialIn takesIn mroIn kitOne kitAny InstAt)

/-- what is asked of an exception's class to read it -/
structure ErrR (K : Frag) (C : Addr) : Prop where
  cl : (clsIn K C).isSome = true
  ga : findIn K (.ref C) "__getattribute__" = some (some (.builtin "BaseException.__getattribute__"))
  gg : findIn K (.ref C) "__getattr__" = some none
  ex : subIn K (.ref C) (.type "BaseException") = some true
  cc : findIn K (.ref C) "__class__" = some (some (.builtin "object.__class__"))
  cg : specialIn K (.builtin "object.__class__") "__get__" = some (some (.builtin "getset_descriptor.__get__"))
  ct : takesIn K (.builtin "object.__class__") = some true
  mo : mroIn K C (.type "object") = some true
  hd : hasDictIn K C = true
/-- at a the exception, its dict at d -/
def ExcAt (H : Hp) (a C d : Addr) (fs : List (Str × V)) : Prop := H a = some (ExcK a (.ref C) (some d)) ∧ H d = some (.xd fs)
section
variable {X : Cx} {pins : List (Addr × Obj)} {σ : L2.St} {H : Hp} {s : Shared}
theorem ExcAt.inst {a C d : Addr} {fs : List (Str × V)} (I : Inv X pins σ H s) (x : ExcAt H a C d fs) : ∃ (oe od : Obj) (mA : Str → Option Value), InstAt s.heap a oe C (some od) ∧ s.heap.Ns1 d mA ∧ s.heap.get? d = some od ∧ ∀ f, RelO (fs.lookup f) (mA f) := by
  obtain ⟨oe, vs, he, hz, hd⟩ := excK_at I.hok x.1
  obtain ⟨mA, hns, hr⟩ := (show ObjOk X.prog X.w H s.heap d (.xd fs) from I.hok d _ x.2)
  obtain ⟨od, es, ep, ho, r⟩ := id hns
  exact ⟨oe, od, mA, ⟨he, hz.1, by unfold PySem.W.notCls; rw [hd], by rw [hz.2]; exact ho⟩, hns, ho, hr⟩

/-- e.f of a held exception -/
def tExf (K : Frag) (te : TE) (f : Str) : TE := fun σ H Q => te σ H fun x H1 => ∃ (a C d : Addr) (fs : List (Str × V)) (v : V), x = .ref a ∧ ExcAt H1 a C d fs ∧ ErrR K C ∧ findIn K (.ref C) f = some none ∧ fs.lookup f = some v ∧ Q v H1
theorem pe_exf {e : Expr} {te : TE} {f : Str} {pos : Pos} (he : PE X e te) (hb : attributeBase e f X.env (eval e X.env) = eval e X.env := by rfl) : PE X (.Attribute e f pos) (tExf X.K te f) where
  run := by
    intro pins s σ H Q I h
    refine attr_of hb (thn (he.run pins s σ H _ I h) ?_)
    rintro u s1 ⟨x, H1, I1, rx, a, C, d, fs, v, rfl, hat, R, nf, hl, q⟩
    obtain rfl : u = Value.ref a := rx
    obtain ⟨oe, od, mA, J, hns, hod, hr⟩ := hat.inst I1
    obtain ⟨od', ho, hlk⟩ := lookIn_ns hns
    rw [hod] at ho
    cases ho
    obtain ⟨u, hu, ru⟩ := RelO.some_of (v := v) (o := mA f) (by rw [← hl]; exact hr f)
    exact HandSPX.exc_get I1.kIn J R.ga R.gg R.ex (PySem.W.findObj_own R.hd nf rfl (by rw [hlk, hu])) (handed_of ru) ⟨v, H1, I1.tok _, ru, q⟩

/-! ### isinstance -/
inductive TyG (K : Frag) (H : Hp) : V → Value → Prop where
  | ty {x : V} {t : Value} (h : TyX K H x t) : TyG K H x t
  | exc {a C d : Addr} {fs : List (Str × V)} (h : ExcAt H a C d fs) (R : ErrR K C) : TyG K H (.ref a) (.ref C)
theorem kit_ofG {x : V} {u t : Value} (I : Inv X pins σ H s) (rx : RelV x u) (ty : TyG X.K H x t) : ∃ P : Heap → Prop, PySem.W.KitX X.K u t P ∧ P s.heap ∧ u ≠ .builtin "__main__.__loader__#opaque" := by
  cases ty with
  | ty h => exact kit_of I rx h
  | exc h R =>
    cases (show u = Value.ref _ from rx)
    obtain ⟨oe, od, mA, J, _, _, _⟩ := h.inst I
    exact ⟨_, PySem.W.kitx_exc R.cl R.ga R.gg R.ex R.cc R.cg R.ct R.mo, J, fun z => nomatch z⟩
def rIsG (K : Frag) : List V → Hp → VK → Prop := fun xs H Q => ∃ (x c : V) (t u : Value) (b : Bool), xs = [x, c] ∧ ClsV c u ∧ TyG K H x t ∧ kitOne K t u = some b ∧ Q (.bl b) H
def rIsGT (K : Frag) : List V → Hp → VK → Prop := fun xs H Q => ∃ (x : V) (tp : Addr) (cs : List V) (t : Value) (us : List Value) (b : Bool), xs = [x, .ref tp] ∧ H tp = some (.tup cs) ∧ Paired ClsV cs us ∧ TyG K H x t ∧ kitAny K t us = some b ∧ Q (.bl b) H
theorem call_isG : CallR X (.builtin "isinstance") (rIsG X.K) := by
  rintro pins s σ H xs us Q I r ⟨x, c, t, u, b, rfl, k, ty, e, q⟩
  obtain ⟨u1, u2, rfl, r1, r2⟩ := vals2 r
  obtain rfl := k.eq r2
  obtain ⟨P, Z, p, hx⟩ := kit_ofG I r1 ty
  exact PySem.W.kia_one Z I.kIn p e hx fun tk => ⟨.bl b, H, I.tok tk, rfl, q⟩
theorem call_isGT : CallR X (.builtin "isinstance") (rIsGT X.K) := by
  rintro pins s σ H xs us Q I r ⟨x, tp, cs, t, ws, b, rfl, hT, k, ty, e, q⟩
  obtain ⟨u1, u2, rfl, r1, r2⟩ := vals2 r
  cases (show u2 = Value.ref tp from r2)
  obtain ⟨P, Z, p, hx⟩ := kit_ofG I r1 ty
  obtain ⟨_, its, rv, ⟨oc, od, dt, sl⟩, h1, h2, n, h3⟩ := (show ObjOk X.prog X.w H s.heap tp (.tup cs) from I.hok tp _ hT)
  obtain rfl := ClsV.all k rv
  simp only at h2 h3
  subst h2 h3
  exact PySem.W.kia_tup Z I.kIn p h1 e hx fun tk => ⟨.bl b, H, I.tok tk, rfl, q⟩

/-! ### repr -/
/-- repr(x) of data -/
def rRepr (K : Frag) : List V → Hp → VK → Prop := fun xs H Q => ∃ (x : V) (d : PyData), xs = [x] ∧ Dp K H x d ∧ d.showable = true ∧ d.hasDict = false ∧ d.depth ≤ 40 ∧ d.shown.length ≤ sizeLine ∧ Q (.str d.shown) H
theorem call_repr {k : Nat} (hr : Room k X.A) (hG : X.A.guards = some []) : CallR X (.builtin "repr") (rRepr X.K) := by
  rintro pins s σ H xs us Q I r ⟨x, d, rfl, hd, hs, hnd, hdep, hsz, q⟩
  obtain ⟨u, rfl, r1⟩ := vals1 r
  obtain ⟨as, hrd⟩ := Dp.reads I d x u hd r1
  have fin : ∀ (h' : Heap) (t : Tok) (tk : Nat), (∀ b o, s.heap.get? b = some o → h'.get? b = some o) → EP X pins σ Q (.str d.shown t) { s with heap := h', toks := tk } := fun h' t tk kk => ⟨.str d.shown, H, I.kept (t' := tk) kk, ⟨t, rfl⟩, q⟩
  cases hrd with
  | none => exact PySem.P.repr_of_none (by simpa [PyData.shown] using fin s.heap _ _ fun _ _ e => e)
  | bool b => exact PySem.P.repr_of_bool (by cases b <;> simpa [PyData.shown] using fin s.heap _ _ fun _ _ e => e)
  | int i t => exact PySem.P.repr_of_int (by simpa [PyData.showable] using hs) (by simpa [PyData.shown] using fin s.heap _ _ fun _ _ e => e)
  | str y t => exact PySem.P.repr_of_str (by simpa [PyData.shown] using fin s.heap _ _ fun _ _ e => e) (by simpa [PyData.shown] using hsz)
  | list h1 h2 h3 h4 =>
    exact repr_of_reads' (.list h1 h2 h3 h4) hs (by rw [hnd]; exact fun z => nomatch z) hG (by have := hr.un; omega) (fun _ _ e => e) (fun h' t tk kk => fin h' t tk kk) hsz
  | tuple h1 h2 h3 h4 =>
    exact repr_of_reads' (.tuple h1 h2 h3 h4) hs (by rw [hnd]; exact fun z => nomatch z) hG (by have := hr.un; omega) (fun _ _ e => e) (fun h' t tk kk => fin h' t tk kk) hsz
  | dict h1 h2 h3 h4 h5 => simp [PyData.hasDict] at hnd
end
end BJ

/-! text * int, (x,) * int, xs[a::k], enumerate(text) -/
namespace BJ
open PySem PySem.Spec PyProof.Rows L2
section
variable {X : Cx}
/-- the sign c, n times -/
def repS (c : Nat) (n : Nat) : Str := ⟨(List.replicate n c).toArray⟩
theorem repS_len (c n : Nat) : (repS c n).length = n := by simp [repS, Str.length]
theorem foldl_rep1 (c : Nat) : ∀ n, (List.replicate n (#[c] : Array Nat)).foldl (· ++ ·) #[] = (List.replicate n c).toArray := by
  have h : ∀ n (acc : Array Nat), (List.replicate n (#[c] : Array Nat)).foldl (· ++ ·) acc = acc ++ (List.replicate n c).toArray := by
    intro n
    induction n with
    | zero => intro acc; simp
    | succ n ih =>
      intro acc
      rw [List.replicate_succ, List.foldl_cons, ih, List.replicate_succ, Array.append_assoc]
      congr 1
      simp
  intro n
  rw [h, Array.empty_append]
/-- 'c' * n, one sign, n at least 2 -/
def rMulS : R2 := fun x y H Q => ∃ (c : Nat) (n : Nat), x = .str ⟨#[c]⟩ ∧ y = .int (n : Int) ∧ 2 ≤ n ∧ n ≤ sizeLine ∧ Q (.str (repS c n)) H
theorem op_mulS : OpR X (binaryOp .Mult) rMulS := by
  rintro pins s σ H x y v u Q I rx ry ⟨c, n, rfl, rfl, h2, hn, q⟩
  obtain ⟨t, rfl⟩ := rx
  obtain ⟨t', rfl⟩ := ry
  rw [sizeLine_eq] at hn
  have hl : (⟨#[c]⟩ : Str).length = 1 := rfl
  refine PySem.P.mul_str ?_ (fun _ _ => ?_) (fun _ _ => ?_) ?_
  · simp only [Bool.or_eq_false_iff, decide_eq_false_iff_not]
    omega
  · rw [hl]
    have : (1 : Int) ≤ (2 ^ 63 - 1) / (n : Int) := by
      apply Int.le_ediv_of_mul_le (by omega)
      omega
    omega
  · rw [hl, Nat.one_mul]
    unfold PySem.Builtin.Str.tooLong
    rw [sizeLine_eq]
    simp
    omega
  · rw [if_neg (by omega), if_neg (by rw [hl]; simp; omega)]
    have e : (List.replicate ((n : Int)).toNat (⟨#[c]⟩ : Str).cps).foldl (· ++ ·) #[] = (List.replicate n c).toArray := by
      rw [Int.toNat_natCast]
      exact foldl_rep1 c n
    rw [e]
    refine ⟨?_, ?_⟩
    · show (repS c n).length ≤ sizeLine
      rw [repS_len, sizeLine_eq]
      exact hn
    · exact ⟨V.str (repS c n), H, I.tok _, ⟨_, rfl⟩, q⟩

/-- the items of xs[lo:hi:st] -/
def pickV (xs : List V) (lo hi st : Option Int) : List V :=
  (sliceRange (sliceBounds lo hi st xs.length).1 (sliceBounds lo hi st xs.length).2.1 (sliceBounds lo hi st xs.length).2.2).filterMap (xs[·]?)
theorem vals_places {xs : List V} {us : List Value} (h : Vals xs us) : ∀ l : List Nat, Vals (l.filterMap (xs[·]?)) (l.filterMap (us[·]?))
  | [] => .nil
  | i :: l => by
    cases e : xs[i]? with
    | none =>
      rw [List.filterMap_cons_none e, List.filterMap_cons_none (h.none_of e)]
      exact vals_places h l
    | some x =>
      obtain ⟨u, hu, r⟩ := h.get e
      rw [List.filterMap_cons_some e, List.filterMap_cons_some hu]
      exact .cons r (vals_places h l)
theorem slicePick_V {xs : List V} {us : List Value} (h : Vals xs us) (lo hi st : Option Int) : Vals (pickV xs lo hi st) (slicePick us.toArray lo hi st).toList := by
  have e : (slicePick us.toArray lo hi st).toList = (sliceRange (sliceBounds lo hi st xs.length).1 (sliceBounds lo hi st xs.length).2.1 (sliceBounds lo hi st xs.length).2.2).filterMap (us[·]?) := by
    simp [slicePick, h.length]
  rw [e]
  exact vals_places h _
/-- xs[lo:hi:st] of a list: a new list -/
def tSl3 (K : PySem.W.Frag) (te : TE) (tl th ts : TO) : TE := fun σ H Q => te σ H fun x H1 => tl σ H1 fun lo H2 => th σ H2 fun hi H3 => ts σ H3 fun st H4 =>
  ∃ a xs, x = .ref a ∧ SqL K H4 a xs ∧ st ≠ some 0 ∧ (pickV xs lo hi st).length ≤ sizeLine ∧ ∀ p, H4 p = none → Q (.ref p) (upd H4 p (.lst (pickV xs lo hi st)))
theorem pe_slice3 {e st : Expr} {lo hi : Option Expr} {te : TE} {tl th ts : TO} {p2 pos : Pos} (he : PE X e te) (hl : PO X lo tl) (hu : PO X hi th) (hst : PO X (some st) ts) : PE X (.Subscript e (.Slice lo hi (some st) p2) pos) (tSl3 X.K te tl th ts) where
  run := by
    intro pins s σ H Q I h
    refine Subscript_ (thn (he.run pins s σ H _ I h) ?_)
    rintro v s1 ⟨x, H1, I1, r1, q1⟩
    refine wpAny_Slice (thn (hl.run pins s1 σ H1 _ I1 q1) ?_)
    rintro vl s2 ⟨l, H2, I2, pl, q2⟩
    refine thn (hu.run pins s2 σ H2 _ I2 q2) ?_
    rintro vu s3 ⟨u, H3, I3, pu, q3⟩
    refine thn (hst.run pins s3 σ H3 _ I3 q3) ?_
    rintro vs s4 ⟨k, H4, I4, pk, a, xs, rfl, hx, k0, hsz, q⟩
    cases r1
    have I5 : Inv X pins σ H4 { s4 with heap := s4.heap.push { cls := .type "slice", data := .fields #[vl, vu, vs] } } := I4.kept (t' := s4.toks) fun b ob q => Heap.get?_push_of_some _ q
    obtain ⟨its, r, ht, hz⟩ := I5.list hx
    have hlen := r.length
    show wpAny (model X.prog X.w) X.A (subscriptTail e (.Slice lo hi (some st) p2) (.ref a) (.ref s4.heap.objs.size)) (EP X pins σ Q) X.xe { s4 with heap := s4.heap.push { cls := .type "slice", data := .fields #[vl, vu, vs] } }
    refine tail_any (ops := _) ht.isList.typeIs slot_list_getitem.lookup (wpAny_getItem_list_slice ht.isList (Heap.IsSliceOf.new ..) pl pu pk k0 ?_ (by rw [List.size_toArray]; omega)) (by with_unfolding_all rfl)
    have rp := slicePick_V r l u k
    refine ⟨.ref _, _, I5.laid (t' := s4.toks) (o := .lst (pickV xs l u k)) (fun b ob q => Heap.get?_push_of_some _ q) (Nat.le_refl _) ?_, rfl, q _ (I5.hok.fresh (Nat.le_refl _))⟩
    exact ⟨hsz, _, 0, rp, by rw [Array.toArray_toList]; exact Heap.get?_push_size _ rfl⟩

/-! ### (x,) * n -/
def rRep1 (K : PySem.W.Frag) : R2 := fun x y H Q => ∃ (l : Addr) (n : Nat) (v : V), x = .ref l ∧ y = .int (n : Int) ∧ SqT K H l [v] ∧ 2 ≤ n ∧ n ≤ 16777216 ∧ ∀ p, H p = none → Q (.ref p) (upd H p (.tup (List.replicate n v)))
theorem flat1 {α : Type} (v : α) : ∀ n, (List.replicate n [v]).flatten = List.replicate n v
  | 0 => rfl
  | n + 1 => by rw [List.replicate_succ, List.flatten_cons, flat1 v n]; rfl
theorem vals_rep {v : V} {u : Value} (r : RelV v u) : ∀ n, Vals (List.replicate n v) (List.replicate n u)
  | 0 => .nil
  | n + 1 => .cons r (vals_rep r n)
theorem op_rep1 : OpR X (binaryOp .Mult) (rRep1 X.K) := by
  rintro pins s σ H x y v u Q I rx ry ⟨l, m, w, rfl, rfl, hT, h2, hm, q⟩
  cases rx
  obtain ⟨t, rfl⟩ := ry
  obtain ⟨its, r, ⟨⟨cls, dd, data, sl⟩, ho, hc, n, hd⟩, hs⟩ := I.tuple hT
  simp only at hc hd
  subst hc hd
  cases r with
  | cons rw' rn =>
    rename_i u1 us1
    cases rn
    have hsz0 : ([u1] : List Value).toArray.size = 1 := rfl
    have ez : (List.foldl (fun x1 x2 => x1 ++ x2) #[] (List.replicate ((m : Int)).toNat ([u1] : List Value).toArray)) = (List.replicate m u1).toArray := by
      rw [size_rep, Int.toNat_natCast, flat1]
    have c0 : (decide ((m : Int) < -(2 ^ 63)) || decide ((m : Int) ≥ 2 ^ 63)) = false := by
      simp only [Bool.or_eq_false_iff, decide_eq_false_iff_not]
      omega
    have c1 : (([u1] : List Value).toArray.isEmpty || (m : Int) == 1) = false := by
      show (false || (m : Int) == 1) = false
      rw [Bool.false_or]
      exact beq_eq_false_iff_ne.mpr (by omega)
    have c2 : (decide ((m : Int) ≤ 0) || ([u1] : List Value).toArray.isEmpty) = false := by
      show (decide ((m : Int) ≤ 0) || false) = false
      rw [Bool.or_false]
      exact decide_eq_false (by omega)
    have c3 : ¬ ((([u1] : List Value).toArray.size : Nat) : Int) * (m : Int) > (2 ^ 63 - 1) / 8 := by
      rw [hsz0]
      omega
    have c4 : Builtin.Tuple.tupleTooMany (((([u1] : List Value).toArray.size : Nat) : Int) * (m : Int)) = false := by
      rw [hsz0]
      unfold Builtin.Tuple.tupleTooMany
      rw [sizeLine_eq]
      exact decide_eq_false (by omega)
    refine wpAny_binaryOp_repeat_ref (T := "tuple") (U := "int") (by decide) ⟨_, ho, rfl⟩ (fun s' => typeIs_int s' m t) noFill_tuple_mul F.fills_int_mul F.slot_int_rmul repeat_tuple F.slot_int_index.lookup
      (call_meets F.slot_int_rmul (typeIs_int s m t) F.entry_int_rmul (F.args_int_rmul_2 _ _) (int_rmul_tuple m t l _ n dd sl)
        ⟨ho, rfl, ⟨_, ho, rfl⟩, call_meets F.slot_tuple_mul ⟨_, ho, rfl⟩ F.entry_tuple_mul (F.args_tuple_mul_2 _ _)
          (tuple_mulW l _ n dd sl m t c0 c1 c2 c3 c4 (by rw [ez, List.size_toArray, List.length_replicate, sizeLine_eq]; exact hm)) ⟨ho, ?_⟩⟩)
    rw [ez]
    have rr : Vals (List.replicate m w) (List.replicate m u1) := vals_rep rw' m
    refine ⟨.ref s.heap.objs.size, _, I.laid (t' := s.toks) (o := .tup (List.replicate m w)) (fun b ob q => Heap.get?_push_of_some _ q) (Nat.le_refl _) ?_, rfl, q _ (I.hok.fresh (Nat.le_refl _))⟩
    exact ⟨by rw [List.length_replicate, sizeLine_eq]; exact hm, _, rr, IsTup.new _ _⟩

/-! ### enumerate(text) -/
def ItEs (x : Str) : It := ⟨fun i _ => i < x.cps.size, fun i H v H' => ∃ T c, v = .ref T ∧ H T = none ∧ H' = upd H T (.tup [.int (i : Nat), .str ⟨#[c]⟩]) ∧ x.cps[i]? = some c, fun i _ => i = x.cps.size⟩
theorem turn_enumS {P : Program} {w : World} {K : PySem.W.Frag} {elts : List Expr} {kk : Nat} {tpos : Pos} (e it : Addr) (x : Str) (t : Tok) :
    Turn P w K (.Tuple elts kk tpos) (ItEs x) [e, it] e (fun i h => (∃ old, IsEnum h e it ((i : Nat) : Int) old) ∧ h.IsStrIter it (strIterType x) x t i ∧ e ≠ it) where
  mem := by simp
  obj := by
    rintro i h ⟨⟨old, he⟩, ⟨o, ho, hc, hd⟩, _⟩ b hb
    have e' : b = e ∨ b = it := by simpa using hb
    rcases e' with rfl | rfl
    · exact ⟨_, he, fun v q => nomatch q⟩
    · exact ⟨o, ho, fun v q => by rw [hd] at q; cases q⟩
  keep := by
    rintro i h h' ⟨⟨old, he⟩, ⟨o, ho, r⟩, hne⟩ k
    exact ⟨⟨old, k e (by simp) _ he⟩, ⟨o, k it (by simp) o ho, r⟩, hne⟩
  item := by
    rintro X rfl rfl rfl hc i pins s σ H E I hf ⟨⟨old, he⟩, hit, hne⟩ hg
    have hel : e < s.heap.objs.size := Heap.lt_size he
    have hil : it < s.heap.objs.size := by
      obtain ⟨_, q, _⟩ := hit
      exact Heap.lt_size q
    have D : Draws X.prog X.w X.A.in1 it [it] x.cps.size (fun i v => ∃ c u, x.cps[i]? = some c ∧ v = .str ⟨#[c]⟩ u) (fun i h => h.IsStrIter it (strIterType x) x t i) := Draws.text (A := X.A.in1) (I.ok.hd hc) it x t
    refine wpAny_pyNext_enum_itemD (i := i) D he hit hg hne (by simpa using hne) fun v h' tk hv ho hit' hT hsz hk => ?_
    obtain ⟨c, u, hcx, rfl⟩ := hv
    refine ⟨_, rfl, wpAny_letOwnedTupleGo_enum (s := { s with heap := h', toks := tk + 1 }) ho fun h'' he' sb => ?_⟩
    have hT2 : h''.get? s.heap.objs.size = some { cls := .type "tuple", data := .seq #[.int i tk, .str ⟨#[c]⟩ u] } := (sb.2 _ (Nat.ne_of_gt hel)).trans hT
    have new : ObjOk X.prog X.w (upd H s.heap.objs.size (.tup [.int (i : Nat), .str ⟨#[c]⟩])) h'' s.heap.objs.size (.tup [.int (i : Nat), .str ⟨#[c]⟩]) :=
      ⟨by show 2 ≤ sizeLine; decide, [.int i tk, .str ⟨#[c]⟩ u], .cons ⟨_, rfl⟩ (.cons ⟨_, rfl⟩ .nil), ⟨_, hT2, rfl, _, rfl⟩⟩
    have I1 : Inv X pins σ (upd H s.heap.objs.size (.tup [.int (i : Nat), .str ⟨#[c]⟩])) { s with heap := h'', toks := tk + 1 } :=
      I.turnedNew (ch := [e, it]) (fun b ob hb q => (sb.2 b (fun z => hb (by simp [z]))).trans (hk b ob (fun z => hb (by simp [z])) (fun z => hb (by simp [z])) q)) hf (Nat.le_refl _) new
    refine ⟨.ref s.heap.objs.size, _, I1, rfl, ⟨_, c, rfl, I.hok.fresh (Nat.le_refl _), rfl, hcx⟩, ⟨⟨Value.str ⟨#[c]⟩ u, ?_⟩, ?_, hne⟩, fun b hb => ?_⟩
    · have e1 : ((i + 1 : Nat) : Int) = (i : Int) + 1 := by omega
      rw [e1]
      exact he'
    · obtain ⟨o, ho', r⟩ := hit'
      exact ⟨o, (sb.2 it (Ne.symm hne)).trans ho', r⟩
    · have e' : b = e ∨ b = it := by simpa using hb
      have hb' : b < s.heap.objs.size := by
        rcases e' with rfl | rfl
        · exact hel
        · exact hil
      rw [upd_ne (Nat.ne_of_lt hb')]
      exact (hf b hb).1
  done := by
    rintro X rfl rfl rfl hc i pins s σ H E I hf ⟨⟨old, he⟩, hit, hne⟩ hg
    obtain ⟨f0, f1, f2, f3, f4, f5⟩ := hf it (by simp)
    have hie : i = x.cps.size := hg
    subst hie
    have D : Draws X.prog X.w X.A.in1 it [it] x.cps.size (fun i v => ∃ c u, x.cps[i]? = some c ∧ v = .str ⟨#[c]⟩ u) (fun i h => h.IsStrIter it (strIterType x) x t i) := Draws.text (A := X.A.in1) (I.ok.hd hc) it x t
    exact wpAny_pyNext_enum_endD D he hit fun h' eb => ⟨rfl, I.turned (t' := s.toks) (fun b o hb q => eb b o hb q) f0 f1 f3 f4 f5⟩
  self := fun A i s Q E st h => by
    obtain ⟨⟨_, he⟩, _⟩ := st
    exact wpAny_pyIter_enum he h
def iEnumS (ta : TA) : TI := fun σ H R => ta σ H fun vs H1 => ∃ x, vs = [.str x] ∧ R (ItEs x) H1
theorem pi_enumS {e : Expr} {ta : TA} {p pos tpos : Pos} {elts : List Expr} {kk : Nat} (hg : Gl X "enumerate") (hm : X.mg "enumerate" = none) (ha : PA X [e] ta) (hs : starEach [e] X.env = [(false, eval e X.env)] := by rfl) :
    PI X (.Tuple elts kk tpos) (.Call (.Name "enumerate" p) [e] [] pos) (iEnumS ta) where
  run := by
    intro pins s σ H R I h
    refine Call_ (ld_blt I hg hm boot_enumerate (PyProof.Rows.callWith_type1 (thn (ha.run pos pins s σ H _ I h) ?_) hs rfl))
    rintro us s1 ⟨vs, H1, I1, r1, x, rfl, q⟩
    obtain ⟨u, rfl, r⟩ := vals1 r1
    obtain ⟨t, rfl⟩ := r
    refine call_enumerate_str fun h' he hit hsz hk => wpAny_pyIter_enum he ?_
    have I2 : Inv X pins σ H1 { s1 with heap := h' } := I1.kept (t' := s1.toks) hk
    refine ⟨s1.heap.objs.size + 1, [s1.heap.objs.size + 1, s1.heap.objs.size], _, _, H1, rfl, I2, turn_enumS (s1.heap.objs.size + 1) s1.heap.objs.size x t, ⟨⟨.none, he⟩, hit, Nat.succ_ne_self _⟩, fun b hb => ?_, q⟩
    have hle : s1.heap.objs.size ≤ b := by
      have e' : b = s1.heap.objs.size + 1 ∨ b = s1.heap.objs.size := by simpa using hb
      rcases e' with rfl | rfl
      · exact Nat.le_add_right _ _
      · exact Nat.le_refl _
    exact I1.fpOk hle (I1.hok.fresh hle)
end
end BJ

/-! defs as they stand in the text; the laws' drawing of numbers -/
namespace BJ
open PySem PySem.Spec PyProof.Rows L2
open PySem.W (Frag)

/-- the def st stands at f; its parameters, all positional, none with a default -/
structure DefAt (K : Frag) (x qual : Str) (st : Stmt) (f : Addr) (ps : List Str) : Prop where
  fn : ∃ fd, Fun K x qual st f fd ∧ Binds K fd ps []
section
variable {P : Program} {w : World} {K : Frag} {mg : Str → Option Value} {base : Heap}
theorem DefAt.okF {x qual : Str} {st : Stmt} {f : Addr} {N ps : List Str} {k : Nat} {sp : Sp} (D : DefAt K x qual st f ps) (S : FnScope N ps (defScope st))
    (len : ∀ vs H Q E, sp vs H Q E → vs.length = ps.length)
    (hbody : ∀ (cdv : Value) (A : Around) (outer : List Env) (s : Shared) (H : Hp) (vs : List V) (Q : VK) (E : XK),
      Room k (A.deeper (envOfC qual (defScope st) s.heap.objs.size f cdv)) → A.guards = some [] → sp vs H Q E →
      ∃ t, PSs (cxOf (L2.CX P w) P w K mg base N qual (defScope st) f cdv A outer s H E) (defBody st) t ∧ t { nx := fun _ H' => Q .non H', rt := Q } (start N vs) H) :
    ∃ fd, FnG P w K mg base (k + 1) f fd ps sp ∧ Binds K fd ps [] ∧ Fun K x qual st f fd := by
  obtain ⟨fd, F, hb⟩ := D.fn
  refine ⟨fd, ?_, hb, F⟩
  obtain ⟨oc, od, kV, doc, pm, an, cdv, ct, osl, rfl, lk, hcd⟩ := F.ex
  exact fnG_of lk hcd S len fun A outer s H vs Q E hr hg hsp => hbody cdv A outer s H vs Q E hr hg hsp
theorem DefAt.ok {x qual : Str} {st : Stmt} {f : Addr} {N ps : List Str} {k : Nat} {sp : Sp} (D : DefAt K x qual st f ps) (S : FnScope N ps (defScope st))
    (len : ∀ vs H Q E, sp vs H Q E → vs.length = ps.length)
    (hbody : ∀ (cdv : Value) (A : Around) (outer : List Env) (s : Shared) (H : Hp) (vs : List V) (Q : VK) (E : XK),
      Room k (A.deeper (envOfC qual (defScope st) s.heap.objs.size f cdv)) → A.guards = some [] → sp vs H Q E →
      ∃ t, PSs (cxOf (L2.CX P w) P w K mg base N qual (defScope st) f cdv A outer s H E) (defBody st) t ∧ t { nx := fun _ H' => Q .non H', rt := Q } (start N vs) H) :
    CallP P w K mg base (k + 1) (.ref f) sp := by
  obtain ⟨fd, F, hb, _⟩ := D.okF S len hbody
  have q := F.callP (dvs := []) hb .nil
  rintro A outer s H us ws vs zs Q E room hg e0 rel relz ⟨hz, prom⟩
  exact q A outer s H us ws vs zs Q E room hg e0 rel relz ⟨hz, show sp (vs ++ []) H Q E by rw [List.append_nil]; exact prom⟩
end

section
variable {X : Cx}
/-- a list by its very object, to be read: tracked or frozen, or one of the written part as it was made -/
def Scr (K : Frag) (H : Hp) (a : Addr) (xs : List V) : Prop :=
  Rd H a (.lst xs) ∨ ∃ (its : List Value) (n : Nat), K.lookup a = some { cls := .type "list", data := .seq its.toArray n } ∧ Vals xs its ∧ xs.length ≤ sizeLine
theorem Scr.sq {K : Frag} {H : Hp} {a : Addr} {xs : List V} (h : Scr K H a xs) : SqL K H a xs := by
  rcases h with h | ⟨its, n, hk, r, hz⟩
  · exact .inl h
  · exact .inr ⟨_, its.toArray, n, hk, rfl, rfl, rfl, by rw [List.size_toArray, ← r.length]; exact hz, r⟩
theorem Scr.at {pins : List (Addr × Obj)} {σ : L2.St} {H : Hp} {s : Shared} {a : Addr} {xs : List V} (I : Inv X pins σ H s) (h : Scr X.K H a xs) :
    ∃ (its : List Value) (n : Nat), Vals xs its ∧ IsL s.heap a its.toArray n ∧ xs.length ≤ sizeLine := by
  rcases h with h | ⟨its, n, hk, r, hz⟩
  · obtain ⟨z, its, n, r, e⟩ := h.ok I.hok
    exact ⟨its, n, r, e, z⟩
  · exact ⟨its, n, r, I.kIn _ _ hk, hz⟩
/-- xs + ys, both lists that may be read only -/
def rCatS (K : Frag) : R2 := fun x y H Q => ∃ l b xs zs, x = .ref l ∧ y = .ref b ∧ Scr K H l xs ∧ Scr K H b zs ∧ xs.length + zs.length ≤ sizeLine ∧ ∀ p, H p = none → Q (.ref p) (upd H p (.lst (xs ++ zs)))
theorem op_catS : OpR X (binaryOp .Add) (rCatS X.K) := by
  rintro pins s σ H x y v u Q I rx ry ⟨l, b, xs, zs, rfl, rfl, hH, hB, hz, q⟩
  cases rx
  cases ry
  obtain ⟨its, n, r, e, hl⟩ := hH.at I
  obtain ⟨its2, n2, r2, e2, hl2⟩ := hB.at I
  have q1 := r.length
  have q2 := r2.length
  refine PySem.P.add_list e e2 ?_ (by rw [List.size_toArray, List.size_toArray]; omega)
  rw [show its.toArray ++ its2.toArray = (its ++ its2).toArray from by simp]
  exact ⟨.ref _, _, I.lnew (t' := s.toks) (r.append r2) (by rw [List.length_append]; omega), rfl, q _ I.fresh⟩
end

/-! ### the law's call -/
/-- nothing is tracked but the script, frozen -/
theorem lawG {P : Program} {w : World} {K : Frag} {mg mb : Str → Option Value} {k : Nat} {fa a : Addr} {sp : Sp} {s₁ : Shared} {vs : List Value} {ns : List Int}
    (KX : K.In s₁.heap) (hns : s₁.heap.Ns mainGlobals mg) (hb : s₁.heap.Ns builtinsNs mb) (hbb : ∀ x : Str, x ≠ "__name__" → mb x = bootBuiltins x) (hlim : s₁.heap.NoLimit) (hg : s₁.gens = #[])
    (ha : s₁.heap.get? a = some { cls := .type "list", data := .seq vs.toArray }) (hi : IntsAre vs ns) (hl : ns.length ≤ sizeLine) (hr : Room k callerA)
    (F : ∀ base : Heap, K.In base → base.Ns mainGlobals mg → CallP P w K mg base k (.ref fa) sp)
    (hsp : ∀ H : Hp, Scr K H a (ns.map V.int) → sp [.ref a] H (fun v _ => v = .bl true) fun _ _ _ => False) :
    codeAny (model P w) callerA (.call (.ref fa) ⟨[.ref a], []⟩) (fun r s' => r = .ok (.ret (.bool true)) ∧ OldK s₁.heap s'.heap ∧ s'.os = s₁.os ∧ AllBare s'.gens) s₁ := by
  have rv := vals_ints hi
  have lenV := hi.length
  -- the abstract heap: the script alone, or nothing where the script is an object of the top
  have core : ∀ H : Hp, (∀ b u, H b = some u → b = a ∧ K.lookup a = none ∧ ∃ o xs, u = .frz o (.lst xs)) → HOk P w H s₁.heap → Scr K H a (ns.map V.int) →
      codeAny (model P w) callerA (.call (.ref fa) ⟨[.ref a], []⟩) (fun r s' => r = .ok (.ret (.bool true)) ∧ OldK s₁.heap s'.heap ∧ s'.os = s₁.os ∧ AllBare s'.gens) s₁ := by
    intro H hA hok hS
    have keepB : ∀ {b : Addr} {o : Obj}, s₁.heap.get? b = some o → H b = none → (hidT s₁.heap H).get? b = some o := fun e n => hidT_get e n
    have nsK : ∀ {b : Addr} {m : Str → Option Value}, s₁.heap.Ns b m → (hidT s₁.heap H).Ns b m := by
      rintro b m ⟨o, es, ep, e, d, r⟩
      refine ⟨o, es, ep, keepB e ?_, d, r⟩
      cases q : H b with
      | none => rfl
      | some u =>
        obtain ⟨rfl, _, _⟩ := hA b u q
        rw [ha] at e
        cases e
        cases d
    have kin : K.In (hidT s₁.heap H) := by
      intro b o e
      refine keepB (KX b o e) ?_
      cases q : H b with
      | none => rfl
      | some u =>
        obtain ⟨rfl, z, _⟩ := hA b u q
        rw [z] at e
        cases e
    obtain ⟨mc, l1, l2⟩ := id hlim
    have md : Mod K mg (hidT s₁.heap H) := ⟨kin, nsK hns, ⟨mb, nsK hb, hbb⟩, ⟨mc, nsK l1, l2⟩⟩
    have e0 : Env0 P w K mg (hidT s₁.heap H) callerA [] s₁ H :=
      ⟨rfl, md, fun b o e => of_hidT e, Nat.le_of_eq (hidT_size _ _), trivial, (fun b hb => absurd (show b ∈ ([] : List Addr) from hb) (by simp)), hok, AllBare.of_eq hg⟩
    refine codeAny_mono (F _ kin (nsK hns) callerA [] s₁ H [.ref a] [] [.ref a] [] _ _ hr rfl e0 (.cons rfl .nil) .nil ⟨rfl, hsp H hS⟩) ?_
    intro r s' h
    match r, h with
    | .error e, ⟨_, _, _, _, _, _, _, _, _, _, _, _, z⟩ => exact z.elim
    | .ok (.ret u), ⟨v, H', os, bare, un, hok', r', q⟩ =>
      obtain rfl : v = .bl true := q
      obtain rfl : u = Value.bool true := r'
      refine ⟨rfl, OldK.of_keep fun b o e => ?_, os, bare⟩
      cases q : H b with
      | none => exact un.keep b o e q (fun z => nomatch (show b ∈ ([] : List Addr) from z)) (fun z => nomatch z)
      | some u =>
        obtain ⟨_, _, ob, xs, rfl⟩ := hA b u q
        have e1 := (hok b _ q).1
        have e2 := (hok' b _ (un.frzs b ob _ q)).1
        rw [e] at e1
        cases e1
        exact e2
  cases hk : K.lookup a with
  | some o =>
    have e := KX a o hk
    rw [ha] at e
    cases e
    exact core (fun _ => none) (fun b u z => nomatch z) (fun b u z => nomatch z) (.inr ⟨vs, 0, hk, rv, by rw [List.length_map]; exact hl⟩)
  | none =>
    refine core (fun b => if b = a then some (.frz { cls := .type "list", data := .seq vs.toArray } (.lst (ns.map V.int))) else none) (fun b u z => ?_) (fun b u z => ?_) (.inl (.inr ⟨_, if_pos rfl⟩))
    · by_cases h : b = a
      · have q := (if_pos h).symm.trans z
        cases q
        exact ⟨h, hk, _, _, rfl⟩
      · exact nomatch (if_neg h).symm.trans z
    · by_cases h : b = a
      · have q := (if_pos h).symm.trans z
        cases q
        subst h
        exact ⟨ha, by rw [List.length_map]; exact hl, vs, _, rv, ha⟩
      · exact nomatch (if_neg h).symm.trans z
open PySem.W in
/-- what k_head leaves of a law, from the law's promise -/
theorem walkG {l : OpenLaw} {n k : Nat} {q : Program} {loose : List Str} {XP : (Str → Option Value) → Heap → Prop} {YP : World → Heap → Prop} {d : DefRec} {K : Params → Frag} {sp : World → Sp}
    (hn : l.most = some n) (hn2 : n ≤ sizeLine) (hdf : d.params.defaults = []) (hr : Room k callerA) (hY : ∀ (w : World) (h : Heap), YP w h → (K w.params).In h)
    (F : ∀ (w : World) (mg : Str → Option Value) (fa : Addr) (h : Heap), (K w.params).In h → h.Ns mainGlobals mg → mg d.name = some (.ref fa) →
      ∀ base : Heap, (K w.params).In base → base.Ns mainGlobals mg → CallP l.prog w (K w.params) mg base k (.ref fa) (sp w))
    (hsp : ∀ (w : World) (H : Hp) (a : Addr) (ns : List Int), ns.length ≤ n → (∀ z ∈ ns, Builtin.Int.intBits z ≤ 1048576) → Scr (K w.params) H a (ns.map V.int) → sp w [.ref a] H (fun v _ => v = .bl true) fun _ _ _ => False) :
    WalkO q loose XP YP l.row.toRowW d [] (fun f vs => PySem.call f vs) := by
  refine Att.attach_callB hn hdf fun w s₀ s₁ mg mb fa o pm cd doc a vs ns G Y ho hd hcd hmg hobj hints hlen hbits hg => ?_
  have KX := hY w _ Y
  exact lawG KX G.T.g G.T.b G.T.builtins G.T.nolimit hg hobj hints (Nat.le_trans hlen hn2) hr (F w mg fa _ KX G.T.g hmg) fun H hS => hsp w H a ns hlen hbits hS
end BJ

/-! the laws' drawing of numbers: what its dict is, what a draw promises -/
namespace BJ
open PySem PySem.Spec PyProof.Rows L2
open PySem.W (Frag)

theorem upd_keep {H : Hp} {a p : Addr} {o u : HO} (h : H a = some u) (np : H p = none) : upd H p o a = some u := by rw [upd_ne (ne_of_none h np)]; exact h
theorem same_upd {H : Hp} {p : Addr} {o : HO} (np : H p = none) : Same H (upd H p o) := fun _ _ e => upd_keep e np
theorem Same.trans' {H H1 H2 : Hp} (a : Same H H1) (b : Same H1 H2) : Same H H2 := fun p o e => b p o (a p o e)
theorem Same.rfl' {H : Hp} : Same H H := fun _ _ e => e

theorem ifd {p : Prop} [Decidable p] {A B : Prop} (h1 : p → A) (h2 : ¬ p → B) : if decide p = true then A else B := by
  by_cases h : p
  · rw [if_pos (decide_eq_true h)]
    exact h1 h
  · rw [if_neg (by simpa using h)]
    exact h2 h
theorem ifb {b : Bool} {A B : Prop} (h1 : b = true → A) (h2 : b = false → B) : if b = true then A else B := by
  cases b with
  | true => exact h1 rfl
  | false => exact h2 rfl
def drw (c : Addr) (a l u : Int) : List (Key × V) := [(.inr "cells", .ref c), (.inr "at", .int a), (.inr "left", .int l), (.inr "used", .int u)]
section
variable {c : Addr} {a l u i : Int} {v : V}
theorem drw_cells : valV (drw c a l u) (Sum.inr "cells") = some (.ref c) := by simp [drw, valV]
theorem drw_at : valV (drw c a l u) (Sum.inr "at") = some (.int a) := by
  have h1 : ¬ (("cells" : Str) = "at") := by decide
  simp [drw, valV, List.find?, h1]
theorem drw_left : valV (drw c a l u) (Sum.inr "left") = some (.int l) := by
  have h1 : ¬ (("cells" : Str) = "left") := by decide
  have h2 : ¬ (("at" : Str) = "left") := by decide
  simp [drw, valV, List.find?, h1, h2]
theorem drw_used : valV (drw c a l u) (Sum.inr "used") = some (.int u) := by
  have h1 : ¬ (("cells" : Str) = "used") := by decide
  have h2 : ¬ (("at" : Str) = "used") := by decide
  have h3 : ¬ (("left" : Str) = "used") := by decide
  simp [drw, valV, List.find?, h1, h2, h3]
theorem drw_put_at : putK (drw c a l u) (Sum.inr "at") (.int i) = drw c i l u := by
  have h1 : ¬ (("cells" : Str) = "at") := by decide
  have h2 : ¬ (("left" : Str) = "at") := by decide
  have h3 : ¬ (("used" : Str) = "at") := by decide
  simp [drw, putK, h1, h2, h3]
theorem drw_put_left : putK (drw c a l u) (Sum.inr "left") (.int i) = drw c a i u := by
  have h1 : ¬ (("cells" : Str) = "left") := by decide
  have h2 : ¬ (("at" : Str) = "left") := by decide
  have h3 : ¬ (("used" : Str) = "left") := by decide
  simp [drw, putK, h1, h2, h3]
theorem drw_put_used : putK (drw c a l u) (Sum.inr "used") (.int i) = drw c a l i := by
  have h1 : ¬ (("cells" : Str) = "used") := by decide
  have h2 : ¬ (("at" : Str) = "used") := by decide
  have h3 : ¬ (("left" : Str) = "used") := by decide
  simp [drw, putK, h1, h2, h3]
theorem drw_len : (drw c a l u).length = 4 := rfl
end
/-- the dict of the draws at d, its cells at c; at most n draws were made -/
structure Dr (H : Hp) (d c : Addr) (cells : List Int) (n : Nat) : Prop where
  dict : ∃ a l u, H d = some (.dK (drw c a l u)) ∧ 0 ≤ a ∧ a ≤ (n : Int) ∧ 0 ≤ u ∧ u ≤ (n : Int) ∧ 0 ≤ l
  list : H c = some (.lst (cells.map V.int))
  ne : cells ≠ []
  len : cells.length ≤ 64
theorem Dr.dc {H : Hp} {d c : Addr} {cells : List Int} {n : Nat} (D : Dr H d c cells n) : d ≠ c := by
  obtain ⟨a, l, u, h, _⟩ := D.dict
  exact ne_of h D.list (fun z => nomatch z)
theorem Dr.mono {H : Hp} {d c : Addr} {cells : List Int} {n m : Nat} (D : Dr H d c cells n) (h : n ≤ m) : Dr H d c cells m := by
  obtain ⟨⟨a, l, u, h1, h2, h3, h4, h5, h6⟩, hl, hn, hz⟩ := D
  exact ⟨⟨a, l, u, h1, h2, by omega, h4, by omega, h6⟩, hl, hn, hz⟩
theorem Dr.same {H H' : Hp} {d c : Addr} {cells : List Int} {n : Nat} (D : Dr H d c cells n) (s : Same H H') : Dr H' d c cells n := by
  obtain ⟨⟨a, l, u, h1, h2⟩, hl, hn, hz⟩ := D
  exact ⟨⟨a, l, u, s _ _ h1, h2⟩, s _ _ hl, hn, hz⟩
/-- all stands but at d -/
def But (d : Addr) (H H' : Hp) : Prop := ∀ p, p ≠ d → H' p = H p
theorem But.trans {d : Addr} {H H1 H2 : Hp} (a : But d H H1) (b : But d H1 H2) : But d H H2 := fun p h => (b p h).trans (a p h)
theorem But.rfl {d : Addr} {H : Hp} : But d H H := fun _ _ => Eq.refl _
theorem But.upd {d : Addr} {H : Hp} {o : HO} : But d H (upd H d o) := fun _ h => upd_ne h
/-- old things stand but d (new things may have come) -/
def SameBut (d : Addr) (H H' : Hp) : Prop := ∀ p o, p ≠ d → H p = some o → H' p = some o
theorem SameBut.rfl {d : Addr} {H : Hp} : SameBut d H H := fun _ _ _ e => e
theorem SameBut.trans {d : Addr} {H H1 H2 : Hp} (a : SameBut d H H1) (b : SameBut d H1 H2) : SameBut d H H2 := fun p o h e => b p o h (a p o h e)
theorem SameBut.of {d : Addr} {H H' : Hp} (s : Same H H') : SameBut d H H' := fun p o _ e => s p o e
theorem But.sb {d : Addr} {H H' : Hp} (b : But d H H') : SameBut d H H' := fun p o h e => (b p h).trans e

theorem dg {H : Hp} {d : Addr} {kvs : List (Key × V)} {k : Key} {v : V} (h : H d = some (.dK kvs)) (e : valV kvs k = some v) : DGet H d (kV k) (some v) := by
  rw [← e]
  exact DGet.k h
theorem dp {H : Hp} {d : Addr} {kvs kvs' : List (Key × V)} {k : Key} {v : V} (h : H d = some (.dK kvs)) (e : putK kvs k v = kvs') (hl : kvs.length < 1000) : DPut H d (kV k) v (upd H d (.dK kvs')) := by
  rw [← e]
  exact DPut.k h (Nat.lt_of_lt_of_le hl (by decide))
theorem fm {i b : Int} (h : 0 < b) : 0 ≤ i.fmod b ∧ i.fmod b < b := by
  rw [Int.fmod_eq_emod_of_nonneg i (by omega)]
  exact ⟨Int.emod_nonneg _ (by omega), Int.emod_lt_of_pos _ h⟩
theorem fd {i b : Int} (h : 0 < b) (hi : 0 ≤ i) : 0 ≤ i.fdiv b := by
  rw [Int.fdiv_eq_ediv_of_nonneg i (by omega)]
  exact Int.ediv_nonneg hi (by omega)
theorem Dr_up {H : Hp} {d c : Addr} {cells : List Int} {n : Nat} (D : Dr H d c cells n) {a l u : Int} (h1 : 0 ≤ a) (h2 : a ≤ (n : Int) + 1) (h3 : 0 ≤ u) (h4 : u ≤ (n : Int) + 1) (h5 : 0 ≤ l) : Dr (upd H d (.dK (drw c a l u))) d c cells (n + 1) :=
  ⟨⟨a, l, u, upd_same, h1, by omega, h3, by omega, h5⟩, by rw [upd_ne D.dc.symm]; exact D.list, D.ne, D.len⟩
def spBegin (K : Frag) : Sp := fun vs H Q _ => ∃ (a : Addr) (ns : List Int), vs = [.ref a] ∧ Scr K H a (ns.map V.int) ∧ ns.length ≤ 63 ∧ ∀ d c H', Same H H' → H d = none → H c = none → Dr H' d c (ns ++ [0]) 0 → Q (.ref d) H'
def spMixed : Sp := fun vs H Q _ => ∃ (cell k : Int), vs = [.int cell, .int k] ∧ 0 ≤ k ∧ k ≤ 1000000000 ∧ ∀ r, 0 ≤ r → Q (.int r) H
def spNext : Sp := fun vs H Q _ => ∃ (d c : Addr) (cells : List Int) (n : Nat) (b : Int), vs = [.ref d, .int b] ∧ Dr H d c cells n ∧ n < 1000000000 ∧ 0 < b ∧ b < 1073741824 ∧
  ∀ r H', 0 ≤ r → r < b → Dr H' d c cells (n + 1) → But d H H' → Q (.int r) H'
end BJ

/-! what evaluates (on Evl): calls, comprehensions by walks; types of values; data with {} -/
namespace BJ
open PySem PySem.Spec PyProof.Rows L2 Evl
open PySem.W (Frag kitOne kitAny)

section
variable {σ : L2.St} {H : Hp} {z : V}
/-- a def's promise gives the value z -/
def SpE (sp : Sp) (vs : List V) (H : Hp) (z : V) : Prop := ∀ H1, Ex H H1 → ∀ (Q : VK) (E : XK), (∀ H2, Ex H1 H2 → Q z H2) → sp vs H1 Q E
theorem ev_ca {sp : Sp} {W : WX} {t : TA} {vs : List V} (h : EvA t σ H vs) (hs : SpE sp vs H z) : Ev (tCa sp W t) σ H z := fun H1 e Q q =>
  h H1 e _ fun H2 e2 => hs H2 (e.trans e2) Q _ fun H3 e3 => q H3 (e2.trans e3)
theorem et_yes : EvT tYes σ H true := fun H1 _ _ q => q H1 (Ex.refl H1)

theorem given_len' (n : Nat) (f : Nat → Bool) (v : Nat → V) : (given n f v).length ≤ n := given_len n f v
theorem cw_turn' {t : TT} {te : TE} {H H' : Hp} {f : Nat → Bool} {v : Nat → V} {Dl : Addr} {i : Nat} {σ2 : L2.St} (p : Cw H f v Dl i H') (hi : i < 1000000) (ht : EvT t σ2 H (f i)) (he : f i = true → Ev te σ2 H (v i)) :
    t σ2 H' fun b H3 => if b = true then te σ2 H3 fun y H4 => ∃ acc, H4 Dl = some (.lst acc) ∧ acc.length < sizeLine ∧ Cw H f v Dl (i + 1) (upd H4 Dl (.lst (acc ++ [y]))) else Cw H f v Dl (i + 1) H3 := by
  obtain ⟨p1, p2, p3⟩ := p
  refine ht H' p2 _ fun H3 e3 => ?_
  cases hf : f i with
  | true =>
    show te σ2 H3 fun y H4 => ∃ acc, H4 Dl = some (.lst acc) ∧ acc.length < sizeLine ∧ Cw H f v Dl (i + 1) (upd H4 Dl (.lst (acc ++ [y])))
    refine he hf H3 (p2.trans e3) _ fun H4 e4 => ⟨given i f v, e4 Dl _ (e3 Dl _ p3), (by have := given_len i f v; rw [sizeLine_eq]; omega), p1, Ex.mut ((p2.trans e3).trans e4) p1, ?_⟩
    rw [given_yes hf]
    exact upd_same
  | false =>
    show Cw H f v Dl (i + 1) H3
    refine ⟨p1, p2.trans e3, ?_⟩
    rw [given_no hf]
    exact e3 Dl _ p3
/-- a comprehension over a walk; the turn may lay objects, changes none -/
theorem lc_ev {J : It} {n : Nat} {G : Hp → Prop} {Y : Nat → Hp → V → Hp → Prop} (w : Walk J n G Y) {g : TG} {tt : TT} {te : TE} {vs : List Nat} {H1 : Hp} {Q : VK} (f : Nat → Bool) (v : Nat → V) (hn : n ≤ 1000000)
    (hG : ∀ H, Ex H1 H → G H)
    (hs : ∀ i x H2 H3, i < n → Ex H1 H2 → Y i H2 x H3 → ∃ σ2, wipe σ2 vs = wipe σ vs ∧ Ex H2 H3 ∧ (∀ Q : L2.St → Hp → Prop, Q σ2 H3 → g x (wipe σ vs) H3 Q) ∧ EvT tt σ2 H1 (f i) ∧ (f i = true → Ev te σ2 H1 (v i)))
    (k : ∀ D H', H1 D = none → Ex H1 H' → H' D = some (.lst (given n f v)) → Q (.ref D) H') :
    ∀ D, H1 D = none → ∃ W : Nat → Nat → Hp → Prop, (∃ m, W 0 m (upd H1 D (.lst []))) ∧ ∀ i m H, W i m H →
      (J.stop i H ∧ Q (.ref D) H) ∨ (J.go i H ∧ ∃ Nx : Hp → Prop, (∀ H', Nx H' → ∃ m', m' < m ∧ W (i + 1) m' H') ∧ ∀ x H', J.yld i H x H' → g x (wipe σ vs) H' fun σ2 H2 => wipe σ2 vs = wipe σ vs ∧ tt σ2 H2 fun b H3 =>
        if b = true then te σ2 H3 fun y H4 => ∃ acc, H4 D = some (.lst acc) ∧ acc.length < sizeLine ∧ Nx (upd H4 D (.lst (acc ++ [y]))) else Nx H3) := fun D hD =>
  lc_it w (Cw H1 f v D) ⟨hD, Ex.new hD, upd_same⟩ (fun i H _ p => hG H p.2.1) (fun i x H2 H3 hi p y => by
    obtain ⟨σ2, hw, e3, hg, ht, he⟩ := hs i x H2 H3 hi p.2.1 y
    exact hg _ ⟨hw, cw_turn' ⟨p.1, p.2.1.trans e3, e3 D _ p.2.2⟩ (by omega) ht he⟩) fun H' p => k D H' p.1 p.2.1 p.2.2
theorem given_map {α : Type} (xs : List α) (d : α) (f : α → Bool) (F : α → V) : given xs.length (fun i => f (xs.getD i d)) (fun i => F (xs.getD i d)) = (xs.filter f).map F := by
  unfold given
  have h : (List.range xs.length).map (fun i => xs.getD i d) = xs := by
    apply List.ext_getElem
    · simp
    · intro i h1 h2
      simp [List.getD, List.getElem?_eq_getElem h2]
  have e : ((List.range xs.length).filter (fun i => f (xs.getD i d))).map (fun i => xs.getD i d) = xs.filter f := by
    conv => rhs; rw [← h]
    rw [List.filter_map]
    rfl
  rw [← e, List.map_map]
  rfl
/-- .. its target a name, the items those of xs -/
theorem lc_at {J : It} {xs : List V} {G : Hp → Prop} (w : Walk J xs.length G (YAt xs)) {j : Nat} {tt : TT} {te : TE} {vs : List Nat} {H1 : Hp} {Q : VK} (f : V → Bool) (F : V → V) (hn : xs.length ≤ 1000000)
    (hG : ∀ H, Ex H1 H → G H) (hw : ∀ x, wipe ((wipe σ vs).set j (some x)) vs = wipe σ vs)
    (ht : ∀ x ∈ xs, EvT tt ((wipe σ vs).set j (some x)) H1 (f x)) (he : ∀ x ∈ xs, f x = true → Ev te ((wipe σ vs).set j (some x)) H1 (F x))
    (k : ∀ D H', H1 D = none → Ex H1 H' → H' D = some (.lst ((xs.filter f).map F)) → Q (.ref D) H') :
    ∀ D, H1 D = none → ∃ W : Nat → Nat → Hp → Prop, (∃ m, W 0 m (upd H1 D (.lst []))) ∧ ∀ i m H, W i m H →
      (J.stop i H ∧ Q (.ref D) H) ∨ (J.go i H ∧ ∃ Nx : Hp → Prop, (∀ H', Nx H' → ∃ m', m' < m ∧ W (i + 1) m' H') ∧ ∀ x H', J.yld i H x H' → gName j x (wipe σ vs) H' fun σ2 H2 => wipe σ2 vs = wipe σ vs ∧ tt σ2 H2 fun b H3 =>
        if b = true then te σ2 H3 fun y H4 => ∃ acc, H4 D = some (.lst acc) ∧ acc.length < sizeLine ∧ Nx (upd H4 D (.lst (acc ++ [y]))) else Nx H3) :=
  lc_ev w (fun i => f (xs.getD i .non)) (fun i => F (xs.getD i .non)) hn hG (fun i x H2 H3 hi e ⟨e1, hx⟩ => by
    subst e1
    have hm : x ∈ xs := List.mem_of_getElem? hx
    have hd : xs.getD i .non = x := by rw [List.getD, hx]; rfl
    refine ⟨_, hw x, Ex.refl _, fun Q q => q, ?_, ?_⟩
    · rw [hd]; exact ht x hm
    · rw [hd]; exact he x hm) (by rw [given_map]; exact k)
/-- .. its target a pair (a, b) of names -/
theorem lc_pr {J : It} {ps : List (V × V)} {G : Hp → Prop} {K : Frag} (w : Walk J ps.length G (fun i H v H' => ∃ T p, v = .ref T ∧ H T = none ∧ H' = upd H T (.tup [p.1, p.2]) ∧ ps[i]? = some p)) {j l : Nat} {tt : TT} {te : TE} {vs : List Nat} {H1 : Hp} {Q : VK} (f : V × V → Bool) (F : V × V → V) (hn : ps.length ≤ 1000000)
    (hG : ∀ H, Ex H1 H → G H) (hw : ∀ x y, wipe (((wipe σ vs).set j (some x)).set l (some y)) vs = wipe σ vs)
    (ht : ∀ p ∈ ps, EvT tt (((wipe σ vs).set j (some p.1)).set l (some p.2)) H1 (f p)) (he : ∀ p ∈ ps, f p = true → Ev te (((wipe σ vs).set j (some p.1)).set l (some p.2)) H1 (F p))
    (k : ∀ D H', H1 D = none → Ex H1 H' → H' D = some (.lst ((ps.filter f).map F)) → Q (.ref D) H') :
    ∀ D, H1 D = none → ∃ W : Nat → Nat → Hp → Prop, (∃ m, W 0 m (upd H1 D (.lst []))) ∧ ∀ i m H, W i m H →
      (J.stop i H ∧ Q (.ref D) H) ∨ (J.go i H ∧ ∃ Nx : Hp → Prop, (∀ H', Nx H' → ∃ m', m' < m ∧ W (i + 1) m' H') ∧ ∀ x H', J.yld i H x H' → gTup K 2 (gCons (gName j) (gCons (gName l) gNil)) x (wipe σ vs) H' fun σ2 H2 => wipe σ2 vs = wipe σ vs ∧ tt σ2 H2 fun b H3 =>
        if b = true then te σ2 H3 fun y H4 => ∃ acc, H4 D = some (.lst acc) ∧ acc.length < sizeLine ∧ Nx (upd H4 D (.lst (acc ++ [y]))) else Nx H3) :=
  lc_ev w (fun i => f (ps.getD i (.non, .non))) (fun i => F (ps.getD i (.non, .non))) hn hG (fun i x H2 H3 hi e y => by
    obtain ⟨T, ⟨p1, p2⟩, rfl, hT, rfl, hx⟩ := y
    have hm : (p1, p2) ∈ ps := List.mem_of_getElem? hx
    have hd : ps.getD i (.non, .non) = (p1, p2) := by rw [List.getD, hx]; rfl
    refine ⟨_, hw p1 p2, Ex.new hT, fun Q q => ⟨T, [p1, p2], rfl, st_of upd_same, rfl, p1, [p2], rfl, p2, [], rfl, rfl, q⟩, ?_, ?_⟩
    · rw [hd]; exact ht _ hm
    · rw [hd]; exact he _ hm) (by rw [given_map]; exact k)
theorem walk_strA {z : Str} : Walk (Its z) ((z.cps.toList.map fun c => V.str ⟨#[c]⟩).length) (fun _ => True) (YAt (z.cps.toList.map fun c => V.str ⟨#[c]⟩)) := by
  have e : (z.cps.toList.map fun c => V.str ⟨#[c]⟩).length = z.cps.size := by simp
  rw [e]
  refine walk_str.mono (fun _ h => h) fun i H x H' hi _ ⟨h1, c, hc, hx⟩ => ⟨h1, ?_⟩
  rw [List.getElem?_map, Array.getElem?_toList, hc, hx]
  rfl
theorem walk_rangeA {lo : Int} {n : Nat} : Walk (Itr lo n) (((List.range n).map fun i => V.int (lo + (i : Nat))).length) (fun _ => True) (YAt ((List.range n).map fun i => V.int (lo + (i : Nat)))) := by
  have e : ((List.range n).map fun i => V.int (lo + (i : Nat))).length = n := by simp
  rw [e]
  refine walk_range.mono (fun _ h => h) fun i H x H' hi _ ⟨h1, h2⟩ => ⟨h1, ?_⟩
  rw [List.getElem?_map, List.getElem?_range hi, h2]
  rfl
theorem walk_rangeCA {lo c : Int} {n : Nat} : Walk (Itc lo c n) (((List.range n).map fun i => V.int (lo + (i : Nat) * c)).length) (fun _ => True) (YAt ((List.range n).map fun i => V.int (lo + (i : Nat) * c))) := by
  have e : ((List.range n).map fun i => V.int (lo + (i : Nat) * c)).length = n := by simp
  rw [e]
  refine walk_rangeC.mono (fun _ h => h) fun i H x H' hi _ ⟨h1, h2⟩ => ⟨h1, ?_⟩
  rw [List.getElem?_map, List.getElem?_range hi, h2]
  rfl
/-- enumerate(text) -/
def enumP (z : Str) : List (V × V) := (z.cps.toList.zipIdx).map fun p => (V.int (p.2 : Nat), V.str ⟨#[p.1]⟩)
theorem enumP_len (z : Str) : (enumP z).length = z.cps.size := by simp [enumP]
theorem walk_enumSA {z : Str} : Walk (ItEs z) (enumP z).length (fun _ => True) (fun i H v H' => ∃ T p, v = .ref T ∧ H T = none ∧ H' = upd H T (.tup [p.1, p.2]) ∧ (enumP z)[i]? = some p) := by
  rw [enumP_len]
  refine ⟨fun i H hi _ => hi, fun H _ => rfl, fun i H v H' hi _ ⟨T, c, h1, h2, h3, h4⟩ => ⟨T, (V.int (i : Nat), V.str ⟨#[c]⟩), h1, h2, h3, ?_⟩⟩
  unfold enumP
  rw [List.getElem?_map, List.getElem?_zipIdx, Array.getElem?_toList, h4]
  simp
theorem walk_zipA {K : Frag} {a b : Addr} {xs ys : List V} : Walk (Itz K a b) (xs.zip ys).length (fun H => SqL K H a xs ∧ SqL K H b ys) (fun i H v H' => ∃ T p, v = .ref T ∧ H T = none ∧ H' = upd H T (.tup [p.1, p.2]) ∧ (xs.zip ys)[i]? = some p) := by
  refine (walk_zip (n := (xs.zip ys).length) (by simp)).mono (fun _ h => h) fun i H v H' hi _ ⟨T, x, y, h1, h2, h3, h4, h5⟩ => ⟨T, (x, y), h1, h2, h3, ?_⟩
  rw [List.getElem?_zip_eq_some]
  exact ⟨h4, h5⟩
end

/-! ### types -/
theorem ty_tup {K : Frag} {H : Hp} {p : Addr} {xs : List V} (h : SqT K H p xs) : TyX K H (.ref p) (.type "tuple") := by
  rcases h with (h | ⟨o, h⟩) | ⟨o, its, n, hk, hc, _⟩
  · exact .base (.tup h)
  · exact .fTuple h
  · exact .kTuple hk hc
theorem ty_lst {K : Frag} {H : Hp} {p : Addr} {xs : List V} (h : SqL K H p xs) : TyX K H (.ref p) (.type "list") := by
  rcases h with (h | ⟨o, h⟩) | ⟨o, its, n, hk, hc, _⟩
  · exact .base (.lst h)
  · exact .base (.frz h)
  · exact .kList hk hc
/-- x is of the built-in type n -/
def TyN (K : Frag) (H : Hp) (x : V) (n : String) : Prop := TyX K H x (.type n)
theorem tyx_ex {K : Frag} {H H' : Hp} (e : Ex H H') {x : V} {n : String} (h : TyX K H x (.type n)) : TyX K H' x (.type n) := by
  generalize ht : Value.type n = t at h
  cases h with
  | base b =>
    cases b with
    | non => exact .base .non
    | bl y => exact .base (.bl y)
    | int i => exact .base (.int i)
    | str y => exact .base (.str y)
    | flt y => exact .base (.flt y)
    | lst ea => exact .base (.lst (e _ _ ea))
    | frz ea => exact .base (.frz (e _ _ ea))
    | tup ea => exact .base (.tup (e _ _ ea))
    | dK ea => exact .base (.dK (e _ _ ea))
    | dT ea => exact .base (.dT (e _ _ ea))
    | ins => cases ht
  | byt b => exact .byt b
  | set ea => exact .set (e _ _ ea)
  | kList ea c => exact .kList ea c
  | kTuple ea c => exact .kTuple ea c
  | kDict ea c => exact .kDict ea c
  | fTuple ea => exact .fTuple (e _ _ ea)
  | fDict ea => exact .fDict (e _ _ ea)
mutual
theorem dp_ex {K : Frag} {H H' : Hp} (e : Ex H H') : ∀ {x : V} {d : PyData}, Dp K H x d → Dp K H' x d
  | _, _, .non => .non
  | _, _, .bl b => .bl b
  | _, _, .int i => .int i
  | _, _, .str x => .str x
  | _, _, .lst h1 h2 => .lst (ex_l e h1) (dpAll_ex e h2)
  | _, _, .tup h1 h2 => .tup (ex_t e h1) (dpAll_ex e h2)
theorem dpAll_ex {K : Frag} {H H' : Hp} (e : Ex H H') : ∀ {xs : List V} {ds : List PyData}, DpAll K H xs ds → DpAll K H' xs ds
  | _, _, .nil => .nil
  | _, _, .cons h1 h2 => .cons (dp_ex e h1) (dpAll_ex e h2)
end
theorem dpAll_int {K : Frag} {H : Hp} : ∀ ns : List Int, DpAll K H (ns.map V.int) (ns.map PyData.int)
  | [] => .nil
  | n :: ns => .cons (.int n) (dpAll_int ns)
/-- the type's name of data -/
def tyN : PyData → String
  | .none => "NoneType" | .bool _ => "bool" | .int _ => "int" | .str _ => "str" | .list _ => "list" | .tuple _ => "tuple" | .dict _ => "dict"
/-- data, or the empty dict -/
inductive Dq (K : Frag) (H : Hp) : V → PyData → Prop
  | dp {x : V} {d : PyData} (h : Dp K H x d) : Dq K H x d
  | dict {a : Addr} (h : H a = some (.dK [])) : Dq K H (.ref a) (.dict [])
theorem Dq.ex {K : Frag} {H H' : Hp} {x : V} {d : PyData} (e : Ex H H') (h : Dq K H x d) : Dq K H' x d := by
  cases h with
  | dp h => exact .dp (dp_ex e h)
  | dict h => exact .dict (e _ _ h)
theorem dp_ty {K : Frag} {H : Hp} {x : V} {d : PyData} (h : Dp K H x d) : TyX K H x (.type (tyN d)) := by
  cases h with
  | non => exact .base .non
  | bl b => exact .base (.bl b)
  | int i => exact .base (.int i)
  | str x => exact .base (.str x)
  | lst h _ => exact ty_lst h
  | tup h _ => exact ty_tup h
theorem Dq.ty {K : Frag} {H : Hp} {x : V} {d : PyData} (h : Dq K H x d) : TyX K H x (.type (tyN d)) := by
  cases h with
  | dp h => exact dp_ty h
  | dict h => exact .base (.dK h)
section
variable {X : Cx}
/-- repr(x) of data, {} among it -/
def rReprQ (K : Frag) : List V → Hp → VK → Prop := fun xs H Q => ∃ (x : V) (d : PyData), xs = [x] ∧ Dq K H x d ∧ d.showable = true ∧ (d = .dict [] ∨ d.hasDict = false) ∧ d.depth ≤ 40 ∧ d.shown.length ≤ sizeLine ∧ Q (.str d.shown) H
theorem call_reprQ {k : Nat} (hr : Room k X.A) (hG : X.A.guards = some []) : CallR X (.builtin "repr") (rReprQ X.K) := by
  rintro pins s σ H xs us Q I r ⟨x, d, rfl, hd, hs, hnd, hdep, hsz, q⟩
  cases hd with
  | dp hd =>
    refine call_repr hr hG pins s σ H [x] us Q I r ⟨x, d, rfl, hd, hs, ?_, hdep, hsz, q⟩
    rcases hnd with rfl | h
    · cases hd
    · exact h
  | @dict a ha =>
    obtain ⟨u, rfl, r1⟩ := vals1 r
    cases (show u = Value.ref a from r1)
    obtain ⟨_, hsys, vs, hkv, o, es, ep, h1, h2, h3, _, h5, _⟩ := (show ObjOk X.prog X.w H s.heap a (.dK []) from I.hok a _ ha)
    cases hkv
    have he : es.toList = [] := List.length_eq_zero_iff.mp (by rw [h5.length]; rfl)
    have rd : Reads s.heap (.ref a) (.dict []) (a :: [] ++ []) := .dict (kvs := []) h1 h2.1 h3 (by rw [he]; exact .nil) (by rw [he]; exact .nil)
    refine repr_of_reads' rd hs (fun _ hm => ?_) hG (by have := hr.un; omega) (fun _ _ e => e) (fun h' t tk kk => ⟨.str (PyData.dict []).shown, H, I.kept (t' := tk) kk, ⟨t, rfl⟩, q⟩) hsz
    have : sysModules = a := by simpa using hm
    rw [this] at hsys
    simp at hsys
end
end BJ

/-! hex digits, what a text of them reads to; data of ints -/
namespace BJ
open PySem PySem.Spec PyProof.Rows L2 Evl

/-! ### data of ints -/
theorem canLay_ints : ∀ ns : List Int, PyData.canLayAll0 (ns.map .int) = true
  | [] => rfl
  | n :: ns => by
    rw [List.map_cons]
    unfold PyData.canLayAll0
    rw [canLay_ints ns]
    rfl
theorem depth_ints : ∀ ns : List Int, PyData.depthAll (ns.map .int) = 0
  | [] => rfl
  | n :: ns => by
    rw [List.map_cons]
    unfold PyData.depthAll
    rw [depth_ints ns]
    rfl
theorem show_ints : ∀ ns : List Int, (∀ n ∈ ns, n.natAbs < 10 ^ 12) → PyData.showableAll (ns.map .int) = true
  | [], _ => rfl
  | n :: ns, h => by
    rw [List.map_cons]
    unfold PyData.showableAll
    rw [show_ints ns fun m hm => h m (List.mem_cons_of_mem _ hm), Bool.and_true]
    unfold PyData.showable
    have h1 := h n List.mem_cons_self
    refine decide_eq_true ?_
    by_cases h0 : n.natAbs = 0
    · rw [h0]; decide
    · have := (Nat.log2_lt h0 (k := 1920)).mpr (Nat.lt_of_lt_of_le h1 (by decide))
      exact this
theorem short_ints : ∀ ns : List Int, (∀ n ∈ ns, n.natAbs < 10 ^ 12) → PyData.leavesShortAll 13 (ns.map .int) = true
  | [], _ => rfl
  | n :: ns, h => by
    rw [List.map_cons]
    unfold PyData.leavesShortAll
    rw [short_ints ns fun m hm => h m (List.mem_cons_of_mem _ hm), Bool.and_true]
    unfold PyData.leavesShort
    exact decide_eq_true (PyData.shown_int_le (h n List.mem_cons_self))
theorem bulk_ints : ∀ ns : List Int, PyData.bulkAll (ns.map .int) = ns.length
  | [] => rfl
  | n :: ns => by
    rw [List.map_cons]
    unfold PyData.bulkAll
    rw [bulk_ints ns, List.length_cons]
    unfold PyData.bulk
    omega
theorem eqv_ints : ∀ ns ms : List Int, PyData.eqvAll (ns.map .int) (ms.map .int) = decide (ns = ms)
  | [], [] => by simp [PyData.eqvAll]
  | [], m :: ms => by simp [PyData.eqvAll]
  | n :: ns, [] => by simp [PyData.eqvAll]
  | n :: ns, m :: ms => by
    rw [List.map_cons, List.map_cons]
    unfold PyData.eqvAll
    rw [eqv_ints ns ms]
    unfold PyData.eqv
    by_cases h1 : n = m <;> by_cases h2 : ns = ms <;> simp [h1, h2]
/-- a tuple, a list of ints -/
def dT (ns : List Int) : PyData := .tuple (ns.map .int)
def dL (ns : List Int) : PyData := .list (ns.map .int)
theorem dT_shaped (ns : List Int) : SeqAt.shaped (dT ns) = true := by
  unfold SeqAt.shaped dT
  rw [Bool.and_eq_true]
  refine ⟨?_, decide_eq_true ?_⟩
  · unfold PyData.canLay0; exact canLay_ints ns
  · unfold PyData.depth; rw [depth_ints]; omega
theorem dL_shaped (ns : List Int) : SeqAt.shaped (dL ns) = true := by
  unfold SeqAt.shaped dL
  rw [Bool.and_eq_true]
  refine ⟨?_, decide_eq_true ?_⟩
  · unfold PyData.canLay0; exact canLay_ints ns
  · unfold PyData.depth; rw [depth_ints]; omega
/-- what repr asks of data -/
structure Shows (d : PyData) : Prop where
  s : d.showable = true
  n : d = .dict [] ∨ d.hasDict = false
  p : d.depth ≤ 40
  z : d.shown.length ≤ sizeLine
theorem hasDict_ints : ∀ ns : List Int, PyData.hasDictAll (ns.map .int) = false
  | [] => rfl
  | n :: ns => by
    rw [List.map_cons]
    unfold PyData.hasDictAll
    rw [hasDict_ints ns]
    rfl
theorem dT_shows {ns : List Int} (h : ∀ n ∈ ns, n.natAbs < 10 ^ 12) (hl : ns.length ≤ 1000000) : Shows (dT ns) where
  s := by unfold dT PyData.showable; exact show_ints ns h
  n := .inr (by unfold dT PyData.hasDict; exact hasDict_ints ns)
  p := by unfold dT PyData.depth; rw [depth_ints]; omega
  z := PyData.shown_fits_bulk (d := dT ns) (B := 13) (by decide) (by decide) (by unfold dT PyData.leavesShort; exact short_ints ns h) (by unfold dT PyData.bulk; rw [bulk_ints]; omega)
theorem dL_shows {ns : List Int} (h : ∀ n ∈ ns, n.natAbs < 10 ^ 12) (hl : ns.length ≤ 1000000) : Shows (dL ns) where
  s := by unfold dL PyData.showable; exact show_ints ns h
  n := .inr (by unfold dL PyData.hasDict; exact hasDict_ints ns)
  p := by unfold dL PyData.depth; rw [depth_ints]; omega
  z := PyData.shown_fits_bulk (d := dL ns) (B := 13) (by decide) (by decide) (by unfold dL PyData.leavesShort; exact short_ints ns h) (by unfold dL PyData.bulk; rw [bulk_ints]; omega)
theorem dp_T {K : PySem.W.Frag} {H : Hp} {p : Addr} {ns : List Int} (h : SqT K H p (ns.map V.int)) : Dp K H (.ref p) (dT ns) := .tup h (dpAll_int ns)
theorem dp_L {K : PySem.W.Frag} {H : Hp} {p : Addr} {ns : List Int} (h : SqL K H p (ns.map V.int)) : Dp K H (.ref p) (dL ns) := .lst h (dpAll_int ns)
theorem eqv_T (ns ms : List Int) : PyData.eqv (dT ns) (dT ms) = decide (ns = ms) := by unfold dT PyData.eqv; exact eqv_ints ns ms
theorem eqv_L (ns ms : List Int) : PyData.eqv (dL ns) (dL ms) = decide (ns = ms) := by unfold dL PyData.eqv; exact eqv_ints ns ms

/-! ### hex -/
def DIG : Str := "0123456789abcdef"
def hexd (i : Nat) : Nat := if i < 10 then 48 + i else 87 + i
def hval (c : Nat) : Nat := if c < 58 then c - 48 else c - 87
def hok (c : Nat) : Bool := decide (c ∈ DIG.cps.toList)
theorem dig_eq : DIG.cps.toList = (List.range 16).map hexd := by decide +kernel
theorem dig_len : DIG.length = 16 := by decide +kernel
theorem hval_hexd {i : Nat} (h : i < 16) : hval (hexd i) = i := by unfold hval hexd; split <;> split <;> omega
theorem hok_hexd {i : Nat} (h : i < 16) : hok (hexd i) = true := by
  unfold hok
  rw [dig_eq]
  exact decide_eq_true (List.mem_map.mpr ⟨i, List.mem_range.mpr h, rfl⟩)
theorem hok_ex {c : Nat} (h : hok c = true) : ∃ i, i < 16 ∧ c = hexd i := by
  unfold hok at h
  rw [dig_eq] at h
  obtain ⟨i, hi, e⟩ := List.mem_map.mp (of_decide_eq_true h)
  exact ⟨i, List.mem_range.mp hi, e.symm⟩
theorem hval_lt {c : Nat} (h : hok c = true) : hval c < 16 := by
  obtain ⟨i, hi, rfl⟩ := hok_ex h
  rw [hval_hexd hi]
  exact hi
theorem dig_occ : ∀ i ∈ List.range 16, Builtin.Str.occurrences DIG ⟨#[hexd i]⟩ 0 DIG.length 1 = [i] := by decide +kernel
theorem hok_occ {c : Nat} (h : hok c = true) : Builtin.Str.occurrences DIG ⟨#[c]⟩ 0 DIG.length 1 = [hval c] := by
  obtain ⟨i, hi, rfl⟩ := hok_ex h
  rw [hval_hexd hi]
  exact dig_occ i (List.mem_range.mpr hi)
theorem dig_at {i : Nat} (h : i < 16) : atI DIG.cps.toList (i : Int) = some (hexd i) := by
  refine atI_nat ?_
  rw [dig_eq, List.getElem?_map, List.getElem?_range h]
  rfl
def pairs : List Nat → List Int
  | a :: b :: r => (16 * (hval a : Int) + (hval b : Int)) :: pairs r
  | _ => []
/-- what a text reads to: octets, or where it is wrong -/
def due (l : List Nat) : List Int ⊕ Int :=
  match l.findIdx? fun c => !hok c with
  | some i => .inr (i : Int)
  | none => if l.length % 2 = 1 then .inr (l.length : Int) else if 100000 < l.length then .inr 100000 else .inl (pairs l)
def dueD (l : List Nat) : PyData := match due l with | .inl ns => dT ns | .inr i => dL [i]
theorem pairs_len : ∀ l : List Nat, (pairs l).length = l.length / 2
  | [] => rfl
  | [_] => by simp [pairs]
  | a :: b :: r => by
    unfold pairs
    rw [List.length_cons, pairs_len r, List.length_cons, List.length_cons]
    omega
theorem pairs_lt : ∀ l : List Nat, (∀ c ∈ l, hok c = true) → ∀ n ∈ pairs l, 0 ≤ n ∧ n ≤ 255
  | [], _, n, h => by cases h
  | [_], _, n, h => by cases h
  | a :: b :: r, hl, n, h => by
    unfold pairs at h
    rcases List.mem_cons.mp h with rfl | h
    · have h1 := hval_lt (hl a List.mem_cons_self)
      have h2 := hval_lt (hl b (List.mem_cons_of_mem _ List.mem_cons_self))
      omega
    · exact pairs_lt r (fun c hc => hl c (List.mem_cons_of_mem _ (List.mem_cons_of_mem _ hc))) n h
theorem pairs_at : ∀ (l : List Nat) (n : Nat), l.length = 2 * n → (List.range n).map (fun i => 16 * (hval (l.getD (2 * i) 0) : Int) + (hval (l.getD (2 * i + 1) 0) : Int)) = pairs l
  | [], n, h => by
    have : n = 0 := by simp at h; omega
    subst this
    rfl
  | [_], n, h => by simp at h; omega
  | a :: b :: r, n, h => by
    obtain ⟨m, rfl⟩ : ∃ m, n = m + 1 := ⟨n - 1, by simp at h; omega⟩
    have h2 : r.length = 2 * m := by simp at h; omega
    unfold pairs
    rw [← pairs_at r m h2, List.range_succ_eq_map, List.map_cons, List.map_map]
    congr 1
theorem all_ok {l : List Nat} (h : l.findIdx? (fun c => !hok c) = none) : ∀ c ∈ l, hok c = true := by
  rw [List.findIdx?_eq_none_iff] at h
  intro c hc
  have := h c hc
  simpa using this
theorem due_inl {l : List Nat} {ns : List Int} (h : due l = .inl ns) : l.findIdx? (fun c => !hok c) = none ∧ l.length % 2 = 0 ∧ l.length ≤ 100000 ∧ ns = pairs l := by
  unfold due at h
  split at h
  · cases h
  · rename_i e
    split at h
    · cases h
    · split at h
      · cases h
      · cases h
        exact ⟨e, by omega, by omega, rfl⟩
theorem due_shows {l : List Nat} (hl : l.length ≤ 1000000) : Shows (dueD l) := by
  unfold dueD
  cases h : due l with
  | inl ns =>
    obtain ⟨h1, h2, h3, rfl⟩ := due_inl h
    exact dT_shows (fun n hn => by have := pairs_lt l (all_ok h1) n hn; omega) (by rw [pairs_len]; omega)
  | inr i =>
    refine dL_shows (fun n hn => ?_) (by simp)
    rw [List.mem_singleton] at hn
    subst hn
    unfold due at h
    split at h
    · rename_i j hj
      cases h
      have := (List.findIdx?_eq_some_iff_findIdx_eq.mp hj).1
      omega
    · split at h
      · cases h; omega
      · split at h
        · cases h; omega
        · cases h
/-! ### the text of octets -/
def hexL (ns : List Int) : List Nat := ns.flatMap fun i => [hexd (i / 16).toNat, hexd (i % 16).toNat]
def pairS (i : Int) : Str := ⟨#[hexd (i / 16).toNat, hexd (i % 16).toNat]⟩
def hexS (ns : List Int) : Str := Txt.join "" (ns.map pairS)
theorem joinL_nil : ∀ ps : List (List Nat), TL.joinL [] ps = ps.flatten
  | [] => rfl
  | [p] => by simp [TL.joinL]
  | p :: q :: r => by
    unfold TL.joinL
    rw [joinL_nil (q :: r)]
    simp
theorem hexS_tl (ns : List Int) : (hexS ns).cps.toList = hexL ns := by
  unfold hexS
  rw [TL.join_eq]
  have := TL.tl_join "" (ns.map pairS)
  rw [show TL.tl "" = [] from rfl, joinL_nil] at this
  show TL.tl (Str.join "" (ns.map pairS)) = _
  rw [this, List.map_map]
  unfold hexL
  rw [List.flatMap_def]
  rfl
theorem hexL_len : ∀ ns : List Int, (hexL ns).length = 2 * ns.length
  | [] => rfl
  | n :: ns => by
    have := hexL_len ns
    unfold hexL at this ⊢
    rw [List.flatMap_cons, List.length_append, this, List.length_cons]
    simp only [List.length_cons, List.length_nil]
    omega
theorem hexL_ok : ∀ ns : List Int, (∀ n ∈ ns, 0 ≤ n ∧ n ≤ 255) → ∀ c ∈ hexL ns, hok c = true := by
  intro ns h c hc
  obtain ⟨n, hn, hc⟩ := List.mem_flatMap.mp hc
  have := h n hn
  rcases List.mem_cons.mp hc with rfl | hc
  · exact hok_hexd (by omega)
  · rw [List.mem_singleton] at hc
    subst hc
    exact hok_hexd (by omega)
theorem hexL_pairs : ∀ ns : List Int, (∀ n ∈ ns, 0 ≤ n ∧ n ≤ 255) → pairs (hexL ns) = ns
  | [], _ => rfl
  | n :: ns, h => by
    have h0 := h n List.mem_cons_self
    have ih := hexL_pairs ns fun m hm => h m (List.mem_cons_of_mem _ hm)
    unfold hexL at ih ⊢
    rw [List.flatMap_cons]
    show (16 * (hval (hexd (n / 16).toNat) : Int) + (hval (hexd (n % 16).toNat) : Int)) :: pairs (ns.flatMap _) = _
    rw [ih, hval_hexd (by omega), hval_hexd (by omega)]
    congr 1
    omega
theorem due_hexL {ns : List Int} (h : ∀ n ∈ ns, 0 ≤ n ∧ n ≤ 255) (hl : ns.length ≤ 50000) : due (hexL ns) = .inl ns := by
  unfold due
  have e : (hexL ns).findIdx? (fun c => !hok c) = none := by
    rw [List.findIdx?_eq_none_iff]
    intro c hc
    rw [hexL_ok ns h c hc]
    rfl
  rw [e]
  have hn := hexL_len ns
  simp only
  rw [if_neg (by omega), if_neg (by omega), hexL_pairs ns h]
theorem strLen_tl (z : Str) : z.length = z.cps.toList.length := by simp [Str.length]
theorem hexS_len (ns : List Int) : (hexS ns).length = 2 * ns.length := by rw [strLen_tl, hexS_tl, hexL_len]
theorem hexS_sum (ns : List Int) : ((ns.map pairS).map (·.length)).sum = 2 * ns.length := by
  induction ns with
  | nil => rfl
  | cons n ns ih =>
    rw [List.map_cons, List.map_cons, List.sum_cons, ih, List.length_cons]
    show 2 + _ = _
    omega

/-! ### the wrong places -/
def wrongL (l : List Nat) (k : Nat) : List Int := ((l.zipIdx k).filter fun p => !hok p.1).map fun p => ((p.2 : Nat) : Int)
theorem wrongL_head : ∀ (l : List Nat) (k : Nat), (wrongL l k).head? = (l.findIdx? fun c => !hok c).map fun i => ((i + k : Nat) : Int)
  | [], k => rfl
  | c :: l, k => by
    have ih := wrongL_head l (k + 1)
    unfold wrongL at ih ⊢
    rw [List.zipIdx_cons, List.findIdx?_cons]
    cases h : hok c with
    | false =>
      rw [List.filter_cons_of_pos (by simp [h])]
      simp
    | true =>
      rw [List.filter_cons_of_neg (by simp [h]), ih]
      simp only [Bool.not_true]
      rw [if_neg (by simp), Option.map_map]
      congr 1
      funext i
      simp only [Function.comp]
      omega
theorem wrong_none {l : List Nat} (h : l.findIdx? (fun c => !hok c) = none) : wrongL l 0 = [] := by
  have := wrongL_head l 0
  rw [h] at this
  simpa using this
theorem wrong_some {l : List Nat} {i : Nat} (h : l.findIdx? (fun c => !hok c) = some i) : ∃ r, wrongL l 0 = (i : Int) :: r := by
  have := wrongL_head l 0
  rw [h] at this
  cases e : wrongL l 0 with
  | nil => rw [e] at this; simp at this
  | cons a r =>
    rw [e] at this
    simp only [List.head?_cons, Option.map_some, Option.some.injEq, Nat.add_zero] at this
    exact ⟨r, by rw [this]⟩

/-! ### the evens and the odds -/
def evens : List V → List V
  | a :: _ :: r => a :: evens r
  | l => l
def odds : List V → List V
  | _ :: b :: r => b :: odds r
  | _ => []
end BJ

/-! comprehensions that evaluate; calls on values -/
namespace BJ
open PySem PySem.Spec PyProof.Rows L2 Evl
open PySem.W (Frag kitOne kitAny)
section
variable {K : Frag} {σ : L2.St} {H : Hp} {z : V} {tl te : TE} {tt : TT} {wi : TI} {vs : List Nat} {xs : List V}
/-- what is walked over gives xs -/
def EvI (wi : TI) (σ : L2.St) (H : Hp) (xs : List V) : Prop := ∀ H1, Ex H H1 → ∀ R : It → Hp → Prop, (∀ H2 J G, Ex H1 H2 → Walk J xs.length G (YAt xs) → (∀ H3, Ex H2 H3 → G H3) → R J H2) → wi σ H1 R
/-- .. gives pairs -/
def EvP (wi : TI) (σ : L2.St) (H : Hp) (ps : List (V × V)) : Prop := ∀ H1, Ex H H1 → ∀ R : It → Hp → Prop,
  (∀ H2 J G, Ex H1 H2 → Walk J ps.length G (fun i H v H' => ∃ T p, v = .ref T ∧ H T = none ∧ H' = upd H T (.tup [p.1, p.2]) ∧ ps[i]? = some p) → (∀ H3, Ex H2 H3 → G H3) → R J H2) → wi σ H1 R
theorem el_at {j : Nat} (hi : EvI wi σ H xs) (f : V → Bool) (F : V → V) (hn : xs.length ≤ 1000000) (hw : ∀ x, wipe ((wipe σ vs).set j (some x)) vs = wipe σ vs)
    (ht : ∀ x ∈ xs, ∀ H1, Ex H H1 → EvT tt ((wipe σ vs).set j (some x)) H1 (f x)) (he : ∀ x ∈ xs, ∀ H1, Ex H H1 → f x = true → Ev te ((wipe σ vs).set j (some x)) H1 (F x)) :
    EvL (tLc wi (gName j) tt te vs) σ H ((xs.filter f).map F) := fun H1 e Q q => hi H1 e _ fun H2 J G e2 w hG =>
  lc_at w f F hn hG hw (fun x hx => ht x hx H2 (e.trans e2)) (fun x hx hf => he x hx H2 (e.trans e2) hf) fun D H' hD e3 hl => q D H' (fresh_back e2 hD) (e2.trans e3) hl
/-- .. without an if -/
theorem el_all {j : Nat} (hi : EvI wi σ H xs) (F : V → V) (hn : xs.length ≤ 1000000) (hw : ∀ x, wipe ((wipe σ vs).set j (some x)) vs = wipe σ vs)
    (he : ∀ x ∈ xs, ∀ H1, Ex H H1 → Ev te ((wipe σ vs).set j (some x)) H1 (F x)) : EvL (tLc wi (gName j) tYes te vs) σ H (xs.map F) := by
  have h := el_at (tt := tYes) hi (fun _ => true) F hn hw (fun _ _ _ _ => et_yes) (fun x hx H1 e _ => he x hx H1 e)
  rw [List.filter_eq_self.mpr (fun _ _ => rfl)] at h
  exact h
theorem el_pr {j l : Nat} {ps : List (V × V)} (hi : EvP wi σ H ps) (f : V × V → Bool) (F : V × V → V) (hn : ps.length ≤ 1000000) (hw : ∀ x y, wipe (((wipe σ vs).set j (some x)).set l (some y)) vs = wipe σ vs)
    (ht : ∀ p ∈ ps, ∀ H1, Ex H H1 → EvT tt (((wipe σ vs).set j (some p.1)).set l (some p.2)) H1 (f p)) (he : ∀ p ∈ ps, ∀ H1, Ex H H1 → f p = true → Ev te (((wipe σ vs).set j (some p.1)).set l (some p.2)) H1 (F p)) :
    EvL (tLc wi (gTup K 2 (gCons (gName j) (gCons (gName l) gNil))) tt te vs) σ H ((ps.filter f).map F) := fun H1 e Q q => hi H1 e _ fun H2 J G e2 w hG =>
  lc_pr w f F hn hG hw (fun x hx => ht x hx H2 (e.trans e2)) (fun x hx hf => he x hx H2 (e.trans e2) hf) fun D H' hD e3 hl => q D H' (fresh_back e2 hD) (e2.trans e3) hl
theorem ei_tup {p : Addr} (h : Ev tl σ H (.ref p)) (hx : SqT K H p xs) : EvI (iTup K tl) σ H xs := fun H1 e R r => h H1 e _ fun H2 e2 =>
  ⟨p, rfl, ⟨xs, ex_t (e.trans e2) hx⟩, r H2 _ (fun H => SqT K H p xs) e2 walk_tup fun H3 e3 => ex_t ((e.trans e2).trans e3) hx⟩
theorem ei_tupU (h : EvU tl σ H xs) : EvI (iTup K tl) σ H xs := fun H1 e R r => h H1 e _ fun p H2 hp e2 hx =>
  ⟨p, rfl, ⟨xs, st_of hx⟩, r H2 _ (fun H => SqT K H p xs) e2 walk_tup fun H3 e3 => ex_t e3 (st_of hx)⟩
theorem ei_list {p : Addr} (h : Ev tl σ H (.ref p)) (hx : SqL K H p xs) : EvI (iList K tl) σ H xs := fun H1 e R r => h H1 e _ fun H2 e2 =>
  ⟨p, rfl, ⟨xs, ex_l (e.trans e2) hx⟩, r H2 _ (fun H => SqL K H p xs) e2 walk_list fun H3 e3 => ex_l ((e.trans e2).trans e3) hx⟩
theorem ei_str {s : Str} (h : Ev tl σ H (.str s)) : EvI (iStr tl) σ H (s.cps.toList.map fun c => V.str ⟨#[c]⟩) := fun H1 e R r => h H1 e _ fun H2 e2 =>
  ⟨s, rfl, r H2 _ _ e2 walk_strA fun _ _ => trivial⟩
theorem ei_rng3 {ta : TA} {i j c : Int} {n : Nat} (h : EvA ta σ H [.int i, .int j, .int c]) (hr : RgC i j c n) : EvI (iRng3 ta) σ H ((List.range n).map fun k => V.int (i + (k : Nat) * c)) := fun H1 e R r => h H1 e _ fun H2 e2 =>
  ⟨i, j, c, n, rfl, hr, r H2 _ _ e2 walk_rangeCA fun _ _ => trivial⟩
theorem ep_enumS {ta : TA} {s : Str} (h : EvA ta σ H [.str s]) : EvP (iEnumS ta) σ H (enumP s) := fun H1 e R r => h H1 e _ fun H2 e2 =>
  ⟨s, rfl, r H2 _ _ e2 walk_enumSA fun _ _ => trivial⟩
theorem ev_allL {bs : List Bool} (h : EvL tl σ H (bs.map V.bl)) : Ev (tCB (rAll K) (tCons tl tNil)) σ H (.bl (bs.all id)) := fun H1 e Q q => h H1 e _ fun p H2 _ e2 hp => ⟨p, bs, rfl, sq_of hp, q H2 e2⟩
theorem rc_is {x : V} {t n : String} {b : Bool} (h : TyX K H x (.type t)) (k : kitOne K (.type t) (.type n) = some b) : RC (rIsG K) [x, .ty n] H (.bl b) :=
  fun H1 e Q q => ⟨x, _, .type t, .type n, b, rfl, .ty n, .ty (tyx_ex e h), k, q H1 (Ex.refl _)⟩
/-- f(e) where e is a new tuple, a new list -/
theorem ev_caU {sp : Sp} {W : WX} (h : EvU te σ H xs) (hs : ∀ p H1, H1 p = some (.tup xs) → SpE sp [.ref p] H1 z) : Ev (tCa sp W (tCons te tNil)) σ H z := fun H1 e Q q =>
  h H1 e _ fun p H2 _ e2 hp => hs p H2 hp H2 (Ex.refl _) Q _ fun H3 e3 => q H3 (e2.trans e3)
/-- e of a fresh list: the list goes into tuple(..) -/
theorem eu_tupL (h : EvL te σ H xs) : EvU (tCB (fun xs H Q => ∃ p ys, xs = [.ref p] ∧ ((SqL K H p ys ∧ ∀ l, H l = none → Q (.ref l) (upd H l (.tup ys))) ∨ (SqT K H p ys ∧ Q (.ref p) H))) (tCons te tNil)) σ H xs := fun H1 e Q q =>
  h H1 e _ fun p H2 _ e2 hp => ⟨p, xs, rfl, .inl ⟨sq_of hp, fun l hl => q l _ (fresh_back e2 hl) (e2.trans (Ex.new hl)) upd_same⟩⟩
/-- a.join(e) of a new list of texts -/
theorem ev_joinL {a : Str} {ys : List Str} {to : TE} (ho : Ev to σ H (.str a)) (h : EvL te σ H (ys.map V.str)) (hz : (ys.map (·.length)).sum + ys.length * a.length ≤ 16777216) :
    Ev (tM1 (fun x xs H Q => ∃ a p, ∃ ys : List Str, x = .str a ∧ xs = [.ref p] ∧ (SqL K H p (ys.map V.str) ∨ SqT K H p (ys.map V.str)) ∧ (ys.map (·.length)).sum + ys.length * a.length ≤ 16777216 ∧ Q (.str (Txt.join a ys)) H) to te) σ H (.str (Txt.join a ys)) := fun H1 e Q q =>
  ho H1 e _ fun H2 e2 => ⟨⟨a, rfl⟩, h H2 (e.trans e2) _ fun p H3 _ e3 hp => ⟨a, p, ys, rfl, rfl, .inl (sq_of hp), hz, q H3 (e2.trans e3)⟩⟩
end
end BJ

/-! slices with a step that evaluate, zip of new lists; the evens and odds -/
namespace BJ
open PySem PySem.Spec PyProof.Rows L2 Evl
open PySem.W (Frag kitOne kitAny)
section
variable {K : Frag} {σ : L2.St} {H : Hp} {z : V} {tl te : TE} {tt : TT} {wi : TI} {vs : List Nat} {xs ys : List V}
theorem pickV_len (xs : List V) (lo hi st : Option Int) (h0 : st ≠ some 0) : (pickV xs lo hi st).length ≤ xs.length := by
  have h := slicePick_size_le (items := (List.replicate xs.length Value.none).toArray) lo hi st
  have e : ∀ (l : List Nat), (l.filterMap (xs[·]?)).length = (l.filterMap ((List.replicate xs.length Value.none)[·]?)).length := by
    intro l
    induction l with
    | nil => rfl
    | cons i l ih =>
      by_cases hi : i < xs.length
      · rw [List.filterMap_cons_some (List.getElem?_eq_getElem hi), List.filterMap_cons_some (List.getElem?_eq_getElem (by simpa using hi)), List.length_cons, List.length_cons, ih]
      · rw [List.filterMap_cons_none (List.getElem?_eq_none (by omega)), List.filterMap_cons_none (List.getElem?_eq_none (by simp; omega)), ih]
  unfold pickV
  rw [e]
  have h2 : ((sliceRange (sliceBounds lo hi st (List.replicate xs.length Value.none).toArray.size).1 (sliceBounds lo hi st (List.replicate xs.length Value.none).toArray.size).2.1 (sliceBounds lo hi st (List.replicate xs.length Value.none).toArray.size).2.2).filterMap ((List.replicate xs.length Value.none).toArray[·]?)).length ≤ (List.replicate xs.length Value.none).toArray.size := h
  have e2 : (List.replicate xs.length Value.none).toArray.size = xs.length := by simp
  rw [e2] at h2
  refine Nat.le_trans (Nat.le_of_eq ?_) h2
  congr 1
  apply congrArg (fun f => List.filterMap f _)
  funext x
  exact List.getElem?_toArray.symm
theorem el_sl3 {p : Addr} {tl th ts : TO} {lo hi st : Option Int} (h : Ev te σ H (.ref p)) (h1 : EvO tl σ H lo) (h2 : EvO th σ H hi) (h3 : EvO ts σ H st) (hs : SqL K H p xs) (h0 : st ≠ some 0) (hz : xs.length ≤ 1000000) : EvL (tSl3 K te tl th ts) σ H (pickV xs lo hi st) := fun H1 e Q q =>
  h H1 e _ fun H2 e2 => h1 H2 (e.trans e2) _ fun H3 e3 => h2 H3 ((e.trans e2).trans e3) _ fun H4 e4 => h3 H4 (((e.trans e2).trans e3).trans e4) _ fun H5 e5 =>
    ⟨p, xs, rfl, ex_l ((((e.trans e2).trans e3).trans e4).trans e5) hs, h0, (by have := pickV_len xs lo hi st h0; rw [sizeLine_eq]; omega), fun D hD =>
      q D _ (fresh_back (((e2.trans e3).trans e4).trans e5) hD) ((((e2.trans e3).trans e4).trans e5).trans (Ex.new hD)) upd_same⟩
theorem ep_zip {t1 t2 : TE} (h1 : EvL t1 σ H xs) (h2 : EvL t2 σ H ys) : EvP (iZip K (tCons t1 (tCons t2 tNil))) σ H (xs.zip ys) := fun H1 e R r =>
  h1 H1 e _ fun p H2 hp e2 hx => h2 H2 (e.trans e2) _ fun q H3 hq e3 hy =>
    ⟨p, q, xs, ys, rfl, sq_of (e3 p _ hx), sq_of hy, r H3 _ _ (e2.trans e3) walk_zipA fun H4 e4 => ⟨sq_of (e4 p _ (e3 p _ hx)), sq_of (e4 q _ hy)⟩⟩
end
theorem pick_of {xs : List V} (m a : Nat) (h : ∀ k, k < m → a + 2 * k < xs.length) : ((List.range m).map fun k : Nat => a + 2 * k).filterMap (xs[·]?) = (List.range m).map fun k => xs.getD (a + 2 * k) .non := by
  rw [List.filterMap_map]
  have : ∀ l : List Nat, (∀ k ∈ l, k < m) → l.filterMap ((xs[·]?) ∘ fun k => a + 2 * k) = l.map fun k => xs.getD (a + 2 * k) .non := by
    intro l
    induction l with
    | nil => intro _; rfl
    | cons k l ih =>
      intro hk
      have := h k (hk k List.mem_cons_self)
      rw [List.filterMap_cons_some (b := xs[a + 2 * k]) (show ((fun x => xs[x]?) ∘ fun k => a + 2 * k) k = some xs[a + 2 * k] from List.getElem?_eq_getElem this), List.map_cons, ih fun j hj => hk j (List.mem_cons_of_mem _ hj)]
      congr 1
      rw [List.getD, List.getElem?_eq_getElem this]
      rfl
  exact this _ fun k hk => List.mem_range.mp hk
theorem pick_evens {xs : List V} {m : Nat} (h : xs.length = 2 * m) : pickV xs none none (some 2) = (List.range m).map fun k => xs.getD (2 * k) .non := by
  have e : sliceRange (sliceBounds none none (some 2) xs.length).1 (sliceBounds none none (some 2) xs.length).2.1 (sliceBounds none none (some 2) xs.length).2.2 = (List.range m).map fun k : Nat => 0 + 2 * k := by
    show sliceRange 0 (xs.length : Int) 2 = _
    show List.map _ (List.range (Int.toNat _)) = _
    have hc : (if (2 : Int) > 0 then (if (0 : Int) < (xs.length : Int) then ((xs.length : Int) - 0 + 2 - 1) / 2 else 0) else (if (0 : Int) > (xs.length : Int) then (0 - (xs.length : Int) - 2 - 1) / (-2) else 0)).toNat = m := by
      rw [if_pos (by decide)]
      split <;> omega
    refine (congrArg (fun n => List.map _ (List.range n)) hc).trans ?_
    apply List.map_congr_left
    intro k _
    omega
  unfold pickV
  rw [e, pick_of m 0 (fun k hk => by omega)]
  simp only [Nat.zero_add]
theorem pick_odds {xs : List V} {m : Nat} (h : xs.length = 2 * m) : pickV xs (some 1) none (some 2) = (List.range m).map fun k => xs.getD (1 + 2 * k) .non := by
  have e : sliceRange (sliceBounds (some 1) none (some 2) xs.length).1 (sliceBounds (some 1) none (some 2) xs.length).2.1 (sliceBounds (some 1) none (some 2) xs.length).2.2 = (List.range m).map fun k : Nat => 1 + 2 * k := by
    show sliceRange (max 0 (min 1 (xs.length : Int))) (xs.length : Int) 2 = _
    show List.map _ (List.range (Int.toNat _)) = _
    have hc : (if (2 : Int) > 0 then (if (max 0 (min 1 (xs.length : Int))) < (xs.length : Int) then ((xs.length : Int) - (max 0 (min 1 (xs.length : Int))) + 2 - 1) / 2 else 0) else (if (max 0 (min 1 (xs.length : Int))) > (xs.length : Int) then ((max 0 (min 1 (xs.length : Int))) - (xs.length : Int) - 2 - 1) / (-2) else 0)).toNat = m := by
      rw [if_pos (by decide)]
      split <;> omega
    refine (congrArg (fun n => List.map _ (List.range n)) hc).trans ?_
    apply List.map_congr_left
    intro k hk
    have := List.mem_range.mp hk
    omega
  unfold pickV
  rw [e, pick_of m 1 (fun k hk => by omega)]
/-- what sign, what number a value is -/
def sgn : V → Nat | .str z => z.cps.getD 0 0 | _ => 0
def num : V → Int | .int i => i | _ => 0
theorem zip_pairs (l : List Nat) (m : Nat) (h : l.length = 2 * m) :
    (((pickV ((l.map fun c => (hval c : Int)).map V.int) none none (some 2)).zip (pickV ((l.map fun c => (hval c : Int)).map V.int) (some 1) none (some 2))).map fun p => V.int (16 * num p.1 + num p.2)) = (pairs l).map V.int := by
  have hl : ((l.map fun c => (hval c : Int)).map V.int).length = 2 * m := by rw [List.length_map, List.length_map]; exact h
  rw [pick_evens hl, pick_odds hl, List.zip_map', List.map_map, ← pairs_at l m h]
  refine Eq.trans ?_ List.map_map.symm
  apply List.map_congr_left
  intro k hk
  have hk := List.mem_range.mp hk
  have g : ∀ i, i < l.length → ((l.map fun c => (hval c : Int)).map V.int).getD i .non = .int (hval (l.getD i 0)) := fun i hi => by
    rw [List.getD, List.getElem?_map, List.getElem?_map, List.getElem?_eq_getElem hi, List.getD, List.getElem?_eq_getElem hi]
    rfl
  simp only [Function.comp]
  rw [g _ (by omega), g _ (by omega), Nat.add_comm 1]
  rfl
theorem enum_wrong (z : Str) : ((enumP z).filter fun p => !hok (sgn p.2)).map (fun p => p.1) = (wrongL z.cps.toList 0).map V.int := by
  unfold enumP wrongL
  rw [List.filter_map, List.map_map, List.map_map]
  rfl
theorem signs_num (l : List Nat) : ((l.map fun c => V.str ⟨#[c]⟩).map fun v => V.int (hval (sgn v))) = (l.map fun c => (hval c : Int)).map V.int := by
  rw [List.map_map, List.map_map]
  rfl
end BJ

/-! defs called with keywords; loops that evaluate -/
namespace BJ
open PySem PySem.Spec PyProof.Rows L2 Evl
open PySem.W (Frag kitOne kitAny)
/-- positional values, then the keywords' (n and m of them) -/
def gKw (n m : Nat) {α : Type} (us ws : List α) : List α := if us.length = n ∧ ws.length = m then us ++ ws else []
section
variable {P : Program} {w : World} {K : Frag} {mg : Str → Option Value} {base : Heap}
theorem kb_of {x qual : Str} {st : Stmt} {f : Addr} {fd : FuncData} {ps ks : List Str} {n m : Nat} (F : Fun K x qual st f fd) (hne : 0 < ps.length)
    (h : ∀ (kV doc pm : Value) (an : Option Addr) (cdv ct : Value) (us ws : List Value), us.length = n → ws.length = m → bindArgs (PySem.W.fnOf x qual (defArgs st) (defBody st) (defScope st) .none kV doc pm an cdv ct) ⟨us, ks.zip ws⟩ = pure (ps.zip (us ++ ws))) :
    KBinds K fd ps ks (gKw n m) (gKw n m) := by
  obtain ⟨oc, od, kV, doc, pm, an, cdv, ct, osl, rfl, lk, hcd⟩ := F.ex
  refine ⟨fun s us ws _ hl => ?_, fun r rz => ?_⟩
  · by_cases hh : us.length = n ∧ ws.length = m
    · have e : gKw n m us ws = us ++ ws := if_pos hh
      rw [e]
      exact .of_eq (h kV doc pm an cdv ct us ws hh.1 hh.2)
    · have e : gKw n m us ws = [] := if_neg hh
      rw [e] at hl
      simp at hl
      omega
  · unfold gKw
    rw [r.length, rz.length]
    split
    · exact r.append rz
    · exact .nil
theorem fnP {x qual : Str} {st : Stmt} {f : Addr} {k : Nat} {ps : List Str} {sp : Sp} (h : ∃ fd, FnG P w K mg base k f fd ps sp ∧ Binds K fd ps [] ∧ Fun K x qual st f fd) : CallP P w K mg base k (.ref f) sp := by
  obtain ⟨fd, F, hb, _⟩ := h
  have q := F.callP (dvs := []) hb .nil
  rintro A outer s H us ws vs zs Q E room hg e0 rel relz ⟨hz, prom⟩
  exact q A outer s H us ws vs zs Q E room hg e0 rel relz ⟨hz, show sp (vs ++ []) H Q E by rw [List.append_nil]; exact prom⟩
theorem fnK {x qual : Str} {st : Stmt} {f : Addr} {k : Nat} {ps ks : List Str} {sp : Sp} {n m : Nat} (h : ∃ fd, FnG P w K mg base k f fd ps sp ∧ Binds K fd ps [] ∧ Fun K x qual st f fd) (hne : 0 < ps.length)
    (hk : ∀ (kV doc pm : Value) (an : Option Addr) (cdv ct : Value) (us ws : List Value), us.length = n → ws.length = m → bindArgs (PySem.W.fnOf x qual (defArgs st) (defBody st) (defScope st) .none kV doc pm an cdv ct) ⟨us, ks.zip ws⟩ = pure (ps.zip (us ++ ws))) :
    CallG P w K mg base k (.ref f) ks fun vs zs H Q E => sp (gKw n m vs zs) H Q E := by
  obtain ⟨fd, F, _, F2⟩ := h
  exact F.callK (kb_of F2 hne hk)
end
section
variable {K : Frag} {σ : L2.St} {H : Hp} {z : V} {tl te : TE} {tt : TT} {tb : TS} {wi : TI} {vs : List Nat} {xs : List V} {D : Ends}
/-- a for whose turns lay objects and change none; Pr: what stands of the slots -/
theorem s_forE {j : Nat} (Pr : L2.St → Prop) (hi : EvI wi σ H xs) (h0 : Pr σ)
    (hs : ∀ x ∈ xs, ∀ σ' H', Pr σ' → Ex H H' → ∀ N : L2.St → Hp → Prop, (∀ σ2 H2, Pr σ2 → Ex H' H2 → N σ2 H2) → tb { D with nx := N, ct := N, bk := D.nx } (σ'.set j (some x)) H')
    (hd : ∀ σ' H', Pr σ' → Ex H H' → D.nx σ' H') : tFor wi (gName j) tb D σ H :=
  hi H (Ex.refl H) _ fun H2 J G e w hG => for_it w (fun _ σ' H' => Pr σ' ∧ Ex H2 H') ⟨h0, Ex.refl _⟩ (fun i σ' H' _ p => hG H' p.2) (fun i x σ' H3 H4 hi p y => by
    obtain ⟨y1, y2⟩ := y
    subst y1
    exact hs x (List.mem_of_getElem? y2) σ' H4 p.1 (e.trans p.2) _ fun σ2 H2' q1 q2 => ⟨q1, p.2.trans q2⟩) fun σ' H' p => hd σ' H' p.1 (e.trans p.2)
theorem repS_eq {c n : Nat} : (repS c n).cps.toList = List.replicate n c := by simp [repS]
theorem find_rep {c : Nat} (h : hok c = true) : ∀ n, (List.replicate n c).findIdx? (fun c => !hok c) = none := fun n => by
  rw [List.findIdx?_eq_none_iff]
  intro d hd
  rw [(List.mem_replicate.mp hd).2, h]
  rfl
theorem pairs_rep (c : Nat) : ∀ m, pairs (List.replicate (2 * m) c) = List.replicate m (16 * (hval c : Int) + (hval c : Int))
  | 0 => rfl
  | m + 1 => by
    rw [show 2 * (m + 1) = 2 * m + 1 + 1 by omega, List.replicate_succ, List.replicate_succ]
    unfold pairs
    rw [pairs_rep c m, List.replicate_succ]
theorem hexL_rep (i : Int) : ∀ m, hexd (i / 16).toNat = hexd (i % 16).toNat → hexL (List.replicate m i) = List.replicate (2 * m) (hexd (i % 16).toNat)
  | 0, _ => rfl
  | m + 1, h => by
    have ih := hexL_rep i m h
    unfold hexL at ih ⊢
    rw [List.replicate_succ, List.flatMap_cons, ih, show 2 * (m + 1) = 2 * m + 1 + 1 by omega, List.replicate_succ, List.replicate_succ, h]
    rfl
theorem str_ext {x y : Str} (h : x.cps.toList = y.cps.toList) : x = y := by
  cases x with
  | mk a =>
    cases y with
    | mk b =>
      have : a = b := Array.toList_inj.mp h
      rw [this]
theorem hexS_rep (i : Int) (m : Nat) (h : hexd (i / 16).toNat = hexd (i % 16).toNat) : hexS (List.replicate m i) = repS (hexd (i % 16).toNat) (2 * m) := str_ext (by rw [hexS_tl, hexL_rep i m h, repS_eq])
end
end BJ

namespace BJ
open PySem PySem.Spec PyProof.Rows L2 Evl
open PySem.W (Frag kitOne kitAny)
section
variable {X : Cx} {K : Frag}
/-- the same rules where the Frag is named (inside a comprehension) -/
theorem op_eqD' (hK : X.K = K) (hu : X.A.units + 64 < cLine) : OpR X (compareOp .Eq) (rEqD K) := hK ▸ op_eqD hu
theorem op_neD' (hK : X.K = K) (hu : X.A.units + 64 < cLine) : OpR X (compareOp .NotEq) (rNeD K) := hK ▸ op_neD hu
theorem call_isG' (hK : X.K = K) : CallR X (.builtin "isinstance") (rIsG K) := hK ▸ call_isG
theorem call_reprQ' {k : Nat} (hK : X.K = K) (hr : Room k X.A) (hG : X.A.guards = some []) : CallR X (.builtin "repr") (rReprQ K) := hK ▸ call_reprQ hr hG
theorem ix_list' (hK : X.K = K) : IxR X (rIxL K) := hK ▸ ix_list
theorem ix_tup' (hK : X.K = K) : IxR X (rIxT K) := hK ▸ ix_tup
end
theorem dueD_rep {c n m : Nat} (hc : hok c = true) (hn : n = 2 * m) (hm : m ≤ 50000) : dueD (repS c n).cps.toList = dT (List.replicate m (16 * (hval c : Int) + (hval c : Int))) := by
  subst hn
  rw [repS_eq]
  unfold dueD due
  rw [find_rep hc, List.length_replicate]
  simp only
  rw [if_neg (by omega), if_neg (by omega), pairs_rep]
theorem dueD_big {c n : Nat} (hc : hok c = true) (hn : n % 2 = 0) (hm : 100000 < n) : dueD (repS c n).cps.toList = dL [100000] := by
  rw [repS_eq]
  unfold dueD due
  rw [find_rep hc, List.length_replicate]
  simp only
  rw [if_neg (by omega), if_pos hm]
section
variable {K : Frag} {σ : L2.St} {H : Hp} {z : V} {tl te : TE} {tt : TT} {tb tz : TS} {wi : TI} {vs : List Nat} {xs : List V} {D : Ends}
theorem q_forE {j : Nat} (Pr : L2.St → Prop) (hi : EvI wi σ H xs) (h0 : Pr σ)
    (hs : ∀ x ∈ xs, ∀ σ' H', Pr σ' → Ex H H' → ∀ N : L2.St → Hp → Prop, (∀ σ2 H2, Pr σ2 → Ex H' H2 → N σ2 H2) → tb { D with nx := N, ct := N, bk := tz D } (σ'.set j (some x)) H')
    (hd : ∀ σ' H', Pr σ' → Ex H H' → tz D σ' H') : tSeq (tFor wi (gName j) tb) tz D σ H :=
  s_forE (D := { D with nx := tz D }) Pr hi h0 hs hd
theorem rv_mulS {x : Str} {c n : Nat} (hx : x = ⟨#[c]⟩) (h2 : 2 ≤ n) (hn : n ≤ sizeLine) {H : Hp} : RV rMulS (.str x) (.int (n : Int)) H (.str (repS c n)) := fun H1 _ Q q => ⟨c, n, by rw [hx], rfl, h2, hn, q H1 (Ex.refl _)⟩
theorem eu_rep {n : Nat} {v : V} (h : Ev te σ H v) (h2 : 2 ≤ n) (hn : n ≤ 16777216) : EvU (tOp (rRep1 K) (tTup (tCons te tNil)) (tC (.int (n : Int)))) σ H (List.replicate n v) := fun H1 e Q q =>
  h H1 e _ fun H2 e2 => ⟨(by show 1 ≤ sizeLine; decide), fun p hp => ⟨p, n, v, rfl, rfl, st_of upd_same, h2, hn, fun r hr => q r _ (fresh_back (e2.trans (Ex.new hp)) hr) ((e2.trans (Ex.new hp)).trans (Ex.new hr)) upd_same⟩⟩
theorem lc_atA {J : It} {G : Hp → Prop} (w : Walk J xs.length G (YAt xs)) {j : Nat} {H1 : Hp} {Q : Addr → Hp → Prop} (f : V → Bool) (F : V → V) (hn : xs.length ≤ 1000000)
    (hG : ∀ H, Ex H1 H → G H) (hw : ∀ x, wipe ((wipe σ vs).set j (some x)) vs = wipe σ vs)
    (ht : ∀ x ∈ xs, EvT tt ((wipe σ vs).set j (some x)) H1 (f x)) (he : ∀ x ∈ xs, f x = true → Ev te ((wipe σ vs).set j (some x)) H1 (F x))
    (k : ∀ D H', H1 D = none → Ex H1 H' → H' D = some (.lst ((xs.filter f).map F)) → Q D H') :
    ∀ D, H1 D = none → ∃ W : Nat → Nat → Hp → Prop, (∃ m, W 0 m (upd H1 D (.lst []))) ∧ ∀ i m H, W i m H →
      (J.stop i H ∧ Q D H) ∨ (J.go i H ∧ ∃ Nx : Hp → Prop, (∀ H', Nx H' → ∃ m', m' < m ∧ W (i + 1) m' H') ∧ ∀ x H', J.yld i H x H' → gName j x (wipe σ vs) H' fun σ2 H2 => wipe σ2 vs = wipe σ vs ∧ tt σ2 H2 fun b H3 =>
        if b = true then te σ2 H3 fun y H4 => ∃ acc, H4 D = some (.lst acc) ∧ acc.length < sizeLine ∧ Nx (upd H4 D (.lst (acc ++ [y]))) else Nx H3) :=
  lc_at (Q := fun v H => match v with | .ref D => Q D H | _ => False) w f F hn hG hw ht he k
theorem rep_int (n : Nat) (i : Int) : List.replicate n (V.int i) = (List.replicate n i).map V.int := by rw [List.map_replicate]
end
end BJ

/-! own exceptions made with keywords; exceptions as values -/
namespace BJ
open PySem PySem.Spec Builtin Builtin.ObjectAttr
open PySem.W (Looks Frag findIn subIn nsIn typeIn keepIn codeIn hasDictIn clsIn takerIn excInitIn excOver excObj KxsFacts ksFn ksEnv ks_superIn isFn looks_findIn looks_clsIn InstAt kxs_mw)
open HandSPX
section
variable {M : Model} {A : Around} {E : Value → Shared → Prop} {h : Heap} {g : Array GenState} {d : Drawn} {t : Nat} {os : OsState}
variable {nm q : Str} {C N : Addr} {bs bm bmB : List Value} {hdct : Bool} {sn : List Str} {sub : List Value} {ab : Bool} {col : Option Bool} {dd : Option Addr} {k0 k1 k2 k3 k5 : Option Value} {B newId initId : String}
theorem check_new_kw (F : ExcBaseFacts B newId initId bmB) (hT : ∀ X : String, bm.contains (.type X) = bmB.contains (.type X)) {kw : List (Str × Value)} {Q : Unit → Shared → Prop}
    (hC : h.get? C = some (excClassObj nm q C N bs bm hdct sn sub ab col dd k0 k1 k2 k3 k5 newId)) (hq : Q () ⟨h, g, d, t, os⟩) : wpAny M A (checkBuiltinCall newId ⟨[.ref C], kw⟩) Q E ⟨h, g, d, t, os⟩ := by
  have hcont : (Value.ref C :: bm).contains (.type B) = true := by
    rw [List.contains_cons, hT, F.hasB, Bool.or_true]
  have hstar := F.noStar
  simp only [checkBuiltinCall, F.newKind, F.newSplit, F.newRow]
  repeat (first
    | refine wpAny_loadPart_at hC ?_
    | (refine wpAny_isSubtype_exc hC ?_; rw [hcont])
    | refine wpAny_staticBase_exc hC ?_
    | refine wpAny_madeBy_exc hC ?_
    | simp only [bne_self_eq_false, Bool.false_eq_true, if_false]
    | wp_step)
  exact hq
end
section
variable {prog : Program} {w : World} {A : Around} {E : Value → Shared → Prop} {R : Result → Shared → Prop} {h : Heap} {g : Array GenState} {d : Drawn} {t : Nat} {os : OsState}
variable {nm q : Str} {C N : Addr} {bs bm bmB : List Value} {hdct : Bool} {sn : List Str} {sub : List Value} {ab : Bool} {col : Option Bool} {dd : Option Addr} {k0 k1 k2 k3 k5 : Option Value} {B newId initId : String}
theorem new_kw (F : ExcBaseFacts B newId initId bmB) (hT : ∀ X : String, bm.contains (.type X) = bmB.contains (.type X)) {kw : List (Str × Value)}
    (hC : h.get? C = some (excClassObj nm q C N bs bm hdct sn sub ab col dd k0 k1 k2 k3 k5 newId))
    (hq : R (.ok (.ret (.ref (h.objs.size + 1)))) ⟨(h.push { cls := .type "tuple", data := .seq #[] }).push (excO C h.objs.size), g, d, t, os⟩) :
    codeAny (model prog w) A (.builtin newId ⟨[.ref C], kw⟩) R ⟨h, g, d, t, os⟩ := by
  have hends := F.ends
  have hcB : (Value.ref C :: bm).contains (.type B) = true := by
    rw [List.contains_cons, hT, F.hasB, Bool.or_true]
  have hcA : (Value.ref C :: bm).contains (.type "AttributeError") = false := by
    rw [List.contains_cons, hT, F.noAttr]; rfl
  have hcN : (Value.ref C :: bm).contains (.type "NameError") = false := by
    rw [List.contains_cons, hT, F.noName]; rfl
  refine codeAny_builtinAt F.entry ?_
  unfold Builtin.«BaseException.__new__»
  refine wpAt_bind ?_
  show wpAt _ _ _ (stack >>= _) _ _ _
  refine wpAt_bind (wpAt_stack fun p below => wpAt_of_wpAny ?_)
  wp_walk
  refine wpAt_of_wpAny ?_
  rw [F.owner]
  repeat (first
    | with_reducible refine wpAny_madeHere_exc F.canon hC ?_
    | with_reducible refine wpAny_loadPart_at hC ?_
    | (with_reducible refine wpAny_isSubtype_exc hC ?_; first | rw [hcB] | rw [hcA] | rw [hcN])
    | wp_step)
  show R _ _
  rw [Heap.size_push]
  exact hq
theorem type_call_kw (F : ExcBaseFacts B newId initId bmB) (hT : ∀ X : String, bm.contains (.type X) = bmB.contains (.type X)) {kw : List (Str × Value)} {fI : Addr} {Q : Fin → Shared → Prop}
    (hC : h.get? C = some (excClassObj nm q C N bs bm hdct sn sub ab col dd k0 k1 k2 k3 k5 newId))
    (hi : Looks (model prog w) h (typeLookup (.ref C) "__init__") (some (.ref fI))) (hb : ∀ self, Looks (model prog w) h (bindSpecial (.ref fI) self) (.ref fI, [self]))
    (hq : codeAny (model prog w) A (.call (.ref fI) ⟨[.ref (h.objs.size + 1)], kw⟩)
      (fun r s' => match r with | .ok (.ret v) => v = .none ∧ Q (.done (.ret (.ref (h.objs.size + 1)))) s' | .ok _ => False | .error e => E e s')
      ⟨(h.push (PySem.W.kdv_tup [])).push (excO C h.objs.size), g, d, t, os⟩) :
    wpAny (model prog w) A (Builtin.«type.__call__» ⟨[.ref C], kw⟩) Q E ⟨h, g, d, t, os⟩ := by
  repeat (first
    | with_reducible refine wpAny_loadPart_at hC ?_
    | with_reducible refine wpAny_madeBy_exc hC ?_
    | wp_step)
  refine codeAny_call_builtin_code (Code.quiet_builtin _ F.quiet) (check_new_kw F hT hC ?_)
  refine new_kw F hT hC ?_
  show wpAny _ _ _ _ _ _
  have k : ∀ b o, h.get? b = some o → ((h.push (PySem.W.kdv_tup [])).push (excO C h.objs.size)).get? b = some o := fun b o e => Heap.get?_push_of_some _ (Heap.get?_push_of_some _ e)
  have hC₁ := k _ _ hC
  have hget : ((h.push (PySem.W.kdv_tup [])).push (excO C h.objs.size)).get? (h.objs.size + 1) = some (excO C h.objs.size) := by heap_get
  have hcC : (Value.ref C :: bm).contains (.ref C) = true := by simp
  have i1 := hi.keeps k
  have b1 := (hb (.ref (h.objs.size + 1))).keeps k
  unfold isInstance
  repeat (first
    | with_reducible refine wpAny_loadPart_at hget ?_
    | (with_reducible refine wpAny_isSubtype_exc hC₁ ?_; rw [hcC])
    | wp_step)
  show wpAny _ _ (typeLookup (.ref C) _) _ _ _
  refine i1.at ?_
  refine wpAny_holding (wpAny_bind (b1.at ?_))
  refine wpAny_bind (wpAny_call (codeAny_mono hq fun r s' z => ?_))
  rcases r with e | (v | _ | _ | _)
  case error => exact z
  case ok.ret =>
    obtain ⟨rfl, z⟩ := z
    first
      | exact wpAny_pure (wpAny_pure z)
      | (wp_walk; exact z)
  all_goals exact z.elim
theorem check_tc_kw {M : Model} {E : Value → Shared → Prop} {kw : List (Str × Value)} {Q : Unit → Shared → Prop} (hC : h.get? C = some (excClassObj nm q C N bs bm hdct sn sub ab col dd k0 k1 k2 k3 k5 newId))
    (hq : Q () ⟨h, g, d, t, os⟩) : wpAny M A (checkBuiltinCall "type.__call__" ⟨[.ref C], kw⟩) Q E ⟨h, g, d, t, os⟩ := by
  have f3 := tc_sub
  have hTy : (⟨h, g, d, t, os⟩ : Shared).TypeIs (.ref C) "type" := ⟨_, hC, rfl⟩
  simp only [checkBuiltinCall, tc_kind, tc_split]
  repeat (any_goals (first
    | assumption
    | with_reducible refine wpAny_loadPart_at hC ?_
    | with_reducible refine wpAny_onRaise ?_
    | with_reducible refine wpAny_map ?_
    | wp_step))
theorem call_kw (F : ExcBaseFacts B newId initId bmB) (hT : ∀ X : String, bm.contains (.type X) = bmB.contains (.type X)) {kw : List (Str × Value)} {fI : Addr}
    (hC : h.get? C = some (excClassObj nm q C N bs bm hdct sn sub ab col dd k0 k1 k2 k3 k5 newId))
    (hi : Looks (model prog w) h (typeLookup (.ref C) "__init__") (some (.ref fI))) (hb : ∀ self, Looks (model prog w) h (bindSpecial (.ref fI) self) (.ref fI, [self]))
    (hq : codeAny (model prog w) (A.under (.builtin "type.__call__" ⟨[.ref C], kw⟩)) (.call (.ref fI) ⟨[.ref (h.objs.size + 1)], kw⟩) (PySem.W.InitBack (h.objs.size + 1) R)
      ⟨(h.push (PySem.W.kdv_tup [])).push (excO C h.objs.size), g, d, t, os⟩) :
    codeAny (model prog w) A (.call (.ref C) ⟨[], kw⟩) R ⟨h, g, d, t, os⟩ := by
  have f1 := tc_lookup
  have f2 := tc_bind (.ref C)
  have hTy : (⟨h, g, d, t, os⟩ : Shared).TypeIs (.ref C) "type" := ⟨_, hC, rfl⟩
  refine codeAny_of_tree ?_
  show wpAny _ _ (callAny (.ref C) _) _ _ _
  repeat (any_goals (first
    | assumption
    | with_reducible refine wpAny_loadPart_at hC ?_
    | wp_step))
  refine ⟨rfl, ?_⟩
  refine codeAny_call_builtin_at (Code.quiet_builtin _ (by decide +kernel)) entry_typeCall (check_tc_kw hC (type_call_kw F hT hC hi hb ?_))
  refine codeAny_mono hq fun r s' z => ?_
  rcases r with e | (v | _ | _ | _) <;> exact z
end
end BJ
namespace BJ
open PySem PySem.Spec PyProof.Rows L2 Builtin Builtin.ObjectAttr
open PySem.W (Looks Frag findIn subIn nsIn typeIn keepIn codeIn hasDictIn clsIn takerIn excInitIn excOver excObj KxsFacts ksFn ksEnv ks_superIn isFn looks_findIn looks_clsIn InstAt kxs_mw)
/-- how keywords ks bind to the fields (rev: the other way round) -/
def gR (rev : Bool) {α : Type} (ws : List α) : List α := if rev then ws.reverse else ws
theorem vals_rev : ∀ {vs : List V} {us : List Value}, Vals vs us → Vals vs.reverse us.reverse
  | _, _, .nil => .nil
  | _, _, .cons h t => by
    rw [List.reverse_cons, List.reverse_cons]
    exact (vals_rev t).append (.cons h .nil)
theorem gR_vals {rev : Bool} {vs : List V} {us : List Value} (h : Vals vs us) : Vals (gR rev vs) (gR rev us) := by
  cases rev with
  | true => exact vals_rev h
  | false => exact h
theorem gR_len {rev : Bool} {α : Type} (ws : List α) : (gR rev ws).length = ws.length := by cases rev <;> simp [gR]
structure IniKw (K : Frag) (fI : Addr) (fs ks : List Str) (rev : Bool) : Prop where
  len : ks.length = fs.length
  bind : ∀ fd, (∃ oc od osl, K.lookup fI = some ⟨oc, od, .func fd, osl⟩) → ∀ (u : Value) (ws : List Value), ws.length = fs.length → bindArgs fd ⟨[u], ks.zip ws⟩ = pure ((("self" : Str), u) :: fs.zip (gR rev ws))
section
variable {prog : Program} {w : World} {A : Around} {E : Value → Shared → Prop} {R : Result → Shared → Prop} {s : Shared} {K : Frag} {mg : Str → Option Value} {base : Heap}
  {B initId newId : String} {bm : List Value} {C fI cc cda x : Addr} {cn qual t : Str} {fs ks : List Str} {rev : Bool}
theorem err_madeK (T : ErrK prog K mg C fI cc cda B initId newId bm cn fs) (N : IniK K fI cc cda qual t fs) (N2 : IniKw K fI fs ks rev) (M0 : Mod K mg base) {ws : List Value} (hul : ws.length = fs.length)
    (kb : ∀ b o, base.get? b = some o → s.heap.get? b = some o) (hroom : A.depth + 1 < recursionLimit)
    (hq : ∀ h' tk e d, ErrMade s.heap h' e C d (putM fs (fun f => ((fs.zip (gR rev ws)).lookup f).getD .none) fun _ => none) → R (.ok (.ret (.ref e))) { s with heap := h', toks := tk }) :
    codeAny (model prog w) A (.call (.ref C) ⟨[], ks.zip ws⟩) R s := by
  have X : K.In s.heap := M0.kin.keeps kb
  obtain ⟨nm, N', qn, bs, bm', hdct, sn, sub, ab, col, dd, k0, k1, k2, k3, k5, hC, hT⟩ := PySem.W.excInit_of X T.ini
  obtain ⟨oI, hoI, hcI⟩ := err_fn T X
  obtain ⟨hp, g, dr, tk, os⟩ := s
  have old : ∀ b o, hp.get? b = some o → ((hp.push (PySem.W.kdv_tup [])).push (HandSPX.excO C hp.objs.size)).get? b = some o := fun b o e => Heap.get?_push_of_some _ (Heap.get?_push_of_some _ e)
  have hget : ((hp.push (PySem.W.kdv_tup [])).push (HandSPX.excO C hp.objs.size)).get? (hp.objs.size + 1) = some (HandSPX.excO C hp.objs.size) := by heap_get
  have hnx : K.lookup (hp.objs.size + 1) = none := by
    cases e : K.lookup (hp.objs.size + 1) with
    | none => rfl
    | some o => exact absurd (Nat.lt_of_succ_lt (Heap.lt_size (show hp.get? _ = some o from X _ _ e))) (Nat.lt_irrefl _)
  refine call_kw T.fam.FB hT hC (looks_findIn X T.iC) (fun self => PySem.W.exc_bind hoI hcI self) ?_
  refine err_init (x := hp.objs.size + 1) (t0 := hp.objs.size) (us := gR rev ws) (s := ⟨(hp.push (PySem.W.kdv_tup [])).push (HandSPX.excO C hp.objs.size), g, dr, tk, os⟩) T N M0 (by rw [gR_len, hul]) (fun b o e => old b o (kb b o e)) hget hnx ?_
    (fun fd hfd => BindsTo.of_eq (N2.bind fd hfd _ ws hul)) fun h' tk' d t1 k' dz hx n' => ?_
  · show A.depth + 1 < recursionLimit
    exact hroom
  · have dz' : hp.objs.size + 1 + 1 ≤ d := by
      have q := dz
      rw [Heap.size_push, Heap.size_push] at q
      exact q
    exact ⟨rfl, hq h' tk' (hp.objs.size + 1) d ⟨fun b o e => k' b o (Nat.ne_of_lt (Nat.lt_succ_of_lt (Heap.lt_size e))) (old b o e), Nat.le_succ _, ⟨_, hx⟩, Nat.le_trans (Nat.le_trans (Nat.le_succ _) (Nat.le_succ _)) dz', (Nat.ne_of_lt (Nat.lt_of_succ_le dz')).symm, n'⟩⟩
end
section
variable {X : Cx} {C fI cc cda : Addr} {B initId newId : String} {bm : List Value} {cn qual t : Str} {fs ks : List Str} {rev : Bool} {pins : List (Addr × Obj)} {σ : L2.St} {H : Hp} {s : Shared}
/-- a made exception is tracked -/
theorem Inv.made {h' : Heap} {a d : Addr} {tk' : Nat} {vs : List V} {us : List Value} (I : Inv X pins σ H s) (M : ErrMade s.heap h' a C d (putM fs (fun f => ((fs.zip us).lookup f).getD .none) fun _ => none)) (r : Vals vs us) (hvl : vs.length = fs.length) :
    ∃ H2, Inv X pins σ H2 { s with heap := h', toks := tk' } ∧ Evl.Ex H H2 ∧ H a = none ∧ ExcAt H2 a C d (fs.zip vs) := by
  obtain ⟨t0, ha'⟩ := M.obj
  obtain ⟨G', g1, g2⟩ := restrict h' fun b => decide (b ≠ a)
  have gk : ∀ b, b ≠ a → G'.get? b = h'.get? b := fun b hb => g1 b (decide_eq_true hb)
  have ge : G'.get? a = none := g2 a (by simp)
  have gold : ∀ b o, s.heap.get? b = some o → G'.get? b = some o := fun b o q => (gk b (Nat.ne_of_lt (Nat.lt_of_lt_of_le (Heap.lt_size q) M.new))).trans (M.keep b o q)
  have ob : ObjOk X.prog X.w (upd H d (.xd (fs.zip vs))) G' d (.xd (fs.zip vs)) := ⟨_, M.ns.at (fun o q => (gk d M.dne).trans q), relO_putM r hvl⟩
  have J : Inv X pins σ (upd H d (.xd (fs.zip vs))) { s with heap := G', toks := tk' } := I.laid (t' := tk') gold M.dnew ob
  have subs : ∀ b o, G'.get? b = some o → h'.get? b = some o := fun b o q => by
    by_cases hb : b = a
    · rw [hb, ge] at q; cases q
    · exact (gk b hb).symm.trans q
  have ha0 : H a = none := I.hok.fresh M.new
  have hd0 : H d = none := I.hok.fresh M.dnew
  have na : upd H d (.xd (fs.zip vs)) a = none := by rw [upd_ne (Ne.symm M.dne)]; exact ha0
  have J2 : Inv X pins σ (upd (upd H d (.xd (fs.zip vs))) a (ExcK a (.ref C) (some d))) { s with heap := h', toks := tk' } := J.laidN (h' := h') (t' := tk') subs ge na (excK_ok ha' ⟨rfl, rfl⟩ rfl)
  exact ⟨_, J2, (Evl.Ex.new hd0).trans (Evl.Ex.new na), ha0, upd_same, by rw [upd_ne M.dne]; exact upd_same⟩
/-- C(e, ..), the exception as a value -/
def tErrE (C : Addr) (fs : List Str) (ta : TA) : TE := fun σ H Q => ta σ H fun vs H1 => vs.length = fs.length ∧ ∀ a d H2, H1 a = none → Evl.Ex H1 H2 → ExcAt H2 a C d (fs.zip vs) → Q (.ref a) H2
theorem pe_err {e : Expr} {es : List Expr} {ta : TA} {p pos : Pos} (T : ErrK X.prog X.K X.mg C fI cc cda B initId newId bm cn fs) (N : IniK X.K fI cc cda qual t fs) (kC : keepIn X.K (.ref C) = true)
    {k : Nat} (hr : Room k X.A) (ha : PA X (e :: es) ta) (hg : Gl X cn) (hdb : (cn == ("__debug__" : Str)) = false := by decide)
    (he : starEach (e :: es) X.env = (false, eval e X.env) :: starEach es X.env := by rfl) (hpl : (backTo pos (starEach es X.env)).any (·.1) = false := by rfl) :
    PE X (.Call (.Name cn p) (e :: es) [] pos) (tErrE C fs ta) where
  run := by
    intro pins s σ H Q I h
    refine wpAny_Call_Name_kw (ld_glob I hg T.gC ?_ hdb)
    refine PySem.W.callWith_K (h₀ := X.base) I.ok.mod.kin kC (thn (ha.run pos pins s σ H _ I h) ?_) he hpl
    rintro us s1 ⟨vs, H1, I1, r1, hvl, q1⟩
    refine ⟨I1.kIn, ?_⟩
    show wpAny _ _ (call (.ref C) us) _ _ _
    have hul : us.length = fs.length := r1.length.symm.trans hvl
    have hbk := I1.bk
    refine wpAny_call (err_made T N I1.mod hul hbk (by have := hr.dp; omega) fun h' tk' a d M => ?_)
    obtain ⟨H2, J, e2, n2, at2⟩ := Inv.made (tk' := tk') I1 M r1 hvl
    exact ⟨.ref a, H2, J, rfl, q1 a d H2 n2 e2 at2⟩
/-- C(k = e, ..) -/
def tErrKw (C : Addr) (fs : List Str) (rev : Bool) (tk : TA) : TE := fun σ H Q => tk σ H fun zs H1 => zs.length = fs.length ∧ ∀ a d H2, H1 a = none → Evl.Ex H1 H2 → ExcAt H2 a C d (fs.zip (gR rev zs)) → Q (.ref a) H2
theorem pe_errK {kws : List Keyword} {tk : TA} {p pos : Pos} (T : ErrK X.prog X.K X.mg C fI cc cda B initId newId bm cn fs) (N : IniK X.K fI cc cda qual t fs) (N2 : IniKw X.K fI fs ks rev) (kC : keepIn X.K (.ref C) = true)
    {k : Nat} (hr : Room k X.A) (hkw : PK X kws tk) (hg : Gl X cn)
    (hall : (backToKw pos (keywordEach kws X.env)).all (·.1.isSome) = true := by rfl) (hks : (backToKw pos (keywordEach kws X.env)).filterMap (·.1) = ks := by rfl)
    (hdb : (cn == ("__debug__" : Str)) = false := by decide)
    (hpl : ((backTo pos (starEach [] X.env)).any (·.1) || (backToKw pos (keywordEach kws X.env)).any (·.1.isNone)) = false := by rfl) :
    PE X (.Call (.Name cn p) [] kws pos) (tErrKw C fs rev tk) where
  run := by
    intro pins s σ H Q I h
    refine wpAny_Call_Name_kw (ld_glob I hg T.gC ?_ hdb)
    refine PySem.W.callWith_KW0 (h₀ := X.base) I.ok.mod.kin kC hall (thn (hkw.run pos pins s σ H _ I h) ?_) hpl
    rintro ws s2 ⟨zs, H2, I2, rz, hvl, q2⟩
    rw [hks]
    have hul : ws.length = fs.length := rz.length.symm.trans hvl
    refine ⟨I2.kIn, wpAny_call (err_madeK T N N2 I2.mod hul I2.bk (by have := hr.dp; omega) fun h' tk' a d M => ?_)⟩
    obtain ⟨H3, J, e3, n3, at3⟩ := Inv.made (tk' := tk') I2 M (gR_vals rz) (by rw [gR_len, hvl])
    exact ⟨.ref a, H3, J, rfl, q2 a d H3 n3 e3 at3⟩
end
end BJ

/-! data with dicts in it, its repr; list.count(True) -/
namespace BJ
open PySem PySem.Spec PyProof.Rows L2 Evl
open PySem.W (Frag kitOne kitAny)
def keyD : Key → PyData
  | .inl i => .int i
  | .inr x => .str x
mutual
/-- data: atoms, lists, tuples, dicts whose keys are ints or texts -/
inductive Dz (K : Frag) (H : Hp) : V → PyData → Prop
  | non : Dz K H .non .none
  | bl (b : Bool) : Dz K H (.bl b) (.bool b)
  | int (i : Int) : Dz K H (.int i) (.int i)
  | str (x : Str) : Dz K H (.str x) (.str x)
  | lst {a : Addr} {xs : List V} {ds : List PyData} : SqL K H a xs → sysModules < a → DzAll K H xs ds → Dz K H (.ref a) (.list ds)
  | tup {a : Addr} {xs : List V} {ds : List PyData} : SqT K H a xs → DzAll K H xs ds → Dz K H (.ref a) (.tuple ds)
  | dict {a : Addr} {kvs : List (Key × V)} {ds : List PyData} : H a = some (.dK kvs) → DzAll K H (kvs.map (·.2)) ds → Dz K H (.ref a) (.dict ((kvs.map fun p => keyD p.1).zip ds))
inductive DzAll (K : Frag) (H : Hp) : List V → List PyData → Prop
  | nil : DzAll K H [] []
  | cons {v : V} {vs : List V} {d : PyData} {ds : List PyData} : Dz K H v d → DzAll K H vs ds → DzAll K H (v :: vs) (d :: ds)
end
mutual
theorem dz_ex {K : Frag} {H H' : Hp} (e : Ex H H') : ∀ {x : V} {d : PyData}, Dz K H x d → Dz K H' x d
  | _, _, .non => .non
  | _, _, .bl b => .bl b
  | _, _, .int i => .int i
  | _, _, .str x => .str x
  | _, _, .lst h1 hs h2 => .lst (ex_l e h1) hs (dzAll_ex e h2)
  | _, _, .tup h1 h2 => .tup (ex_t e h1) (dzAll_ex e h2)
  | _, _, .dict h1 h2 => .dict (e _ _ h1) (dzAll_ex e h2)
theorem dzAll_ex {K : Frag} {H H' : Hp} (e : Ex H H') : ∀ {xs : List V} {ds : List PyData}, DzAll K H xs ds → DzAll K H' xs ds
  | _, _, .nil => .nil
  | _, _, .cons h1 h2 => .cons (dz_ex e h1) (dzAll_ex e h2)
end
theorem dzAll_len {K : Frag} {H : Hp} : ∀ {xs : List V} {ds : List PyData}, DzAll K H xs ds → xs.length = ds.length
  | _, _, .nil => rfl
  | _, _, .cons _ h => by rw [List.length_cons, List.length_cons, dzAll_len h]
theorem dzAll_rep {K : Frag} {H : Hp} {x : V} {d : PyData} (h : Dz K H x d) : ∀ n, DzAll K H (List.replicate n x) (List.replicate n d)
  | 0 => .nil
  | n + 1 => .cons h (dzAll_rep h n)
theorem dz_ty {K : Frag} {H : Hp} {x : V} {d : PyData} (h : Dz K H x d) : TyX K H x (.type (tyN d)) := by
  cases h with
  | non => exact .base .non
  | bl b => exact .base (.bl b)
  | int i => exact .base (.int i)
  | str x => exact .base (.str x)
  | lst h _ _ => exact ty_lst h
  | tup h _ => exact ty_tup h
  | dict h _ => exact .base (.dK h)
theorem key_reads {h : Heap} : ∀ {es : List DictEntry} {kvs : List (Key × Value)} {P : Program} {w : World}, Pairs (mixKind P w) es kvs → ReadsAll h (es.map (·.key)) (kvs.map fun p => keyD p.1) [] ∧ es.map (·.val) = kvs.map (·.2)
  | _, _, _, _, .nil => ⟨.nil, rfl⟩
  | _, _, _, _, .cons (e := e) (kv := kv) h1 h2 h3 => by
    obtain ⟨ih1, ih2⟩ := key_reads (h := h) h3
    refine ⟨?_, by rw [List.map_cons, List.map_cons, ih2, h2]⟩
    rw [List.map_cons, List.map_cons]
    obtain ⟨k, v⟩ := kv
    have rd : Reads h e.key (keyD k) [] := by
      rcases keyIs_shape h1 with ⟨i, t, rfl, h⟩ | ⟨x, t, rfl, h⟩
      · rw [h]; exact .int i t
      · rw [h]; exact .str x t
    exact .cons (as := []) (bs := []) rd ih1
section
variable {X : Cx} {pins : List (Addr × Obj)} {σ : L2.St} {H : Hp} {s : Shared}
theorem kv_of {kvs : List (Key × V)} {vs : List (Key × Value)} (h : KV kvs vs) : kvs.map (·.1) = vs.map (·.1) ∧ Vals (kvs.map (·.2)) (vs.map (·.2)) := by
  induction h with
  | nil => exact ⟨rfl, .nil⟩
  | cons h t ih => exact ⟨by rw [List.map_cons, List.map_cons, ih.1, h.1], .cons h.2 ih.2⟩
theorem dz_go {ds : List PyData} (ih : ∀ d ∈ ds, ∀ (v : V) (u : Value), Dz X.K H v d → RelV v u → ∃ as, Reads s.heap u d as ∧ sysModules ∉ as) :
    ∀ (es : List PyData) (ws : List V) (us : List Value), (∀ d ∈ es, d ∈ ds) → DzAll X.K H ws es → Vals ws us → ∃ bs, ReadsAll s.heap us es bs ∧ sysModules ∉ bs
  | [], _, _, _, h, r => by
    cases h
    cases r
    exact ⟨_, .nil, by simp⟩
  | d :: es, _, _, hm, h, r => by
    cases h with
    | cons h1 h2 =>
      cases r with
      | cons r1 r2 =>
        obtain ⟨as, q1, n1⟩ := ih d (hm d List.mem_cons_self) _ _ h1 r1
        obtain ⟨bs, q2, n2⟩ := dz_go ih es _ _ (fun d hd => hm d (List.mem_cons_of_mem _ hd)) h2 r2
        exact ⟨_, .cons q1 q2, fun z => (List.mem_append.mp z).elim n1 n2⟩
theorem dz_reads_n (I : Inv X pins σ H s) : ∀ (n : Nat) (d : PyData), sizeOf d ≤ n → ∀ (v : V) (u : Value), Dz X.K H v d → RelV v u → ∃ as, Reads s.heap u d as ∧ sysModules ∉ as := by
  intro n
  induction n with
  | zero =>
    intro d h
    cases d <;> simp at h
  | succ n ihn =>
    intro d hn v u h r
    cases h with
    | non =>
      cases r
      exact ⟨_, Reads.none, by simp⟩
    | bl b =>
      cases r
      exact ⟨_, Reads.bool b, by simp⟩
    | int i =>
      obtain ⟨t, rfl⟩ := r
      exact ⟨_, Reads.int i t, by simp⟩
    | str x =>
      obtain ⟨t, rfl⟩ := r
      exact ⟨_, Reads.str x t, by simp⟩
    | @lst a xs ds hq hs ha =>
      cases r
      obtain ⟨its, rv, ⟨o, n, ho, hc, _, hd⟩, _⟩ := I.list hq
      obtain ⟨as, hr, hno⟩ := dz_go (fun d hd => ihn d (by have := List.sizeOf_lt_of_mem hd; simp at hn; omega)) ds _ its (fun _ h => h) ha rv
      refine ⟨_, Reads.list ho hc hd hr, fun hm => ?_⟩
      rcases List.mem_cons.mp hm with e | hm
      · exact absurd e (Nat.ne_of_lt hs)
      · exact hno hm
    | @tup a xs ds hq ha =>
      cases r
      obtain ⟨its, rv, ⟨o, ho, hc, n, hd⟩, _⟩ := I.tuple hq
      obtain ⟨as, hr, hno⟩ := dz_go (fun d hd => ihn d (by have := List.sizeOf_lt_of_mem hd; simp at hn; omega)) ds _ its (fun _ h => h) ha rv
      exact ⟨_, Reads.tuple ho hc hd hr, hno⟩
    | @dict a kvs ds hq ha =>
      cases r
      obtain ⟨_, hsys, vs, hkv, o, es, ep, h1, h2, h3, _, h5, _⟩ := (show ObjOk X.prog X.w H s.heap a (.dK kvs) from I.hok a _ hq)
      obtain ⟨k1, k2⟩ := kv_of hkv
      obtain ⟨r1, r2⟩ := key_reads (h := s.heap) h5
      have hl : kvs.length = ds.length := by rw [← dzAll_len ha, List.length_map]
      have e1 : (((kvs.map fun p => keyD p.1).zip ds).map (·.1)) = vs.map fun p => keyD p.1 := by
        rw [List.map_fst_zip (by rw [List.length_map]; omega)]
        have := congrArg (List.map keyD) k1
        rw [List.map_map, List.map_map] at this
        exact this
      have e2 : (((kvs.map fun p => keyD p.1).zip ds).map (·.2)) = ds := List.map_snd_zip (by rw [List.length_map]; omega)
      have hsz : ∀ d ∈ ds, sizeOf d ≤ n := fun d hd => by
        have m1 : d ∈ ((kvs.map fun p => keyD p.1).zip ds).map (·.2) := by rw [e2]; exact hd
        obtain ⟨p, hp, rfl⟩ := List.mem_map.mp m1
        have := List.sizeOf_lt_of_mem hp
        obtain ⟨p1, p2⟩ := p
        simp only [PyData.dict.sizeOf_spec, Prod.mk.sizeOf_spec] at this hn
        show sizeOf p2 ≤ n
        omega
      obtain ⟨bs, q2, n2⟩ := dz_go (fun d hd => ihn d (hsz d hd)) ds _ _ (fun _ h => h) ha k2
      refine ⟨_, Reads.dict (as := []) (bs := bs) h1 h2.1 h3 (by rw [e1]; exact r1) (by rw [e2, r2]; exact q2), fun hm => ?_⟩
      rcases List.mem_cons.mp hm with e | hm
      · rw [← e] at hsys
        simp at hsys
      · exact n2 (by simpa using hm)
theorem dz_reads (I : Inv X pins σ H s) (d : PyData) (v : V) (u : Value) (h : Dz X.K H v d) (r : RelV v u) : ∃ as, Reads s.heap u d as ∧ sysModules ∉ as := dz_reads_n I _ d (Nat.le_refl _) v u h r
end
/-- what repr asks of data, dicts among it -/
structure ShowsZ (d : PyData) : Prop where
  s : d.showable = true
  p : d.depth ≤ 40
  z : d.shown.length ≤ sizeLine
section
variable {X : Cx} {K : Frag}
def rReprZ (K : Frag) : List V → Hp → VK → Prop := fun xs H Q => ∃ (x : V) (d : PyData), xs = [x] ∧ Dz K H x d ∧ ShowsZ d ∧ Q (.str d.shown) H
theorem call_reprZ {k : Nat} (hK : X.K = K) (hr : Room k X.A) (hG : X.A.guards = some []) : CallR X (.builtin "repr") (rReprZ K) := by
  subst hK
  rintro pins s σ H xs us Q I r ⟨x, d, rfl, hd, sh, q⟩
  obtain ⟨u, rfl, r1⟩ := vals1 r
  obtain ⟨as, hrd, hn⟩ := dz_reads I d x u hd r1
  have fin : ∀ (h' : Heap) (t : Tok) (tk : Nat), (∀ b o, s.heap.get? b = some o → h'.get? b = some o) → EP X pins σ Q (.str d.shown t) { s with heap := h', toks := tk } := fun h' t tk kk => ⟨.str d.shown, H, I.kept (t' := tk) kk, ⟨t, rfl⟩, q⟩
  have hsz := sh.z
  have hdep := sh.p
  cases hrd with
  | none => exact PySem.P.repr_of_none (by simpa [PyData.shown] using fin s.heap _ _ fun _ _ e => e)
  | bool b => exact PySem.P.repr_of_bool (by cases b <;> simpa [PyData.shown] using fin s.heap _ _ fun _ _ e => e)
  | int i t => exact PySem.P.repr_of_int (by simpa [PyData.showable] using sh.s) (by simpa [PyData.shown] using fin s.heap _ _ fun _ _ e => e)
  | str y t => exact PySem.P.repr_of_str (by simpa [PyData.shown] using fin s.heap _ _ fun _ _ e => e) (by simpa [PyData.shown] using hsz)
  | list h1 h2 h3 h4 => exact repr_of_reads' (.list h1 h2 h3 h4) sh.s (fun _ => hn) hG (by have := hr.un; omega) (fun _ _ e => e) (fun h' t tk kk => fin h' t tk kk) hsz
  | tuple h1 h2 h3 h4 => exact repr_of_reads' (.tuple h1 h2 h3 h4) sh.s (fun _ => hn) hG (by have := hr.un; omega) (fun _ _ e => e) (fun h' t tk kk => fin h' t tk kk) hsz
  | dict h1 h2 h3 h4 h5 => exact repr_of_reads' (.dict h1 h2 h3 h4 h5) sh.s (fun _ => hn) hG (by have := hr.un; omega) (fun _ _ e => e) (fun h' t tk kk => fin h' t tk kk) hsz

/-! ### bs.count(b), a list of bools -/
def eqb (k : Bool) (v : Value) : Bool := match v with
  | .bool n => n == k
  | _ => false
theorem bools_of_vals : ∀ {bs : List Bool} {us : List Value}, Vals (bs.map V.bl) us → us = bs.map Value.bool
  | [], _, h => by cases h; rfl
  | b :: bs, _, .cons h t => by
    cases (show _ = Value.bool b from h)
    rw [bools_of_vals t]
    rfl
theorem eqb_count (k : Bool) : ∀ bs : List Bool, (bs.map Value.bool).countP (eqb k) = bs.count k
  | [] => rfl
  | b :: bs => by
    rw [List.map_cons, List.countP_cons, List.count_cons, eqb_count k bs]
    rfl
def rCntB (K : Frag) : V → List V → Hp → VK → Prop := fun x xs H Q => ∃ (p : Addr) (bs : List Bool) (k : Bool), x = .ref p ∧ xs = [.bl k] ∧ SqL K H p (bs.map V.bl) ∧ Q (.int (bs.count k : Nat)) H
theorem mt_bcount : MtR X "list.count" (rCntB X.K) := by
  intro pins s σ H x xs v us Q I rx rxs h
  obtain ⟨p, bs, k, rfl, rfl, hs, q⟩ := h
  cases rx
  obtain ⟨u, rfl, ru⟩ := rxs.one
  cases (show u = Value.bool k from ru)
  obtain ⟨its, rv, ⟨⟨cls, dd, data, sl⟩, n, ho, hc, hdn, hd⟩, hlen⟩ := I.list hs
  simp only at hc hd
  subst hc hd
  have hi := bools_of_vals rv
  subst hi
  refine call_meets PySem.F.slot_list_count ⟨_, ho, rfl⟩ PySem.F.entry_list_count (PySem.F.args_list_count_2 _ _)
    (SeqAt.list_countAt p (bs.map Value.bool).toArray n dd sl (.bool k) (eqb k)) ⟨ho, fun y hy => ?_, ?_⟩
  · have hy' : y ∈ bs.map Value.bool := by simpa using hy
    obtain ⟨b, _, rfl⟩ := List.mem_map.mp hy'
    exact SeqAt.EqAt.bool_bool b k
  · refine ⟨.int (bs.count k : Nat), H, I.tok _, ⟨s.toks, ?_⟩, q⟩
    show Value.int (((bs.map Value.bool).toArray.toList.countP (eqb k) : Nat) : Int) s.toks = Value.int ((bs.count k : Nat) : Int) s.toks
    rw [show (bs.map Value.bool).toArray.toList = bs.map Value.bool from rfl, eqb_count]
end
end BJ

/-! lists of exceptions -/
namespace BJ
open PySem PySem.Spec PyProof.Rows L2 Evl
open PySem.W (Frag kitOne kitAny)
theorem excAt_ex {H H' : Hp} (e : Ex H H') {a C d : Addr} {fs : List (Str × V)} (h : ExcAt H a C d fs) : ExcAt H' a C d fs := ⟨e _ _ h.1, e _ _ h.2⟩
/-- the values vs are exceptions of the classes cs, their fields in turn the values ws -/
inductive EL (H : Hp) (ws : List V) : List (Addr × List Str) → List V → Prop
  | nil : EL H ws [] []
  | cons {C : Addr} {fs : List Str} {cs : List (Addr × List Str)} {e d : Addr} {vs : List V} : ExcAt H e C d (fs.zip ws) → EL H ws cs vs → EL H ws ((C, fs) :: cs) (.ref e :: vs)
theorem EL.mono {H H' : Hp} {ws : List V} (x : Ex H H') {cs : List (Addr × List Str)} {vs : List V} (h : EL H ws cs vs) : EL H' ws cs vs := by
  induction h with
  | nil => exact .nil
  | cons h t ih => exact .cons (excAt_ex x h) ih
theorem EL.append {H : Hp} {ws : List V} {cs cs' : List (Addr × List Str)} {vs vs' : List V} (h : EL H ws cs vs) (h' : EL H ws cs' vs') : EL H ws (cs ++ cs') (vs ++ vs') := by
  induction h with
  | nil => exact h'
  | cons h t ih => exact .cons h ih
theorem EL.length {H : Hp} {ws : List V} {cs : List (Addr × List Str)} {vs : List V} (h : EL H ws cs vs) : vs.length = cs.length := by
  induction h with
  | nil => rfl
  | cons h t ih => rw [List.length_cons, List.length_cons, ih]
theorem EL.get {H : Hp} {ws : List V} {cs : List (Addr × List Str)} {vs : List V} (h : EL H ws cs vs) : ∀ (i : Nat) (C : Addr) (fs : List Str), cs[i]? = some (C, fs) → ∃ e d, vs[i]? = some (.ref e) ∧ ExcAt H e C d (fs.zip ws) := by
  induction h with
  | nil => intro i C fs h; simp at h
  | cons h t ih =>
    intro i C fs hi
    cases i with
    | zero =>
      simp at hi
      obtain ⟨rfl, rfl⟩ := hi
      exact ⟨_, _, rfl, h⟩
    | succ i =>
      simp only [List.getElem?_cons_succ] at hi
      exact ih i C fs hi
section
variable {K : Frag} {σ : L2.St} {H : Hp} {te : TE} {ta tr : TA} {ws : List V} {cs cs' : List (Addr × List Str)}
def EvAE (ta : TA) (σ : L2.St) (H : Hp) (ws : List V) (cs : List (Addr × List Str)) : Prop := ∀ H1, Ex H H1 → ∀ Q : List V → Hp → Prop, (∀ vs H2, Ex H1 H2 → EL H2 ws cs vs → Q vs H2) → ta σ H1 Q
def EvLE (te : TE) (σ : L2.St) (H : Hp) (ws : List V) (cs : List (Addr × List Str)) : Prop := ∀ H1, Ex H H1 → ∀ Q : VK, (∀ p vs H2, Ex H1 H2 → H2 p = some (.lst vs) → EL H2 ws cs vs → Q (.ref p) H2) → te σ H1 Q
theorem eae_nil : EvAE tNil σ H ws [] := fun H1 _ _ q => q [] H1 (Ex.refl _) .nil
/-- C(x, ..), then the rest: the values given are the first of ws -/
theorem eae_cons {C : Addr} {fs : List Str} {zs : List V} (h : EvA ta σ H zs) (hl : zs.length = fs.length) (hz : fs.zip zs = fs.zip ws) (hr : EvAE tr σ H ws cs) : EvAE (tCons (tErrE C fs ta) tr) σ H ws ((C, fs) :: cs) := fun H1 e Q q =>
  h H1 e _ fun H2 e2 => ⟨hl, fun a d H3 ha e3 hat => hr H3 ((e.trans e2).trans e3) _ fun vs H4 e4 el => q _ H4 ((e2.trans e3).trans e4) (.cons (excAt_ex e4 (hz ▸ hat)) el)⟩
theorem ele_lst (h : EvAE ta σ H ws cs) (hl : cs.length ≤ 100000) : EvLE (tLst ta) σ H ws cs := fun H1 e Q q =>
  h H1 e _ fun vs H2 e2 el => ⟨sz_of (by rw [el.length]; exact hl), fun p hp => q p vs _ (e2.trans (Ex.new hp)) upd_same (el.mono (Ex.new hp))⟩
theorem ele_cat {t1 t2 : TE} (h1 : EvLE t1 σ H ws cs) (h2 : EvLE t2 σ H ws cs') (hl : cs.length + cs'.length ≤ 100000) : EvLE (tOp (rCatS K) t1 t2) σ H ws (cs ++ cs') := fun H1 e Q q =>
  h1 H1 e _ fun p vs H2 e2 hp el => h2 H2 (e.trans e2) _ fun p' vs' H3 e3 hp' el' => ⟨p, p', vs, vs', rfl, rfl, .inl (.inl (e3 _ _ hp)), .inl (.inl hp'), sz_of (by rw [el.length, el'.length]; exact hl), fun l hl' =>
    q l _ _ ((e2.trans e3).trans (Ex.new hl')) upd_same (((el.mono e3).append el').mono (Ex.new hl'))⟩
theorem ele_var {i : Nat} {p : Addr} {vs : List V} (h : σ[i]? = some (some (.ref p))) (hp : H p = some (.lst vs)) (el : EL H ws cs vs) : EvLE (tVar i) σ H ws cs := fun H1 e Q q => ⟨_, h, q p vs H1 (Ex.refl _) (e _ _ hp) (el.mono e)⟩
/-- list + list that evaluate -/
theorem el_cat {t1 t2 : TE} {xs ys : List V} (h1 : EvL t1 σ H xs) (h2 : EvL t2 σ H ys) (hl : xs.length + ys.length ≤ 100000) : EvL (tOp (rCatS K) t1 t2) σ H (xs ++ ys) := fun H1 e Q q =>
  h1 H1 e _ fun p H2 n2 e2 hp => h2 H2 (e.trans e2) _ fun p' H3 n3 e3 hp' => ⟨p, p', xs, ys, rfl, rfl, .inl (.inl (e3 _ _ hp)), .inl (.inl hp'), sz_of hl, fun l hl' => q l _ (fresh_back (e2.trans e3) hl') ((e2.trans e3).trans (Ex.new hl')) upd_same⟩
/-- a variable that holds a list, as the first of a sum -/
theorem el_catV {t2 : TE} {i : Nat} {p : Addr} {xs ys : List V} (h : σ[i]? = some (some (.ref p))) (hp : H p = some (.lst xs)) (h2 : EvL t2 σ H ys) (hl : xs.length + ys.length ≤ 100000) : EvL (tOp (rCatS K) (tVar i) t2) σ H (xs ++ ys) := fun H1 e Q q =>
  ⟨_, h, h2 H1 e _ fun p' H3 n3 e3 hp' => ⟨p, p', xs, ys, rfl, rfl, .inl (.inl (e3 _ _ (e _ _ hp))), .inl (.inl hp'), sz_of hl, fun l hl' => q l _ (fresh_back e3 hl') (e3.trans (Ex.new hl')) upd_same⟩⟩
/-- isinstance(e, C) of a held exception -/
theorem rc_isE {e C D d : Addr} {fs : List (Str × V)} {b : Bool} (h : ExcAt H e C d fs) (R : ErrR K C) (k : kitOne K (.ref C) (.ref D) = some b) : RC (rIsG K) [.ref e, .ref D] H (.bl b) :=
  fun H1 x Q q => ⟨_, _, .ref C, .ref D, b, rfl, .own D, .exc (excAt_ex x h) R, k, q H1 (Ex.refl _)⟩
theorem rc_isEt {e C d : Addr} {n : String} {fs : List (Str × V)} {b : Bool} (h : ExcAt H e C d fs) (R : ErrR K C) (k : kitOne K (.ref C) (.type n) = some b) : RC (rIsG K) [.ref e, .ty n] H (.bl b) :=
  fun H1 x Q q => ⟨_, _, .ref C, .type n, b, rfl, .ty n, .exc (excAt_ex x h) R, k, q H1 (Ex.refl _)⟩
/-- e.f -/
theorem ev_exf {e C d : Addr} {f : Str} {fs : List (Str × V)} {v : V} (he : Ev te σ H (.ref e)) (h : ExcAt H e C d fs) (R : ErrR K C) (nf : PySem.W.findIn K (.ref C) f = some none) (hl : fs.lookup f = some v) : Ev (tExf K te f) σ H v := fun H1 x Q q =>
  he H1 x _ fun H2 x2 => ⟨e, C, d, fs, v, rfl, excAt_ex (x.trans x2) h, R, nf, hl, q H2 x2⟩
end
end BJ

/-! new lists of which it is known that they are not the modules' dict -/
namespace BJ
open PySem PySem.Spec PyProof.Rows L2 Evl
open PySem.W (Frag kitOne kitAny)
section
variable {X : Cx}
/-- list + list -/
def rCatN (K : Frag) : R2 := fun x y H Q => ∃ l b xs zs, x = .ref l ∧ y = .ref b ∧ Scr K H l xs ∧ Scr K H b zs ∧ xs.length + zs.length ≤ sizeLine ∧ ∀ p, H p = none → sysModules < p → Q (.ref p) (upd H p (.lst (xs ++ zs)))
theorem op_catN : OpR X (binaryOp .Add) (rCatN X.K) := by
  rintro pins s σ H x y v u Q I rx ry ⟨l, b, xs, zs, rfl, rfl, hH, hB, hz, q⟩
  cases rx
  cases ry
  obtain ⟨its, n, r, e, hl⟩ := hH.at I
  obtain ⟨its2, n2, r2, e2, hl2⟩ := hB.at I
  have q1 := r.length
  have q2 := r2.length
  refine PySem.P.add_list e e2 ?_ (by rw [List.size_toArray, List.size_toArray]; omega)
  rw [show its.toArray ++ its2.toArray = (its ++ its2).toArray from by simp]
  exact ⟨.ref _, _, I.lnew (t' := s.toks) (r.append r2) (by rw [List.length_append]; omega), rfl, q _ I.fresh I.big⟩
/-- [..] -/
def tLstN (t : TA) : TE := fun σ H Q => t σ H fun xs H1 => xs.length ≤ sizeLine ∧ ∀ p, H1 p = none → sysModules < p → Q (.ref p) (upd H1 p (.lst xs))
theorem pe_lstN {es : List Expr} {t : TA} {pos : Pos} (h : PA X es t) : PE X (.List es pos) (tLstN t) where
  run := by
    intro pins s σ H Q I hq
    refine wpAny_List_spliced (thn (h.run pos pins s σ H _ I hq) ?_)
    rintro us s1 ⟨xs, H1, I1, r, z, q⟩
    refine ⟨by rw [← r.length]; exact z, ?_⟩
    refine ⟨.ref s1.heap.objs.size, upd H1 s1.heap.objs.size (.lst xs), I1.laid (t' := s1.toks) (fun b u e => Heap.get?_push_of_some _ e) (Nat.le_refl _) ?_, rfl, q _ (I1.hok.fresh (Nat.le_refl _)) I1.big⟩
    exact ⟨z, us, 0, r, Heap.get?_push_size _ rfl⟩
/-- [x] * n -/
def rRepN : R2 := fun x y H Q => ∃ (l : Addr) (n : Nat) (v : V), x = .ref l ∧ y = .int (n : Int) ∧ H l = some (.lst [v]) ∧ n ≤ 1000000 ∧ ∀ p, H p = none → sysModules < p → Q (.ref p) (upd H p (.lst (List.replicate n v)))
theorem op_repN : OpR X (binaryOp .Mult) rRepN := by
  rintro pins s σ H x y v u Q I rx ry ⟨l, m, w, rfl, rfl, hH, hm, q⟩
  cases rx
  obtain ⟨t, rfl⟩ := ry
  obtain ⟨z, its, n, r, hl, e⟩ := I.lstM hH
  have h1 : (1 : Nat) = its.length := hl
  obtain ⟨k, hk⟩ : ∃ k : Int, k = (m : Int) := ⟨_, rfl⟩
  have hkm : k.toNat = m := by omega
  rw [← hk]
  have hms : its.toArray.size * k.toNat ≤ sizeLine := by
    rw [List.size_toArray, ← h1, hkm, sizeLine_eq]
    omega
  have c1 : ¬ (!Builtin.List.listFitsIndex k) = true := by
    rw [fitsIndex_both (by omega) (by omega)]
    exact Bool.false_ne_true
  have c2 : ¬ its.toArray.size * k.toNat > (2 ^ 63 - 1) / 8 := by
    rw [List.size_toArray, ← h1, hkm]
    omega
  have c3 : ¬ Builtin.List.listTooLong (its.toArray.size * k.toNat) = true := by
    rw [notLongL hms]
    exact Bool.false_ne_true
  have ez : List.foldl (fun x1 x2 => x1 ++ x2) #[] (List.replicate (if its.toArray.isEmpty = true then 0 else k.toNat) its.toArray) = (List.replicate m its).flatten.toArray := by
    cases its with
    | nil => simp at h1
    | cons a r' => rw [if_neg (by simp), size_rep, hkm]
  refine wpAny_binaryOp_repeat_ref (T := "list") (U := "int") (by decide) ⟨_, e, rfl⟩ (fun s' => typeIs_int s' k t) noFill_list_mul F.fills_int_mul F.slot_int_rmul repeat_list F.slot_int_index.lookup
    (call_meets F.slot_int_rmul (typeIs_int s k t) F.entry_int_rmul (F.args_int_rmul_2 _ _)
      (int___rmul___int_list k t l its.toArray n) ⟨e, rfl, ⟨_, e, rfl⟩, call_meets F.slot_list_mul ⟨_, e, rfl⟩ F.entry_list_mul (F.args_list_mul_2 _ _)
        (AutoListH.list___mul___list_int_3 l its.toArray n k t c1 c2 c3) ⟨e, ?_⟩⟩)
  rw [ez]
  have rr : Vals (List.replicate m w) (List.replicate m its).flatten := by
    cases r with
    | cons rw' rn =>
      cases rn
      rw [flat1]
      exact vals_rep rw' m
  exact ⟨.ref _, _, I.lnew (t' := s.toks) rr (by rw [List.length_replicate]; rw [List.size_toArray, ← h1, hkm] at hms; omega), rfl, q _ I.fresh I.big⟩
end
section
variable {K : Frag} {σ : L2.St} {H : Hp} {te : TE}
def EvLN (te : TE) (σ : L2.St) (H : Hp) (xs : List V) : Prop := ∀ H1, Ex H H1 → ∀ Q : VK, (∀ p H2, H1 p = none → sysModules < p → Ex H1 H2 → H2 p = some (.lst xs) → Q (.ref p) H2) → te σ H1 Q
theorem eln_catV {t2 : TE} {i : Nat} {p : Addr} {xs ys : List V} (h : σ[i]? = some (some (.ref p))) (hp : H p = some (.lst xs)) (h2 : EvL t2 σ H ys) (hl : xs.length + ys.length ≤ 100000) : EvLN (tOp (rCatN K) (tVar i) t2) σ H (xs ++ ys) := fun H1 e Q q =>
  ⟨_, h, h2 H1 e _ fun p' H3 n3 e3 hp' => ⟨p, p', xs, ys, rfl, rfl, .inl (.inl (e3 _ _ (e _ _ hp))), .inl (.inl hp'), sz_of hl, fun l hl' hs => q l _ (fresh_back e3 hl') hs (e3.trans (Ex.new hl')) upd_same⟩⟩
theorem EvLN.l {xs : List V} (h : EvLN te σ H xs) : EvL te σ H xs := fun H1 e Q q => h H1 e Q fun p H2 n _ e2 hp => q p H2 n e2 hp
/-- [x] * n -/
theorem eln_rep {n : Nat} {v : V} (h : Ev te σ H v) (hn : n ≤ 1000000) : EvLN (tOp rRepN (tLst (tCons te tNil)) (tC (.int (n : Int)))) σ H (List.replicate n v) := fun H1 e Q q =>
  h H1 e _ fun H2 e2 => ⟨(by show 1 ≤ sizeLine; decide), fun p hp => ⟨p, n, v, rfl, rfl, upd_same, hn, fun r hr hs => q r _ (fresh_back (e2.trans (Ex.new hp)) hr) hs ((e2.trans (Ex.new hp)).trans (Ex.new hr)) upd_same⟩⟩
end
end BJ

namespace BJL
open PySem PySem.Spec PyProof.Rows L2 BJ
def topS (i : Nat) : Stmt := PySem.Challenge.pw_brinejar_k01_error_classes.main.body.getD i (.Pass ⟨0, 0, 0, 0⟩)
abbrev s__law_begin : Stmt := topS 32
theorem sc__law_begin : FnScope ["script"] ["script"] (defScope s__law_begin) := ⟨rfl, rfl, rfl, by decide +kernel, rfl, by decide +kernel, by decide +kernel⟩
abbrev s__law_mixed : Stmt := topS 33
theorem sc__law_mixed : FnScope ["cell", "k", "mixed"] ["cell", "k"] (defScope s__law_mixed) := ⟨rfl, rfl, rfl, by decide +kernel, rfl, by decide +kernel, by decide +kernel⟩
abbrev s__law_next : Stmt := topS 34
theorem sc__law_next : FnScope ["draw", "bound", "found", "cells", "cell"] ["draw", "bound"] (defScope s__law_next) := ⟨rfl, rfl, rfl, by decide +kernel, rfl, by decide +kernel, by decide +kernel⟩
abbrev s__law_made : Stmt := topS 35
theorem sc__law_made : FnScope ["what", "first", "second"] ["what"] (defScope s__law_made) := ⟨rfl, rfl, rfl, by decide +kernel, rfl, by decide +kernel, by decide +kernel⟩
abbrev s__law_kinds : Stmt := topS 36
theorem sc__law_kinds : FnScope ["e", "found"] ["e"] (defScope s__law_kinds) := ⟨rfl, rfl, rfl, by decide +kernel, rfl, by decide +kernel, by decide +kernel⟩
abbrev s__law_families_right : Stmt := topS 37
theorem sc__law_families_right : FnScope ["made", "at", "spot", "group", "e", "kinds", "own", "other", "k"] ["made"] (defScope s__law_families_right) := ⟨rfl, rfl, rfl, by decide +kernel, rfl, by decide +kernel, by decide +kernel⟩
abbrev s__law_fields : Stmt := topS 38
theorem sc__law_fields : FnScope ["made", "first", "second", "third", "found"] ["made"] (defScope s__law_fields) := ⟨rfl, rfl, rfl, by decide +kernel, rfl, by decide +kernel, by decide +kernel⟩
abbrev s__law_named : Stmt := topS 39
theorem sc__law_named : FnScope ["what", "found"] ["what"] (defScope s__law_named) := ⟨rfl, rfl, rfl, by decide +kernel, rfl, by decide +kernel, by decide +kernel⟩
abbrev s_law : Stmt := topS 40
theorem sc_law : FnScope ["script", "draw", "turn", "many", "what", "told", "last"] ["script"] (defScope s_law) := ⟨rfl, rfl, rfl, by decide +kernel, rfl, by decide +kernel, by decide +kernel⟩
structure Adr where
  _law_begin : Addr
  _law_mixed : Addr
  _law_next : Addr
  _law_made : Addr
  _law_kinds : Addr
  _law_families_right : Addr
  _law_fields : Addr
  _law_named : Addr
  law : Addr
  JarError : Addr
  InvalidValue : Addr
  InvalidNumbers : Addr
  InvalidKey : Addr
  InvalidIndex : Addr
  InvalidBrand : Addr
  InvalidTakes : Addr
  InvalidVersion : Addr
  InvalidStream : Addr
  InvalidLabel : Addr
  InvalidReduction : Addr
  InvalidMade : Addr
  InvalidRow : Addr
  InvalidName : Addr
  InvalidEdit : Addr
  InvalidText : Addr
  Refused : Addr
  NotCanonical : Addr
  StateError : Addr
  TooDeep : Addr
  TooLong : Addr
  SelfArgument : Addr
  KeyTaken : Addr
  BrandTaken : Addr
  Full : Addr
  MissingError : Addr
  UnknownBrand : Addr
  NoEntry : Addr
  NoName : Addr
  NothingToUndo : Addr
  InvalidValue_i : Addr
  InvalidValue_c : Addr
  InvalidValue_d : Addr
  InvalidNumbers_i : Addr
  InvalidNumbers_c : Addr
  InvalidNumbers_d : Addr
  InvalidKey_i : Addr
  InvalidKey_c : Addr
  InvalidKey_d : Addr
  InvalidIndex_i : Addr
  InvalidIndex_c : Addr
  InvalidIndex_d : Addr
  InvalidBrand_i : Addr
  InvalidBrand_c : Addr
  InvalidBrand_d : Addr
  InvalidTakes_i : Addr
  InvalidTakes_c : Addr
  InvalidTakes_d : Addr
  InvalidVersion_i : Addr
  InvalidVersion_c : Addr
  InvalidVersion_d : Addr
  InvalidStream_i : Addr
  InvalidStream_c : Addr
  InvalidStream_d : Addr
  InvalidLabel_i : Addr
  InvalidLabel_c : Addr
  InvalidLabel_d : Addr
  InvalidReduction_i : Addr
  InvalidReduction_c : Addr
  InvalidReduction_d : Addr
  InvalidMade_i : Addr
  InvalidMade_c : Addr
  InvalidMade_d : Addr
  InvalidRow_i : Addr
  InvalidRow_c : Addr
  InvalidRow_d : Addr
  InvalidName_i : Addr
  InvalidName_c : Addr
  InvalidName_d : Addr
  InvalidEdit_i : Addr
  InvalidEdit_c : Addr
  InvalidEdit_d : Addr
  InvalidText_i : Addr
  InvalidText_c : Addr
  InvalidText_d : Addr
  Refused_i : Addr
  Refused_c : Addr
  Refused_d : Addr
  NotCanonical_i : Addr
  NotCanonical_c : Addr
  NotCanonical_d : Addr
  TooDeep_i : Addr
  TooDeep_c : Addr
  TooDeep_d : Addr
  TooLong_i : Addr
  TooLong_c : Addr
  TooLong_d : Addr
  SelfArgument_i : Addr
  SelfArgument_c : Addr
  SelfArgument_d : Addr
  KeyTaken_i : Addr
  KeyTaken_c : Addr
  KeyTaken_d : Addr
  BrandTaken_i : Addr
  BrandTaken_c : Addr
  BrandTaken_d : Addr
  Full_i : Addr
  Full_c : Addr
  Full_d : Addr
  UnknownBrand_i : Addr
  UnknownBrand_c : Addr
  UnknownBrand_d : Addr
  NoEntry_i : Addr
  NoEntry_c : Addr
  NoEntry_d : Addr
  NoName_i : Addr
  NoName_c : Addr
  NoName_d : Addr
  NothingToUndo_i : Addr
  NothingToUndo_c : Addr
  NothingToUndo_d : Addr
structure Txt (P : Program) (K : PySem.W.Frag) (mg : Str → Option Value) (a : Adr) : Prop where
  b_IndexError : mg "IndexError" = none
  b_KeyError : mg "KeyError" = none
  b_LookupError : mg "LookupError" = none
  b_NotImplementedError : mg "NotImplementedError" = none
  b_RuntimeError : mg "RuntimeError" = none
  b_ValueError : mg "ValueError" = none
  b_enumerate : mg "enumerate" = none
  b_isinstance : mg "isinstance" = none
  b_len : mg "len" = none
  b_min : mg "min" = none
  b_range : mg "range" = none
  b_repr : mg "repr" = none
  b_super : mg "super" = none
  g__law_begin : mg "_law_begin" = some (.ref a._law_begin)
  k__law_begin : PySem.W.keepIn K (.ref a._law_begin) = true
  d__law_begin : DefAt K "_law_begin" "_law_begin" s__law_begin a._law_begin ["script"]
  g__law_mixed : mg "_law_mixed" = some (.ref a._law_mixed)
  k__law_mixed : PySem.W.keepIn K (.ref a._law_mixed) = true
  d__law_mixed : DefAt K "_law_mixed" "_law_mixed" s__law_mixed a._law_mixed ["cell", "k"]
  g__law_next : mg "_law_next" = some (.ref a._law_next)
  k__law_next : PySem.W.keepIn K (.ref a._law_next) = true
  d__law_next : DefAt K "_law_next" "_law_next" s__law_next a._law_next ["draw", "bound"]
  g__law_made : mg "_law_made" = some (.ref a._law_made)
  k__law_made : PySem.W.keepIn K (.ref a._law_made) = true
  d__law_made : DefAt K "_law_made" "_law_made" s__law_made a._law_made ["what"]
  g__law_kinds : mg "_law_kinds" = some (.ref a._law_kinds)
  k__law_kinds : PySem.W.keepIn K (.ref a._law_kinds) = true
  d__law_kinds : DefAt K "_law_kinds" "_law_kinds" s__law_kinds a._law_kinds ["e"]
  g__law_families_right : mg "_law_families_right" = some (.ref a._law_families_right)
  k__law_families_right : PySem.W.keepIn K (.ref a._law_families_right) = true
  d__law_families_right : DefAt K "_law_families_right" "_law_families_right" s__law_families_right a._law_families_right ["made"]
  g__law_fields : mg "_law_fields" = some (.ref a._law_fields)
  k__law_fields : PySem.W.keepIn K (.ref a._law_fields) = true
  d__law_fields : DefAt K "_law_fields" "_law_fields" s__law_fields a._law_fields ["made"]
  g__law_named : mg "_law_named" = some (.ref a._law_named)
  k__law_named : PySem.W.keepIn K (.ref a._law_named) = true
  d__law_named : DefAt K "_law_named" "_law_named" s__law_named a._law_named ["what"]
  g_law : mg "law" = some (.ref a.law)
  k_law : PySem.W.keepIn K (.ref a.law) = true
  d_law : DefAt K "law" "law" s_law a.law ["script"]
  g_JarError : mg "JarError" = some (.ref a.JarError)
  x_JarError : PySem.W.subIn K (.ref a.JarError) (.type "BaseException") = some true
  t_JarError : PySem.W.typeIn K (.ref a.JarError) = some (.type "type")
  h_JarError : PySem.W.hasDictIn K a.JarError = true
  g_InvalidValue : mg "InvalidValue" = some (.ref a.InvalidValue)
  x_InvalidValue : PySem.W.subIn K (.ref a.InvalidValue) (.type "BaseException") = some true
  t_InvalidValue : PySem.W.typeIn K (.ref a.InvalidValue) = some (.type "type")
  h_InvalidValue : PySem.W.hasDictIn K a.InvalidValue = true
  e_InvalidValue : ErrK P K mg a.InvalidValue a.InvalidValue_i a.InvalidValue_c a.InvalidValue_d "ValueError" "ValueError.__init__" "ValueError.__new__" [.type "ValueError", .type "Exception", .type "BaseException", .type "object"] "InvalidValue" ["value"]
  i_InvalidValue : IniK K a.InvalidValue_i a.InvalidValue_c a.InvalidValue_d "InvalidValue.__init__" "not a value" ["value"]
  k_InvalidValue : PySem.W.keepIn K (.ref a.InvalidValue) = true
  R_InvalidValue : ErrR K a.InvalidValue
  j_InvalidValue : IniKw K a.InvalidValue_i ["value"] ["value"] false
  n_InvalidValue_value : PySem.W.findIn K (.ref a.InvalidValue) "value" = some none
  g_InvalidNumbers : mg "InvalidNumbers" = some (.ref a.InvalidNumbers)
  x_InvalidNumbers : PySem.W.subIn K (.ref a.InvalidNumbers) (.type "BaseException") = some true
  t_InvalidNumbers : PySem.W.typeIn K (.ref a.InvalidNumbers) = some (.type "type")
  h_InvalidNumbers : PySem.W.hasDictIn K a.InvalidNumbers = true
  e_InvalidNumbers : ErrK P K mg a.InvalidNumbers a.InvalidNumbers_i a.InvalidNumbers_c a.InvalidNumbers_d "ValueError" "ValueError.__init__" "ValueError.__new__" [.type "ValueError", .type "Exception", .type "BaseException", .type "object"] "InvalidNumbers" ["value"]
  i_InvalidNumbers : IniK K a.InvalidNumbers_i a.InvalidNumbers_c a.InvalidNumbers_d "InvalidNumbers.__init__" "not a tuple of octets" ["value"]
  k_InvalidNumbers : PySem.W.keepIn K (.ref a.InvalidNumbers) = true
  R_InvalidNumbers : ErrR K a.InvalidNumbers
  j_InvalidNumbers : IniKw K a.InvalidNumbers_i ["value"] ["value"] false
  n_InvalidNumbers_value : PySem.W.findIn K (.ref a.InvalidNumbers) "value" = some none
  g_InvalidKey : mg "InvalidKey" = some (.ref a.InvalidKey)
  x_InvalidKey : PySem.W.subIn K (.ref a.InvalidKey) (.type "BaseException") = some true
  t_InvalidKey : PySem.W.typeIn K (.ref a.InvalidKey) = some (.type "type")
  h_InvalidKey : PySem.W.hasDictIn K a.InvalidKey = true
  e_InvalidKey : ErrK P K mg a.InvalidKey a.InvalidKey_i a.InvalidKey_c a.InvalidKey_d "ValueError" "ValueError.__init__" "ValueError.__new__" [.type "ValueError", .type "Exception", .type "BaseException", .type "object"] "InvalidKey" ["key"]
  i_InvalidKey : IniK K a.InvalidKey_i a.InvalidKey_c a.InvalidKey_d "InvalidKey.__init__" "invalid key" ["key"]
  k_InvalidKey : PySem.W.keepIn K (.ref a.InvalidKey) = true
  R_InvalidKey : ErrR K a.InvalidKey
  j_InvalidKey : IniKw K a.InvalidKey_i ["key"] ["key"] false
  n_InvalidKey_key : PySem.W.findIn K (.ref a.InvalidKey) "key" = some none
  g_InvalidIndex : mg "InvalidIndex" = some (.ref a.InvalidIndex)
  x_InvalidIndex : PySem.W.subIn K (.ref a.InvalidIndex) (.type "BaseException") = some true
  t_InvalidIndex : PySem.W.typeIn K (.ref a.InvalidIndex) = some (.type "type")
  h_InvalidIndex : PySem.W.hasDictIn K a.InvalidIndex = true
  e_InvalidIndex : ErrK P K mg a.InvalidIndex a.InvalidIndex_i a.InvalidIndex_c a.InvalidIndex_d "ValueError" "ValueError.__init__" "ValueError.__new__" [.type "ValueError", .type "Exception", .type "BaseException", .type "object"] "InvalidIndex" ["index"]
  i_InvalidIndex : IniK K a.InvalidIndex_i a.InvalidIndex_c a.InvalidIndex_d "InvalidIndex.__init__" "invalid index" ["index"]
  k_InvalidIndex : PySem.W.keepIn K (.ref a.InvalidIndex) = true
  R_InvalidIndex : ErrR K a.InvalidIndex
  j_InvalidIndex : IniKw K a.InvalidIndex_i ["index"] ["index"] false
  n_InvalidIndex_index : PySem.W.findIn K (.ref a.InvalidIndex) "index" = some none
  g_InvalidBrand : mg "InvalidBrand" = some (.ref a.InvalidBrand)
  x_InvalidBrand : PySem.W.subIn K (.ref a.InvalidBrand) (.type "BaseException") = some true
  t_InvalidBrand : PySem.W.typeIn K (.ref a.InvalidBrand) = some (.type "type")
  h_InvalidBrand : PySem.W.hasDictIn K a.InvalidBrand = true
  e_InvalidBrand : ErrK P K mg a.InvalidBrand a.InvalidBrand_i a.InvalidBrand_c a.InvalidBrand_d "ValueError" "ValueError.__init__" "ValueError.__new__" [.type "ValueError", .type "Exception", .type "BaseException", .type "object"] "InvalidBrand" ["given"]
  i_InvalidBrand : IniK K a.InvalidBrand_i a.InvalidBrand_c a.InvalidBrand_d "InvalidBrand.__init__" "invalid brand" ["given"]
  k_InvalidBrand : PySem.W.keepIn K (.ref a.InvalidBrand) = true
  R_InvalidBrand : ErrR K a.InvalidBrand
  j_InvalidBrand : IniKw K a.InvalidBrand_i ["given"] ["given"] false
  n_InvalidBrand_given : PySem.W.findIn K (.ref a.InvalidBrand) "given" = some none
  g_InvalidTakes : mg "InvalidTakes" = some (.ref a.InvalidTakes)
  x_InvalidTakes : PySem.W.subIn K (.ref a.InvalidTakes) (.type "BaseException") = some true
  t_InvalidTakes : PySem.W.typeIn K (.ref a.InvalidTakes) = some (.type "type")
  h_InvalidTakes : PySem.W.hasDictIn K a.InvalidTakes = true
  e_InvalidTakes : ErrK P K mg a.InvalidTakes a.InvalidTakes_i a.InvalidTakes_c a.InvalidTakes_d "ValueError" "ValueError.__init__" "ValueError.__new__" [.type "ValueError", .type "Exception", .type "BaseException", .type "object"] "InvalidTakes" ["value"]
  i_InvalidTakes : IniK K a.InvalidTakes_i a.InvalidTakes_c a.InvalidTakes_d "InvalidTakes.__init__" "invalid number of arguments" ["value"]
  k_InvalidTakes : PySem.W.keepIn K (.ref a.InvalidTakes) = true
  R_InvalidTakes : ErrR K a.InvalidTakes
  j_InvalidTakes : IniKw K a.InvalidTakes_i ["value"] ["value"] false
  n_InvalidTakes_value : PySem.W.findIn K (.ref a.InvalidTakes) "value" = some none
  g_InvalidVersion : mg "InvalidVersion" = some (.ref a.InvalidVersion)
  x_InvalidVersion : PySem.W.subIn K (.ref a.InvalidVersion) (.type "BaseException") = some true
  t_InvalidVersion : PySem.W.typeIn K (.ref a.InvalidVersion) = some (.type "type")
  h_InvalidVersion : PySem.W.hasDictIn K a.InvalidVersion = true
  e_InvalidVersion : ErrK P K mg a.InvalidVersion a.InvalidVersion_i a.InvalidVersion_c a.InvalidVersion_d "ValueError" "ValueError.__init__" "ValueError.__new__" [.type "ValueError", .type "Exception", .type "BaseException", .type "object"] "InvalidVersion" ["value"]
  i_InvalidVersion : IniK K a.InvalidVersion_i a.InvalidVersion_c a.InvalidVersion_d "InvalidVersion.__init__" "invalid version" ["value"]
  k_InvalidVersion : PySem.W.keepIn K (.ref a.InvalidVersion) = true
  R_InvalidVersion : ErrR K a.InvalidVersion
  j_InvalidVersion : IniKw K a.InvalidVersion_i ["value"] ["value"] false
  n_InvalidVersion_value : PySem.W.findIn K (.ref a.InvalidVersion) "value" = some none
  g_InvalidStream : mg "InvalidStream" = some (.ref a.InvalidStream)
  x_InvalidStream : PySem.W.subIn K (.ref a.InvalidStream) (.type "BaseException") = some true
  t_InvalidStream : PySem.W.typeIn K (.ref a.InvalidStream) = some (.type "type")
  h_InvalidStream : PySem.W.hasDictIn K a.InvalidStream = true
  e_InvalidStream : ErrK P K mg a.InvalidStream a.InvalidStream_i a.InvalidStream_c a.InvalidStream_d "ValueError" "ValueError.__init__" "ValueError.__new__" [.type "ValueError", .type "Exception", .type "BaseException", .type "object"] "InvalidStream" ["value"]
  i_InvalidStream : IniK K a.InvalidStream_i a.InvalidStream_c a.InvalidStream_d "InvalidStream.__init__" "not a stream" ["value"]
  k_InvalidStream : PySem.W.keepIn K (.ref a.InvalidStream) = true
  R_InvalidStream : ErrR K a.InvalidStream
  j_InvalidStream : IniKw K a.InvalidStream_i ["value"] ["value"] false
  n_InvalidStream_value : PySem.W.findIn K (.ref a.InvalidStream) "value" = some none
  g_InvalidLabel : mg "InvalidLabel" = some (.ref a.InvalidLabel)
  x_InvalidLabel : PySem.W.subIn K (.ref a.InvalidLabel) (.type "BaseException") = some true
  t_InvalidLabel : PySem.W.typeIn K (.ref a.InvalidLabel) = some (.type "type")
  h_InvalidLabel : PySem.W.hasDictIn K a.InvalidLabel = true
  e_InvalidLabel : ErrK P K mg a.InvalidLabel a.InvalidLabel_i a.InvalidLabel_c a.InvalidLabel_d "ValueError" "ValueError.__init__" "ValueError.__new__" [.type "ValueError", .type "Exception", .type "BaseException", .type "object"] "InvalidLabel" ["value"]
  i_InvalidLabel : IniK K a.InvalidLabel_i a.InvalidLabel_c a.InvalidLabel_d "InvalidLabel.__init__" "invalid label of an outside value" ["value"]
  k_InvalidLabel : PySem.W.keepIn K (.ref a.InvalidLabel) = true
  R_InvalidLabel : ErrR K a.InvalidLabel
  j_InvalidLabel : IniKw K a.InvalidLabel_i ["value"] ["value"] false
  n_InvalidLabel_value : PySem.W.findIn K (.ref a.InvalidLabel) "value" = some none
  g_InvalidReduction : mg "InvalidReduction" = some (.ref a.InvalidReduction)
  x_InvalidReduction : PySem.W.subIn K (.ref a.InvalidReduction) (.type "BaseException") = some true
  t_InvalidReduction : PySem.W.typeIn K (.ref a.InvalidReduction) = some (.type "type")
  h_InvalidReduction : PySem.W.hasDictIn K a.InvalidReduction = true
  e_InvalidReduction : ErrK P K mg a.InvalidReduction a.InvalidReduction_i a.InvalidReduction_c a.InvalidReduction_d "ValueError" "ValueError.__init__" "ValueError.__new__" [.type "ValueError", .type "Exception", .type "BaseException", .type "object"] "InvalidReduction" ["given"]
  i_InvalidReduction : IniK K a.InvalidReduction_i a.InvalidReduction_c a.InvalidReduction_d "InvalidReduction.__init__" "a reduce hook must return arguments and a state" ["given"]
  k_InvalidReduction : PySem.W.keepIn K (.ref a.InvalidReduction) = true
  R_InvalidReduction : ErrR K a.InvalidReduction
  j_InvalidReduction : IniKw K a.InvalidReduction_i ["given"] ["given"] false
  n_InvalidReduction_given : PySem.W.findIn K (.ref a.InvalidReduction) "given" = some none
  g_InvalidMade : mg "InvalidMade" = some (.ref a.InvalidMade)
  x_InvalidMade : PySem.W.subIn K (.ref a.InvalidMade) (.type "BaseException") = some true
  t_InvalidMade : PySem.W.typeIn K (.ref a.InvalidMade) = some (.type "type")
  h_InvalidMade : PySem.W.hasDictIn K a.InvalidMade = true
  e_InvalidMade : ErrK P K mg a.InvalidMade a.InvalidMade_i a.InvalidMade_c a.InvalidMade_d "ValueError" "ValueError.__init__" "ValueError.__new__" [.type "ValueError", .type "Exception", .type "BaseException", .type "object"] "InvalidMade" ["given"]
  i_InvalidMade : IniK K a.InvalidMade_i a.InvalidMade_c a.InvalidMade_d "InvalidMade.__init__" "a make hook must return a thing" ["given"]
  k_InvalidMade : PySem.W.keepIn K (.ref a.InvalidMade) = true
  R_InvalidMade : ErrR K a.InvalidMade
  j_InvalidMade : IniKw K a.InvalidMade_i ["given"] ["given"] false
  n_InvalidMade_given : PySem.W.findIn K (.ref a.InvalidMade) "given" = some none
  g_InvalidRow : mg "InvalidRow" = some (.ref a.InvalidRow)
  x_InvalidRow : PySem.W.subIn K (.ref a.InvalidRow) (.type "BaseException") = some true
  t_InvalidRow : PySem.W.typeIn K (.ref a.InvalidRow) = some (.type "type")
  h_InvalidRow : PySem.W.hasDictIn K a.InvalidRow = true
  e_InvalidRow : ErrK P K mg a.InvalidRow a.InvalidRow_i a.InvalidRow_c a.InvalidRow_d "ValueError" "ValueError.__init__" "ValueError.__new__" [.type "ValueError", .type "Exception", .type "BaseException", .type "object"] "InvalidRow" ["position"]
  i_InvalidRow : IniK K a.InvalidRow_i a.InvalidRow_c a.InvalidRow_d "InvalidRow.__init__" "not an opcode with its argument" ["position"]
  k_InvalidRow : PySem.W.keepIn K (.ref a.InvalidRow) = true
  R_InvalidRow : ErrR K a.InvalidRow
  j_InvalidRow : IniKw K a.InvalidRow_i ["position"] ["position"] false
  n_InvalidRow_position : PySem.W.findIn K (.ref a.InvalidRow) "position" = some none
  g_InvalidName : mg "InvalidName" = some (.ref a.InvalidName)
  x_InvalidName : PySem.W.subIn K (.ref a.InvalidName) (.type "BaseException") = some true
  t_InvalidName : PySem.W.typeIn K (.ref a.InvalidName) = some (.type "type")
  h_InvalidName : PySem.W.hasDictIn K a.InvalidName = true
  e_InvalidName : ErrK P K mg a.InvalidName a.InvalidName_i a.InvalidName_c a.InvalidName_d "ValueError" "ValueError.__init__" "ValueError.__new__" [.type "ValueError", .type "Exception", .type "BaseException", .type "object"] "InvalidName" ["given"]
  i_InvalidName : IniK K a.InvalidName_i a.InvalidName_c a.InvalidName_d "InvalidName.__init__" "invalid name" ["given"]
  k_InvalidName : PySem.W.keepIn K (.ref a.InvalidName) = true
  R_InvalidName : ErrR K a.InvalidName
  j_InvalidName : IniKw K a.InvalidName_i ["given"] ["given"] false
  n_InvalidName_given : PySem.W.findIn K (.ref a.InvalidName) "given" = some none
  g_InvalidEdit : mg "InvalidEdit" = some (.ref a.InvalidEdit)
  x_InvalidEdit : PySem.W.subIn K (.ref a.InvalidEdit) (.type "BaseException") = some true
  t_InvalidEdit : PySem.W.typeIn K (.ref a.InvalidEdit) = some (.type "type")
  h_InvalidEdit : PySem.W.hasDictIn K a.InvalidEdit = true
  e_InvalidEdit : ErrK P K mg a.InvalidEdit a.InvalidEdit_i a.InvalidEdit_c a.InvalidEdit_d "ValueError" "ValueError.__init__" "ValueError.__new__" [.type "ValueError", .type "Exception", .type "BaseException", .type "object"] "InvalidEdit" ["position"]
  i_InvalidEdit : IniK K a.InvalidEdit_i a.InvalidEdit_c a.InvalidEdit_d "InvalidEdit.__init__" "invalid edit" ["position"]
  k_InvalidEdit : PySem.W.keepIn K (.ref a.InvalidEdit) = true
  R_InvalidEdit : ErrR K a.InvalidEdit
  j_InvalidEdit : IniKw K a.InvalidEdit_i ["position"] ["position"] false
  n_InvalidEdit_position : PySem.W.findIn K (.ref a.InvalidEdit) "position" = some none
  g_InvalidText : mg "InvalidText" = some (.ref a.InvalidText)
  x_InvalidText : PySem.W.subIn K (.ref a.InvalidText) (.type "BaseException") = some true
  t_InvalidText : PySem.W.typeIn K (.ref a.InvalidText) = some (.type "type")
  h_InvalidText : PySem.W.hasDictIn K a.InvalidText = true
  e_InvalidText : ErrK P K mg a.InvalidText a.InvalidText_i a.InvalidText_c a.InvalidText_d "ValueError" "ValueError.__init__" "ValueError.__new__" [.type "ValueError", .type "Exception", .type "BaseException", .type "object"] "InvalidText" ["offset"]
  i_InvalidText : IniK K a.InvalidText_i a.InvalidText_c a.InvalidText_d "InvalidText.__init__" "invalid text" ["offset"]
  k_InvalidText : PySem.W.keepIn K (.ref a.InvalidText) = true
  R_InvalidText : ErrR K a.InvalidText
  j_InvalidText : IniKw K a.InvalidText_i ["offset"] ["offset"] false
  n_InvalidText_offset : PySem.W.findIn K (.ref a.InvalidText) "offset" = some none
  g_Refused : mg "Refused" = some (.ref a.Refused)
  x_Refused : PySem.W.subIn K (.ref a.Refused) (.type "BaseException") = some true
  t_Refused : PySem.W.typeIn K (.ref a.Refused) = some (.type "type")
  h_Refused : PySem.W.hasDictIn K a.Refused = true
  e_Refused : ErrK P K mg a.Refused a.Refused_i a.Refused_c a.Refused_d "ValueError" "ValueError.__init__" "ValueError.__new__" [.type "ValueError", .type "Exception", .type "BaseException", .type "object"] "Refused" ["offset", "reason"]
  i_Refused : IniK K a.Refused_i a.Refused_c a.Refused_d "Refused.__init__" "the stream is wrong" ["offset", "reason"]
  k_Refused : PySem.W.keepIn K (.ref a.Refused) = true
  R_Refused : ErrR K a.Refused
  j_Refused : IniKw K a.Refused_i ["offset", "reason"] ["reason", "offset"] true
  n_Refused_offset : PySem.W.findIn K (.ref a.Refused) "offset" = some none
  n_Refused_reason : PySem.W.findIn K (.ref a.Refused) "reason" = some none
  g_NotCanonical : mg "NotCanonical" = some (.ref a.NotCanonical)
  x_NotCanonical : PySem.W.subIn K (.ref a.NotCanonical) (.type "BaseException") = some true
  t_NotCanonical : PySem.W.typeIn K (.ref a.NotCanonical) = some (.type "type")
  h_NotCanonical : PySem.W.hasDictIn K a.NotCanonical = true
  e_NotCanonical : ErrK P K mg a.NotCanonical a.NotCanonical_i a.NotCanonical_c a.NotCanonical_d "ValueError" "ValueError.__init__" "ValueError.__new__" [.type "ValueError", .type "Exception", .type "BaseException", .type "object"] "NotCanonical" ["offset"]
  i_NotCanonical : IniK K a.NotCanonical_i a.NotCanonical_c a.NotCanonical_d "NotCanonical.__init__" "the stream is not canonical" ["offset"]
  k_NotCanonical : PySem.W.keepIn K (.ref a.NotCanonical) = true
  R_NotCanonical : ErrR K a.NotCanonical
  j_NotCanonical : IniKw K a.NotCanonical_i ["offset"] ["offset"] false
  n_NotCanonical_offset : PySem.W.findIn K (.ref a.NotCanonical) "offset" = some none
  g_StateError : mg "StateError" = some (.ref a.StateError)
  x_StateError : PySem.W.subIn K (.ref a.StateError) (.type "BaseException") = some true
  t_StateError : PySem.W.typeIn K (.ref a.StateError) = some (.type "type")
  h_StateError : PySem.W.hasDictIn K a.StateError = true
  g_TooDeep : mg "TooDeep" = some (.ref a.TooDeep)
  x_TooDeep : PySem.W.subIn K (.ref a.TooDeep) (.type "BaseException") = some true
  t_TooDeep : PySem.W.typeIn K (.ref a.TooDeep) = some (.type "type")
  h_TooDeep : PySem.W.hasDictIn K a.TooDeep = true
  e_TooDeep : ErrK P K mg a.TooDeep a.TooDeep_i a.TooDeep_c a.TooDeep_d "RuntimeError" "RuntimeError.__init__" "RuntimeError.__new__" [.type "RuntimeError", .type "Exception", .type "BaseException", .type "object"] "TooDeep" ["limit"]
  i_TooDeep : IniK K a.TooDeep_i a.TooDeep_c a.TooDeep_d "TooDeep.__init__" "too many values inside one another" ["limit"]
  k_TooDeep : PySem.W.keepIn K (.ref a.TooDeep) = true
  R_TooDeep : ErrR K a.TooDeep
  j_TooDeep : IniKw K a.TooDeep_i ["limit"] ["limit"] false
  n_TooDeep_limit : PySem.W.findIn K (.ref a.TooDeep) "limit" = some none
  g_TooLong : mg "TooLong" = some (.ref a.TooLong)
  x_TooLong : PySem.W.subIn K (.ref a.TooLong) (.type "BaseException") = some true
  t_TooLong : PySem.W.typeIn K (.ref a.TooLong) = some (.type "type")
  h_TooLong : PySem.W.hasDictIn K a.TooLong = true
  e_TooLong : ErrK P K mg a.TooLong a.TooLong_i a.TooLong_c a.TooLong_d "RuntimeError" "RuntimeError.__init__" "RuntimeError.__new__" [.type "RuntimeError", .type "Exception", .type "BaseException", .type "object"] "TooLong" ["limit"]
  i_TooLong : IniK K a.TooLong_i a.TooLong_c a.TooLong_d "TooLong.__init__" "the stream would be too long" ["limit"]
  k_TooLong : PySem.W.keepIn K (.ref a.TooLong) = true
  R_TooLong : ErrR K a.TooLong
  j_TooLong : IniKw K a.TooLong_i ["limit"] ["limit"] false
  n_TooLong_limit : PySem.W.findIn K (.ref a.TooLong) "limit" = some none
  g_SelfArgument : mg "SelfArgument" = some (.ref a.SelfArgument)
  x_SelfArgument : PySem.W.subIn K (.ref a.SelfArgument) (.type "BaseException") = some true
  t_SelfArgument : PySem.W.typeIn K (.ref a.SelfArgument) = some (.type "type")
  h_SelfArgument : PySem.W.hasDictIn K a.SelfArgument = true
  e_SelfArgument : ErrK P K mg a.SelfArgument a.SelfArgument_i a.SelfArgument_c a.SelfArgument_d "RuntimeError" "RuntimeError.__init__" "RuntimeError.__new__" [.type "RuntimeError", .type "Exception", .type "BaseException", .type "object"] "SelfArgument" ["given"]
  i_SelfArgument : IniK K a.SelfArgument_i a.SelfArgument_c a.SelfArgument_d "SelfArgument.__init__" "a thing cannot be made of itself" ["given"]
  k_SelfArgument : PySem.W.keepIn K (.ref a.SelfArgument) = true
  R_SelfArgument : ErrR K a.SelfArgument
  j_SelfArgument : IniKw K a.SelfArgument_i ["given"] ["given"] false
  n_SelfArgument_given : PySem.W.findIn K (.ref a.SelfArgument) "given" = some none
  g_KeyTaken : mg "KeyTaken" = some (.ref a.KeyTaken)
  x_KeyTaken : PySem.W.subIn K (.ref a.KeyTaken) (.type "BaseException") = some true
  t_KeyTaken : PySem.W.typeIn K (.ref a.KeyTaken) = some (.type "type")
  h_KeyTaken : PySem.W.hasDictIn K a.KeyTaken = true
  e_KeyTaken : ErrK P K mg a.KeyTaken a.KeyTaken_i a.KeyTaken_c a.KeyTaken_d "RuntimeError" "RuntimeError.__init__" "RuntimeError.__new__" [.type "RuntimeError", .type "Exception", .type "BaseException", .type "object"] "KeyTaken" ["key"]
  i_KeyTaken : IniK K a.KeyTaken_i a.KeyTaken_c a.KeyTaken_d "KeyTaken.__init__" "the key is there already" ["key"]
  k_KeyTaken : PySem.W.keepIn K (.ref a.KeyTaken) = true
  R_KeyTaken : ErrR K a.KeyTaken
  j_KeyTaken : IniKw K a.KeyTaken_i ["key"] ["key"] false
  n_KeyTaken_key : PySem.W.findIn K (.ref a.KeyTaken) "key" = some none
  g_BrandTaken : mg "BrandTaken" = some (.ref a.BrandTaken)
  x_BrandTaken : PySem.W.subIn K (.ref a.BrandTaken) (.type "BaseException") = some true
  t_BrandTaken : PySem.W.typeIn K (.ref a.BrandTaken) = some (.type "type")
  h_BrandTaken : PySem.W.hasDictIn K a.BrandTaken = true
  e_BrandTaken : ErrK P K mg a.BrandTaken a.BrandTaken_i a.BrandTaken_c a.BrandTaken_d "RuntimeError" "RuntimeError.__init__" "RuntimeError.__new__" [.type "RuntimeError", .type "Exception", .type "BaseException", .type "object"] "BrandTaken" ["given"]
  i_BrandTaken : IniK K a.BrandTaken_i a.BrandTaken_c a.BrandTaken_d "BrandTaken.__init__" "the brand is known already" ["given"]
  k_BrandTaken : PySem.W.keepIn K (.ref a.BrandTaken) = true
  R_BrandTaken : ErrR K a.BrandTaken
  j_BrandTaken : IniKw K a.BrandTaken_i ["given"] ["given"] false
  n_BrandTaken_given : PySem.W.findIn K (.ref a.BrandTaken) "given" = some none
  g_Full : mg "Full" = some (.ref a.Full)
  x_Full : PySem.W.subIn K (.ref a.Full) (.type "BaseException") = some true
  t_Full : PySem.W.typeIn K (.ref a.Full) = some (.type "type")
  h_Full : PySem.W.hasDictIn K a.Full = true
  e_Full : ErrK P K mg a.Full a.Full_i a.Full_c a.Full_d "RuntimeError" "RuntimeError.__init__" "RuntimeError.__new__" [.type "RuntimeError", .type "Exception", .type "BaseException", .type "object"] "Full" ["limit"]
  i_Full : IniK K a.Full_i a.Full_c a.Full_d "Full.__init__" "the limit is reached" ["limit"]
  k_Full : PySem.W.keepIn K (.ref a.Full) = true
  R_Full : ErrR K a.Full
  j_Full : IniKw K a.Full_i ["limit"] ["limit"] false
  n_Full_limit : PySem.W.findIn K (.ref a.Full) "limit" = some none
  g_MissingError : mg "MissingError" = some (.ref a.MissingError)
  x_MissingError : PySem.W.subIn K (.ref a.MissingError) (.type "BaseException") = some true
  t_MissingError : PySem.W.typeIn K (.ref a.MissingError) = some (.type "type")
  h_MissingError : PySem.W.hasDictIn K a.MissingError = true
  g_UnknownBrand : mg "UnknownBrand" = some (.ref a.UnknownBrand)
  x_UnknownBrand : PySem.W.subIn K (.ref a.UnknownBrand) (.type "BaseException") = some true
  t_UnknownBrand : PySem.W.typeIn K (.ref a.UnknownBrand) = some (.type "type")
  h_UnknownBrand : PySem.W.hasDictIn K a.UnknownBrand = true
  e_UnknownBrand : ErrK P K mg a.UnknownBrand a.UnknownBrand_i a.UnknownBrand_c a.UnknownBrand_d "LookupError" "LookupError.__init__" "LookupError.__new__" [.type "LookupError", .type "Exception", .type "BaseException", .type "object"] "UnknownBrand" ["given"]
  i_UnknownBrand : IniK K a.UnknownBrand_i a.UnknownBrand_c a.UnknownBrand_d "UnknownBrand.__init__" "unknown brand" ["given"]
  k_UnknownBrand : PySem.W.keepIn K (.ref a.UnknownBrand) = true
  R_UnknownBrand : ErrR K a.UnknownBrand
  j_UnknownBrand : IniKw K a.UnknownBrand_i ["given"] ["given"] false
  n_UnknownBrand_given : PySem.W.findIn K (.ref a.UnknownBrand) "given" = some none
  g_NoEntry : mg "NoEntry" = some (.ref a.NoEntry)
  x_NoEntry : PySem.W.subIn K (.ref a.NoEntry) (.type "BaseException") = some true
  t_NoEntry : PySem.W.typeIn K (.ref a.NoEntry) = some (.type "type")
  h_NoEntry : PySem.W.hasDictIn K a.NoEntry = true
  e_NoEntry : ErrK P K mg a.NoEntry a.NoEntry_i a.NoEntry_c a.NoEntry_d "LookupError" "LookupError.__init__" "LookupError.__new__" [.type "LookupError", .type "Exception", .type "BaseException", .type "object"] "NoEntry" ["key"]
  i_NoEntry : IniK K a.NoEntry_i a.NoEntry_c a.NoEntry_d "NoEntry.__init__" "no such entry" ["key"]
  k_NoEntry : PySem.W.keepIn K (.ref a.NoEntry) = true
  R_NoEntry : ErrR K a.NoEntry
  j_NoEntry : IniKw K a.NoEntry_i ["key"] ["key"] false
  n_NoEntry_key : PySem.W.findIn K (.ref a.NoEntry) "key" = some none
  g_NoName : mg "NoName" = some (.ref a.NoName)
  x_NoName : PySem.W.subIn K (.ref a.NoName) (.type "BaseException") = some true
  t_NoName : PySem.W.typeIn K (.ref a.NoName) = some (.type "type")
  h_NoName : PySem.W.hasDictIn K a.NoName = true
  e_NoName : ErrK P K mg a.NoName a.NoName_i a.NoName_c a.NoName_d "LookupError" "LookupError.__init__" "LookupError.__new__" [.type "LookupError", .type "Exception", .type "BaseException", .type "object"] "NoName" ["given"]
  i_NoName : IniK K a.NoName_i a.NoName_c a.NoName_d "NoName.__init__" "no such name" ["given"]
  k_NoName : PySem.W.keepIn K (.ref a.NoName) = true
  R_NoName : ErrR K a.NoName
  j_NoName : IniKw K a.NoName_i ["given"] ["given"] false
  n_NoName_given : PySem.W.findIn K (.ref a.NoName) "given" = some none
  g_NothingToUndo : mg "NothingToUndo" = some (.ref a.NothingToUndo)
  x_NothingToUndo : PySem.W.subIn K (.ref a.NothingToUndo) (.type "BaseException") = some true
  t_NothingToUndo : PySem.W.typeIn K (.ref a.NothingToUndo) = some (.type "type")
  h_NothingToUndo : PySem.W.hasDictIn K a.NothingToUndo = true
  e_NothingToUndo : ErrK P K mg a.NothingToUndo a.NothingToUndo_i a.NothingToUndo_c a.NothingToUndo_d "LookupError" "LookupError.__init__" "LookupError.__new__" [.type "LookupError", .type "Exception", .type "BaseException", .type "object"] "NothingToUndo" ["count"]
  i_NothingToUndo : IniK K a.NothingToUndo_i a.NothingToUndo_c a.NothingToUndo_d "NothingToUndo.__init__" "there is no change to take back" ["count"]
  k_NothingToUndo : PySem.W.keepIn K (.ref a.NothingToUndo) = true
  R_NothingToUndo : ErrR K a.NothingToUndo
  j_NothingToUndo : IniKw K a.NothingToUndo_i ["count"] ["count"] false
  n_NothingToUndo_count : PySem.W.findIn K (.ref a.NothingToUndo) "count" = some none
  uAll : (([a.InvalidValue, a.InvalidNumbers, a.InvalidKey, a.InvalidIndex, a.InvalidBrand, a.InvalidTakes, a.InvalidVersion, a.InvalidStream, a.InvalidLabel, a.InvalidReduction, a.InvalidMade, a.InvalidRow, a.InvalidName, a.InvalidEdit, a.InvalidText, a.Refused, a.NotCanonical, a.TooDeep, a.TooLong, a.SelfArgument, a.KeyTaken, a.BrandTaken, a.Full, a.UnknownBrand, a.NoEntry, a.NoName, a.NothingToUndo] : List Addr).zipIdx.all fun p => ([a.InvalidValue, a.InvalidNumbers, a.InvalidKey, a.InvalidIndex, a.InvalidBrand, a.InvalidTakes, a.InvalidVersion, a.InvalidStream, a.InvalidLabel, a.InvalidReduction, a.InvalidMade, a.InvalidRow, a.InvalidName, a.InvalidEdit, a.InvalidText, a.Refused, a.NotCanonical, a.TooDeep, a.TooLong, a.SelfArgument, a.KeyTaken, a.BrandTaken, a.Full, a.UnknownBrand, a.NoEntry, a.NoName, a.NothingToUndo] : List Addr).zipIdx.all fun q => PySem.W.kitOne K (.ref p.1) (.ref q.1) == some (p.2 == q.2)) = true
  fJarError : (([a.InvalidValue, a.InvalidNumbers, a.InvalidKey, a.InvalidIndex, a.InvalidBrand, a.InvalidTakes, a.InvalidVersion, a.InvalidStream, a.InvalidLabel, a.InvalidReduction, a.InvalidMade, a.InvalidRow, a.InvalidName, a.InvalidEdit, a.InvalidText, a.Refused, a.NotCanonical, a.TooDeep, a.TooLong, a.SelfArgument, a.KeyTaken, a.BrandTaken, a.Full, a.UnknownBrand, a.NoEntry, a.NoName, a.NothingToUndo] : List Addr).zipIdx.all fun p => PySem.W.kitOne K (.ref p.1) (.ref a.JarError) == some (decide (p.2 < 17))) = true
  fStateError : (([a.InvalidValue, a.InvalidNumbers, a.InvalidKey, a.InvalidIndex, a.InvalidBrand, a.InvalidTakes, a.InvalidVersion, a.InvalidStream, a.InvalidLabel, a.InvalidReduction, a.InvalidMade, a.InvalidRow, a.InvalidName, a.InvalidEdit, a.InvalidText, a.Refused, a.NotCanonical, a.TooDeep, a.TooLong, a.SelfArgument, a.KeyTaken, a.BrandTaken, a.Full, a.UnknownBrand, a.NoEntry, a.NoName, a.NothingToUndo] : List Addr).zipIdx.all fun p => PySem.W.kitOne K (.ref p.1) (.ref a.StateError) == some (decide (17 ≤ p.2) && decide (p.2 < 23))) = true
  fMissingError : (([a.InvalidValue, a.InvalidNumbers, a.InvalidKey, a.InvalidIndex, a.InvalidBrand, a.InvalidTakes, a.InvalidVersion, a.InvalidStream, a.InvalidLabel, a.InvalidReduction, a.InvalidMade, a.InvalidRow, a.InvalidName, a.InvalidEdit, a.InvalidText, a.Refused, a.NotCanonical, a.TooDeep, a.TooLong, a.SelfArgument, a.KeyTaken, a.BrandTaken, a.Full, a.UnknownBrand, a.NoEntry, a.NoName, a.NothingToUndo] : List Addr).zipIdx.all fun p => PySem.W.kitOne K (.ref p.1) (.ref a.MissingError) == some (decide (23 ≤ p.2))) = true
  fValueError : (([a.InvalidValue, a.InvalidNumbers, a.InvalidKey, a.InvalidIndex, a.InvalidBrand, a.InvalidTakes, a.InvalidVersion, a.InvalidStream, a.InvalidLabel, a.InvalidReduction, a.InvalidMade, a.InvalidRow, a.InvalidName, a.InvalidEdit, a.InvalidText, a.Refused, a.NotCanonical, a.TooDeep, a.TooLong, a.SelfArgument, a.KeyTaken, a.BrandTaken, a.Full, a.UnknownBrand, a.NoEntry, a.NoName, a.NothingToUndo] : List Addr).zipIdx.all fun p => PySem.W.kitOne K (.ref p.1) (.type "ValueError") == some (decide (p.2 < 17))) = true
  fRuntimeError : (([a.InvalidValue, a.InvalidNumbers, a.InvalidKey, a.InvalidIndex, a.InvalidBrand, a.InvalidTakes, a.InvalidVersion, a.InvalidStream, a.InvalidLabel, a.InvalidReduction, a.InvalidMade, a.InvalidRow, a.InvalidName, a.InvalidEdit, a.InvalidText, a.Refused, a.NotCanonical, a.TooDeep, a.TooLong, a.SelfArgument, a.KeyTaken, a.BrandTaken, a.Full, a.UnknownBrand, a.NoEntry, a.NoName, a.NothingToUndo] : List Addr).zipIdx.all fun p => PySem.W.kitOne K (.ref p.1) (.type "RuntimeError") == some (decide (17 ≤ p.2) && decide (p.2 < 23))) = true
  fLookupError : (([a.InvalidValue, a.InvalidNumbers, a.InvalidKey, a.InvalidIndex, a.InvalidBrand, a.InvalidTakes, a.InvalidVersion, a.InvalidStream, a.InvalidLabel, a.InvalidReduction, a.InvalidMade, a.InvalidRow, a.InvalidName, a.InvalidEdit, a.InvalidText, a.Refused, a.NotCanonical, a.TooDeep, a.TooLong, a.SelfArgument, a.KeyTaken, a.BrandTaken, a.Full, a.UnknownBrand, a.NoEntry, a.NoName, a.NothingToUndo] : List Addr).zipIdx.all fun p => PySem.W.kitOne K (.ref p.1) (.type "LookupError") == some (decide (23 ≤ p.2))) = true
  fKeyError : (([a.InvalidValue, a.InvalidNumbers, a.InvalidKey, a.InvalidIndex, a.InvalidBrand, a.InvalidTakes, a.InvalidVersion, a.InvalidStream, a.InvalidLabel, a.InvalidReduction, a.InvalidMade, a.InvalidRow, a.InvalidName, a.InvalidEdit, a.InvalidText, a.Refused, a.NotCanonical, a.TooDeep, a.TooLong, a.SelfArgument, a.KeyTaken, a.BrandTaken, a.Full, a.UnknownBrand, a.NoEntry, a.NoName, a.NothingToUndo] : List Addr).zipIdx.all fun p => PySem.W.kitOne K (.ref p.1) (.type "KeyError") == some (false)) = true
  fIndexError : (([a.InvalidValue, a.InvalidNumbers, a.InvalidKey, a.InvalidIndex, a.InvalidBrand, a.InvalidTakes, a.InvalidVersion, a.InvalidStream, a.InvalidLabel, a.InvalidReduction, a.InvalidMade, a.InvalidRow, a.InvalidName, a.InvalidEdit, a.InvalidText, a.Refused, a.NotCanonical, a.TooDeep, a.TooLong, a.SelfArgument, a.KeyTaken, a.BrandTaken, a.Full, a.UnknownBrand, a.NoEntry, a.NoName, a.NothingToUndo] : List Addr).zipIdx.all fun p => PySem.W.kitOne K (.ref p.1) (.type "IndexError") == some (false)) = true
  fNotImplementedError : (([a.InvalidValue, a.InvalidNumbers, a.InvalidKey, a.InvalidIndex, a.InvalidBrand, a.InvalidTakes, a.InvalidVersion, a.InvalidStream, a.InvalidLabel, a.InvalidReduction, a.InvalidMade, a.InvalidRow, a.InvalidName, a.InvalidEdit, a.InvalidText, a.Refused, a.NotCanonical, a.TooDeep, a.TooLong, a.SelfArgument, a.KeyTaken, a.BrandTaken, a.Full, a.UnknownBrand, a.NoEntry, a.NoName, a.NothingToUndo] : List Addr).zipIdx.all fun p => PySem.W.kitOne K (.ref p.1) (.type "NotImplementedError") == some (false)) = true
end BJL

namespace BJL
open PySem PySem.Spec PyProof.Rows L2 BJ
section
variable {P : Program} {w : World} {K : PySem.W.Frag} {mg : Str → Option Value} {base : Heap} {a : Adr}
theorem ok__law_mixed (T : Txt P K mg a) : CallP P w K mg base 1 (.ref a._law_mixed) spMixed := by
  refine T.d__law_mixed.ok sc__law_mixed (fun vs H Q E h => ?_) (fun cdv A outer s H vs Q E hr hG h => ?_)
  · obtain ⟨cell, k, rfl, _⟩ := h
    rfl
  · obtain ⟨cell, k, rfl, k0, k1, hq⟩ := h
    refine ⟨_, (pss_cons (ps_set (i := 2) sc__law_mixed.nd rfl (Or.inl rfl) (pe_op op_mod (pe_op op_add (pe_op op_add (pe_op op_add (pe_op op_mod (pv 0) pe_int) (pe_op op_mul (pe_op op_mul pe_int (pv 1)) (pv 1))) (pe_op op_mul pe_int (pv 1))) pe_int) pe_int))
 (pss_cons (ps_set (i := 2) sc__law_mixed.nd rfl (Or.inl rfl) (pe_op op_mod (pe_op op_mul (pe_op op_mod (pe_op op_mul (pv 2) (pv 2)) pe_int) (pv 2)) pe_int))
 (pss_one (ps_ret (pe_op op_fdiv (pe_op op_mod (pe_op op_mul (pv 2) (pe_op op_add pe_int (pe_op op_mul pe_int (pe_op op_mod (pv 1) pe_int)))) pe_int) pe_int))))), ?_⟩
    refine ⟨_, rfl, _, _, rfl, rfl, (by show (0 : Int) < _; decide), _, rfl, _, _, rfl, rfl, .inl (by omega), _, rfl, _, _, rfl, rfl, .inl (by constructor <;> omega), _, _, rfl, rfl, _, rfl, _, _, rfl, rfl, .inl (by omega), _, _, rfl, rfl, _, _, rfl, rfl, _, _, rfl, rfl, (by show (0 : Int) < _; decide), ?_⟩
    generalize hm : (cell % 1000000007 + 7919 * k * k + 31 * k + 7) % 2147483647 = m
    have m0 : 0 ≤ m := by omega
    have m1 : m < 2147483647 := by omega
    refine ⟨_, rfl, _, rfl, _, _, rfl, rfl, .inl (by omega), _, _, rfl, rfl, (by show (0 : Int) < _; decide), _, rfl, _, _, rfl, rfl, .inl (by omega), _, _, rfl, rfl, (by show (0 : Int) < _; decide), ?_⟩
    generalize hm2 : m * m % 2147483647 * m % 2147483629 = m'
    have m0' : 0 ≤ m' := by omega
    have m1' : m' < 2147483629 := by omega
    refine ⟨_, rfl, _, rfl, _, _, rfl, rfl, (by show (0 : Int) < _; decide), _, _, rfl, rfl, .inl (by omega), _, _, rfl, rfl, _, _, rfl, rfl, .inl (by omega), _, _, rfl, rfl, (by show (0 : Int) < _; decide), _, _, rfl, rfl, ⟨by decide, by decide⟩, ?_⟩
    exact hq _ (by omega)
theorem ok__law_begin (T : Txt P K mg a) : CallP P w K mg base 1 (.ref a._law_begin) (spBegin K) := by
  refine T.d__law_begin.ok sc__law_begin (fun vs H Q E h => ?_) (fun cdv A outer s H vs Q E hr hG h => ?_)
  · obtain ⟨s, ns, rfl, _⟩ := h
    rfl
  · obtain ⟨s, ns, rfl, hS, hl, hq⟩ := h
    refine ⟨_, (pss_one (ps_ret (pe_disp (pps_cons pe_str (pe_op op_catS (pv 0) (pe_lst (pa_cons pe_int pa_nil))) (pps_cons pe_str pe_int (pps_cons pe_str pe_int (pps_cons pe_str pe_int pps_nil)))) (by rfl) (by rfl) (fun z => by cases z) (by decide)))), ?_⟩
    intro d nd
    refine ⟨_, rfl, (by show 1 ≤ sizeLine; decide), fun q nq => ?_⟩
    have hS1 : Scr K (upd (upd H d (.dK [])) q (.lst [.int 0])) s (ns.map V.int) := by
      rcases hS with (h | ⟨o, h⟩) | h
      · exact .inl (.inl (upd_keep (upd_keep h nd) nq))
      · exact .inl (.inr ⟨o, upd_keep (upd_keep h nd) nq⟩)
      · exact .inr h
    have nqd : q ≠ d := fun z => by
      rw [z, upd_same] at nq
      cases nq
    have nq0 : H q = none := by rw [upd_ne nqd] at nq; exact nq
    refine ⟨_, _, _, _, rfl, rfl, hS1, .inl (.inl upd_same), (by rw [List.length_map, sizeLine_eq]; show ns.length + 1 ≤ 16777216; omega), fun c nc => ?_⟩
    have ncq : c ≠ q := fun z => by
      rw [z, upd_same] at nc
      cases nc
    have ncd : c ≠ d := fun z => by
      rw [z, upd_ne nqd.symm, upd_same] at nc
      cases nc
    have nc0 : H c = none := by rw [upd_ne ncq, upd_ne ncd] at nc; exact nc
    refine ⟨?_, drw c 0 0 0, rfl, (by show 4 ≤ 15; decide), ?_⟩
    · rw [upd_ne ncd.symm, upd_ne nqd.symm, upd_same]
    have em : mergeK [] (drw c 0 0 0) = drw c 0 0 0 := by
      have h1 : ¬ (("cells" : Str) = "at") := by decide
      have h2 : ¬ (("cells" : Str) = "left") := by decide
      have h3 : ¬ (("cells" : Str) = "used") := by decide
      have h4 : ¬ (("at" : Str) = "left") := by decide
      have h5 : ¬ (("at" : Str) = "used") := by decide
      have h6 : ¬ (("left" : Str) = "used") := by decide
      simp [mergeK, drw, putK, h1, h2, h3, h4, h5, h6]
    rw [em]
    refine hq d c _ (fun p o e => ?_) nd nc0 ⟨⟨0, 0, 0, upd_same, by omega, by omega, by omega, by omega, by omega⟩, ?_, by simp, by rw [List.length_append]; show ns.length + 1 ≤ 64; omega⟩
    · have pd : p ≠ d := ne_of_none e nd
      rw [upd_ne pd, upd_ne (ne_of_none e nc0), upd_ne (ne_of_none e nq0), upd_ne pd]
      exact e
    · rw [upd_ne ncd, upd_same, List.map_append]
      rfl

end
end BJL

namespace BJL
open PySem PySem.Spec PyProof.Rows L2 BJ
section
variable {P : Program} {w : World} {K : PySem.W.Frag} {mg : Str → Option Value} {base : Heap} {a : Adr}
theorem ok__law_next (T : Txt P K mg a) : CallP P w K mg base 2 (.ref a._law_next) spNext := by
  have G__law_mixed : CallP P w K mg base 1 (.ref a._law_mixed) spMixed := ok__law_mixed T
  refine T.d__law_next.ok sc__law_next (fun vs H Q E h => ?_) (fun cdv A outer s H vs Q E hr hG h => ?_)
  · obtain ⟨d, c, cells, n, b, rfl, _⟩ := h
    rfl
  · obtain ⟨d, c, cells, n, b, rfl, D, hn, b0, b1, hq⟩ := h
    have hu := hu_of hr
    refine ⟨_, (pss_cons (ps_if (pt_cmpR op_gt (pe_dget hu (pv 0) pe_str (fun _ _ => rfl)) pe_int (nomark _))
 (pss_cons (ps_set (i := 2) sc__law_next.nd rfl (Or.inl rfl) (pe_op op_modN (pe_dget hu (pv 0) pe_str (fun _ _ => rfl)) (pv 1)))
 (pss_cons (ps_dput hu (pv 0) pe_str (pe_op op_fdivN (pe_dget hu (pv 0) pe_str (fun _ _ => rfl)) (pv 1)) rfl)
 (pss_one (ps_ret (pv 2)))))
 pss_nil)
 (pss_cons (ps_set (i := 3) sc__law_next.nd rfl (Or.inl rfl) (pe_dget hu (pv 0) pe_str (fun _ _ => rfl)))
 (pss_cons (ps_set (i := 4) sc__law_next.nd rfl (Or.inl rfl) (pe_ix (ix_list' (K := K) rfl) (pv 3) (pe_op op_modN (pe_dget hu (pv 0) pe_str (fun _ _ => rfl)) (pe_callB call_len_seq (by rfl) T.b_len (by decide +kernel) (pa_cons (pv 3) pa_nil))) (fun _ _ => rfl)))
 (pss_cons (ps_dput hu (pv 0) pe_str (pe_op op_add (pe_dget hu (pv 0) pe_str (fun _ _ => rfl)) pe_int) rfl)
 (pss_cons (ps_if (PW.pt (pw_and (pt_cmpR op_ge (pv 4) (pe_op op_pow pe_int pe_int) (nomark _)) (pw_and1 (pt_cmpR op_le (pe_dget hu (pv 0) pe_str (fun _ _ => rfl)) (pe_callB call_len_seq (by rfl) T.b_len (by decide +kernel) (pa_cons (pv 3) pa_nil)) (nomark _)))))
 (pss_cons (ps_dput hu (pv 0) pe_str (pe_op op_fdivN (pv 4) (pv 1)) rfl)
 (pss_one (ps_ret (pe_op op_modN (pv 4) (pv 1)))))
 pss_nil)
 (pss_cons (ps_dput hu (pv 0) pe_str (pe_op op_add (pe_dget hu (pv 0) pe_str (fun _ _ => rfl)) pe_int) rfl)
 (pss_one (ps_ret (pe_op op_modN (pe_ca G__law_mixed (hr.mono (by decide)) hG rfl T.g__law_mixed T.k__law_mixed (takes_of rfl rfl rfl rfl) (pa_cons (pe_ca G__law_mixed (hr.mono (by decide)) hG rfl T.g__law_mixed T.k__law_mixed (takes_of rfl rfl rfl rfl) (pa_cons (pv 4) (pa_cons (pe_dget hu (pv 0) pe_str (fun _ _ => rfl)) pa_nil))) (pa_cons (pe_dget hu (pv 0) pe_str (fun _ _ => rfl)) pa_nil))) (pv 1)))))))))), ?_⟩
    obtain ⟨av, lv, uv, hd, a0, a1, u0, u1, l0⟩ := D.dict
    have bb : b.natAbs < 1073741824 := by omega
    refine ⟨_, rfl, d, _, rfl, dg (k := .inr "left") hd drw_left, _, _, rfl, rfl, _, rfl, ?_⟩
    refine ifd (fun hl => ?_) (fun hl => ?_)
    · refine ⟨_, rfl, d, _, rfl, dg (k := .inr "left") hd drw_left, _, rfl, _, _, rfl, rfl, (by show b ≠ 0; omega), ?_⟩
      refine ⟨_, rfl, d, _, rfl, dg (k := .inr "left") hd drw_left, _, rfl, _, _, rfl, rfl, ⟨(by omega), bb⟩, _, rfl, d, _, rfl, dp (k := .inr "left") hd drw_put_left (by show 4 < 1000; decide), ?_⟩
      refine ⟨_, rfl, ?_⟩
      exact hq _ _ (fm b0).1 (fm b0).2 (Dr_up D a0 (by omega) u0 (by omega) (fd b0 l0)) But.upd
    · refine ⟨_, rfl, d, _, rfl, dg (k := .inr "cells") hd drw_cells, ?_⟩
      have hlen : 0 < cells.length := List.length_pos_iff.mpr D.ne
      have hm := fm (i := av) (b := (cells.length : Int)) (by omega)
      have hi : (av.fmod (cells.length : Int)).toNat < cells.length := by omega
      have hx : (cells.map V.int)[(av.fmod (cells.length : Int)).toNat]? = some (.int cells[(av.fmod (cells.length : Int)).toNat]) := by
        rw [List.getElem?_map, List.getElem?_eq_getElem hi]
        rfl
      generalize cells[(av.fmod (cells.length : Int)).toNat] = cell at hx
      have hlm : ((cells.map V.int).length : Int) = (cells.length : Int) := by rw [List.length_map]
      have hat : atI (cells.map V.int) (av.fmod ((cells.map V.int).length : Int)) = some (.int cell) := by
        rw [hlm]
        have := atI_nat hx
        rw [show (((av.fmod (cells.length : Int)).toNat : Nat) : Int) = av.fmod (cells.length : Int) by omega] at this
        exact this
      refine ⟨_, rfl, _, rfl, d, _, rfl, dg (k := .inr "at") hd drw_at, _, rfl, c, _, rfl, .inl (SqL.of D.list), _, _, rfl, rfl, (by show (((cells.map V.int).length : Nat) : Int) ≠ 0; omega), c, _, _, _, rfl, rfl, SqL.of D.list, hat, ?_⟩
      refine ⟨_, rfl, d, _, rfl, dg (k := .inr "at") hd drw_at, _, _, rfl, rfl, _, rfl, d, _, rfl, dp (k := .inr "at") hd drw_put_at (by show 4 < 1000; decide), ?_⟩
      have hd1 : (upd H d (.dK (drw c (av + 1) lv uv))) d = some (.dK (drw c (av + 1) lv uv)) := upd_same
      have hc1 : SqL K (upd H d (.dK (drw c (av + 1) lv uv))) c (cells.map V.int) := SqL.of (by rw [upd_ne D.dc.symm]; exact D.list)
      -- the way by the mixer
      have fin : ∀ r : Int, Q (.int (r.fmod b)) (upd (upd H d (.dK (drw c (av + 1) lv uv))) d (.dK (drw c (av + 1) lv (uv + 1)))) := fun r => by
        rw [upd_upd]
        exact hq _ _ (fm b0).1 (fm b0).2 (Dr_up D (by omega) (by omega) (by omega) (by omega) l0) But.upd
      have last : ∀ tl, tl = (tSeq (sDPut (tVar 0) (tC (V.str "used")) (tOp (rI0 fun i j => V.int (i + j)) (tDGet (tVar 0) (tC (V.str "used"))) (tC (V.int 1))))
          (tRet (tOp (rI (fun x j => j ≠ 0) fun i j => V.int (i.fmod j)) (tCa spMixed (fun cls d _ H => E cls d H) (tCons (tCa spMixed (fun cls d _ H => E cls d H) (tCons (tVar 4) (tCons (tDGet (tVar 0) (tC (V.str "at"))) tNil))) (tCons (tDGet (tVar 0) (tC (V.str "used"))) tNil))) (tVar 1)))) →
          tl { nx := fun _ H' => Q .non H', rt := Q } [some (.ref d), some (.int b), none, some (.ref c), some (.int cell)] (upd H d (.dK (drw c (av + 1) lv uv))) := by
        rintro _ rfl
        have hd2 : (upd (upd H d (.dK (drw c (av + 1) lv uv))) d (.dK (drw c (av + 1) lv (uv + 1)))) d = some (.dK (drw c (av + 1) lv (uv + 1))) := upd_same
        refine ⟨_, rfl, d, _, rfl, dg (k := .inr "used") hd1 drw_used, _, _, rfl, rfl, _, rfl, d, _, rfl, dp (k := .inr "used") hd1 drw_put_used (by show 4 < 1000; decide), ?_⟩
        refine ⟨_, rfl, _, rfl, d, _, rfl, dg (k := .inr "at") hd2 drw_at, cell, av + 1, rfl, by omega, by omega, fun r r0 => ?_⟩
        refine ⟨_, rfl, d, _, rfl, dg (k := .inr "used") hd2 drw_used, r, uv + 1, rfl, by omega, by omega, fun r' r0' => ?_⟩
        exact ⟨_, rfl, _, _, rfl, rfl, (by show b ≠ 0; omega), fin r'⟩
      refine ⟨_, rfl, _, _, rfl, rfl, ⟨by decide, by decide, by decide⟩, _, _, rfl, rfl, _, rfl, ?_⟩
      refine ifd (fun h1 => ?_) (fun h1 => ?_)
      · refine ⟨_, rfl, d, _, rfl, dg (k := .inr "at") hd1 drw_at, _, rfl, c, _, rfl, .inl hc1, _, _, rfl, rfl, _, rfl, ?_⟩
        refine ifd (fun h2 => ?_) (fun h2 => last _ rfl)
        refine ⟨_, rfl, _, rfl, _, _, rfl, rfl, ⟨(by omega), bb⟩, _, rfl, d, _, rfl, dp (k := .inr "left") hd1 drw_put_left (by show 4 < 1000; decide), ?_⟩
        refine ⟨_, rfl, _, rfl, _, _, rfl, rfl, (by show b ≠ 0; omega), ?_⟩
        rw [upd_upd]
        have hcell : (0 : Int) ≤ cell := by
          have h1' : (10 : Int) ^ (18 : Int).toNat ≤ cell := h1
          have h10 : (0 : Int) ≤ (10 : Int) ^ (18 : Int).toNat := by decide
          omega
        exact hq _ _ (fm b0).1 (fm b0).2 (Dr_up D (by omega) (by omega) (by omega) (by omega) (fd b0 hcell)) But.upd
      · refine iteF ?_
        exact last _ rfl

end
end BJL

namespace BJL
open PySem PySem.Spec PyProof.Rows L2 BJ
section
variable {P : Program} {w : World} {K : PySem.W.Frag} {mg : Str → Option Value} {base : Heap} {a : Adr}
open Evl
def own1 (a : Adr) : List (Addr × List Str) := [(a.InvalidValue, ["value"]), (a.InvalidNumbers, ["value"]), (a.InvalidKey, ["key"]), (a.InvalidIndex, ["index"]), (a.InvalidBrand, ["given"]), (a.InvalidTakes, ["value"]), (a.InvalidVersion, ["value"]), (a.InvalidStream, ["value"]), (a.InvalidLabel, ["value"]), (a.InvalidReduction, ["given"]), (a.InvalidMade, ["given"]), (a.InvalidRow, ["position"]), (a.InvalidName, ["given"]), (a.InvalidEdit, ["position"]), (a.InvalidText, ["offset"]), (a.Refused, ["offset", "reason"]), (a.NotCanonical, ["offset"])]
def own2 (a : Adr) : List (Addr × List Str) := [(a.TooDeep, ["limit"]), (a.TooLong, ["limit"]), (a.SelfArgument, ["given"]), (a.KeyTaken, ["key"]), (a.BrandTaken, ["given"]), (a.Full, ["limit"])]
def own3 (a : Adr) : List (Addr × List Str) := [(a.UnknownBrand, ["given"]), (a.NoEntry, ["key"]), (a.NoName, ["given"]), (a.NothingToUndo, ["count"])]
def own (a : Adr) : List (Addr × List Str) := own1 a ++ own2 a ++ own3 a
def wsOf (what : V) : List V := [what, .str "stack"]
/-- what _law_made gives -/
def Made (a : Adr) (H : Hp) (what : V) (p : Addr) : Prop := ∃ f s t fv sv tv, H p = some (.lst [.ref f, .ref s, .ref t]) ∧ H f = some (.lst fv) ∧ EL H (wsOf what) (own1 a) fv ∧ H s = some (.lst sv) ∧ EL H (wsOf what) (own2 a) sv ∧ H t = some (.lst tv) ∧ EL H (wsOf what) (own3 a) tv
theorem Made.mono {H H' : Hp} {what : V} {p : Addr} (e : Ex H H') (h : Made a H what p) : Made a H' what p := by
  obtain ⟨f, s, t, fv, sv, tv, h1, h2, h3, h4, h5, h6, h7⟩ := h
  exact ⟨f, s, t, fv, sv, tv, e _ _ h1, e _ _ h2, h3.mono e, e _ _ h4, h5.mono e, e _ _ h6, h7.mono e⟩
theorem q_asgE {i : Nat} {te : TE} {tz : TS} {D : Ends} {σ : L2.St} {H : Hp} {ws : List V} {cs : List (Addr × List Str)} (h : EvLE te σ H ws cs) (k : ∀ p vs H1, Ex H H1 → H1 p = some (.lst vs) → EL H1 ws cs vs → tz D (σ.set i (some (.ref p))) H1) : tSeq (tAsg te (gName i)) tz D σ H :=
  h H (Ex.refl _) _ fun p vs H1 e hp el => k p vs H1 e hp el
theorem ele_use {te : TE} {σ : L2.St} {H : Hp} {ws : List V} {cs : List (Addr × List Str)} {Q : VK} (h : EvLE te σ H ws cs) (k : ∀ p vs H2, Ex H H2 → H2 p = some (.lst vs) → EL H2 ws cs vs → Q (.ref p) H2) : te σ H Q := h H (Ex.refl _) Q k
def spMade (a : Adr) : Sp := fun vs H Q _ => ∃ what, vs = [what] ∧ ∀ p H', Ex H H' → Made a H' what p → Q (.ref p) H'
theorem ok__law_made (T : Txt P K mg a) : CallP P w K mg base 3 (.ref a._law_made) (spMade a) := by
  refine T.d__law_made.ok sc__law_made (fun vs H Q E h => ?_) (fun cdv A outer s H vs Q E hr hG h => ?_)
  · obtain ⟨x, rfl, _⟩ := h
    rfl
  · obtain ⟨what, rfl, hq⟩ := h
    refine ⟨_, (pss_cons (ps_set (i := 1) sc__law_made.nd rfl (Or.inl rfl) (pe_lst (pa_cons (pe_err T.e_InvalidValue T.i_InvalidValue T.k_InvalidValue hr (pa_cons (pv 0) pa_nil) (by rfl)) (pa_cons (pe_err T.e_InvalidNumbers T.i_InvalidNumbers T.k_InvalidNumbers hr (pa_cons (pv 0) pa_nil) (by rfl)) (pa_cons (pe_err T.e_InvalidKey T.i_InvalidKey T.k_InvalidKey hr (pa_cons (pv 0) pa_nil) (by rfl)) (pa_cons (pe_err T.e_InvalidIndex T.i_InvalidIndex T.k_InvalidIndex hr (pa_cons (pv 0) pa_nil) (by rfl)) (pa_cons (pe_err T.e_InvalidBrand T.i_InvalidBrand T.k_InvalidBrand hr (pa_cons (pv 0) pa_nil) (by rfl)) pa_nil)))))))
 (pss_cons (ps_set (i := 1) sc__law_made.nd rfl (Or.inl rfl) (pe_op op_catS (pv 1) (pe_lst (pa_cons (pe_err T.e_InvalidTakes T.i_InvalidTakes T.k_InvalidTakes hr (pa_cons (pv 0) pa_nil) (by rfl)) (pa_cons (pe_err T.e_InvalidVersion T.i_InvalidVersion T.k_InvalidVersion hr (pa_cons (pv 0) pa_nil) (by rfl)) (pa_cons (pe_err T.e_InvalidStream T.i_InvalidStream T.k_InvalidStream hr (pa_cons (pv 0) pa_nil) (by rfl)) (pa_cons (pe_err T.e_InvalidLabel T.i_InvalidLabel T.k_InvalidLabel hr (pa_cons (pv 0) pa_nil) (by rfl)) pa_nil)))))))
 (pss_cons (ps_set (i := 1) sc__law_made.nd rfl (Or.inl rfl) (pe_op op_catS (pv 1) (pe_lst (pa_cons (pe_err T.e_InvalidReduction T.i_InvalidReduction T.k_InvalidReduction hr (pa_cons (pv 0) pa_nil) (by rfl)) (pa_cons (pe_err T.e_InvalidMade T.i_InvalidMade T.k_InvalidMade hr (pa_cons (pv 0) pa_nil) (by rfl)) (pa_cons (pe_err T.e_InvalidRow T.i_InvalidRow T.k_InvalidRow hr (pa_cons (pv 0) pa_nil) (by rfl)) (pa_cons (pe_err T.e_InvalidName T.i_InvalidName T.k_InvalidName hr (pa_cons (pv 0) pa_nil) (by rfl)) pa_nil)))))))
 (pss_cons (ps_set (i := 1) sc__law_made.nd rfl (Or.inl rfl) (pe_op op_catS (pv 1) (pe_lst (pa_cons (pe_err T.e_InvalidEdit T.i_InvalidEdit T.k_InvalidEdit hr (pa_cons (pv 0) pa_nil) (by rfl)) (pa_cons (pe_err T.e_InvalidText T.i_InvalidText T.k_InvalidText hr (pa_cons (pv 0) pa_nil) (by rfl)) (pa_cons (pe_err T.e_Refused T.i_Refused T.k_Refused hr (pa_cons (pv 0) (pa_cons pe_str pa_nil)) (by rfl)) (pa_cons (pe_err T.e_NotCanonical T.i_NotCanonical T.k_NotCanonical hr (pa_cons (pv 0) pa_nil) (by rfl)) pa_nil)))))))
 (pss_cons (ps_set (i := 2) sc__law_made.nd rfl (Or.inl rfl) (pe_lst (pa_cons (pe_err T.e_TooDeep T.i_TooDeep T.k_TooDeep hr (pa_cons (pv 0) pa_nil) (by rfl)) (pa_cons (pe_err T.e_TooLong T.i_TooLong T.k_TooLong hr (pa_cons (pv 0) pa_nil) (by rfl)) (pa_cons (pe_err T.e_SelfArgument T.i_SelfArgument T.k_SelfArgument hr (pa_cons (pv 0) pa_nil) (by rfl)) (pa_cons (pe_err T.e_KeyTaken T.i_KeyTaken T.k_KeyTaken hr (pa_cons (pv 0) pa_nil) (by rfl)) (pa_cons (pe_err T.e_BrandTaken T.i_BrandTaken T.k_BrandTaken hr (pa_cons (pv 0) pa_nil) (by rfl)) (pa_cons (pe_err T.e_Full T.i_Full T.k_Full hr (pa_cons (pv 0) pa_nil) (by rfl)) pa_nil))))))))
 (pss_one (ps_ret (pe_lst (pa_cons (pv 1) (pa_cons (pv 2) (pa_cons (pe_lst (pa_cons (pe_err T.e_UnknownBrand T.i_UnknownBrand T.k_UnknownBrand hr (pa_cons (pv 0) pa_nil) (by rfl)) (pa_cons (pe_err T.e_NoEntry T.i_NoEntry T.k_NoEntry hr (pa_cons (pv 0) pa_nil) (by rfl)) (pa_cons (pe_err T.e_NoName T.i_NoName T.k_NoName hr (pa_cons (pv 0) pa_nil) (by rfl)) (pa_cons (pe_err T.e_NothingToUndo T.i_NothingToUndo T.k_NothingToUndo hr (pa_cons (pv 0) pa_nil) (by rfl)) pa_nil))))) pa_nil))))))))))), ?_⟩
    have hst : L2.start ["what", "first", "second"] [what] = [some what, none, none] := rfl
    rw [hst]
    refine q_asgE (ws := wsOf what) (cs := (own1 a).take 5) (ele_lst (eae_cons (ea_cons (ev_var rfl) ea_nil) rfl rfl (eae_cons (ea_cons (ev_var rfl) ea_nil) rfl rfl (eae_cons (ea_cons (ev_var rfl) ea_nil) rfl rfl (eae_cons (ea_cons (ev_var rfl) ea_nil) rfl rfl (eae_cons (ea_cons (ev_var rfl) ea_nil) rfl rfl eae_nil))))) (show 5 ≤ 100000 by decide)) fun p1 v1 H1 e1 h1 l1 => ?_
    refine q_asgE (ws := wsOf what) (cs := (own1 a).take 9) (ele_cat (ele_var rfl h1 l1) (ele_lst (eae_cons (ea_cons (ev_var rfl) ea_nil) rfl rfl (eae_cons (ea_cons (ev_var rfl) ea_nil) rfl rfl (eae_cons (ea_cons (ev_var rfl) ea_nil) rfl rfl (eae_cons (ea_cons (ev_var rfl) ea_nil) rfl rfl eae_nil)))) (show 4 ≤ 100000 by decide)) (show 5 + 4 ≤ 100000 by decide)) fun p2 v2 H2 e2 h2 l2 => ?_
    refine q_asgE (ws := wsOf what) (cs := (own1 a).take 13) (ele_cat (ele_var rfl h2 l2) (ele_lst (eae_cons (ea_cons (ev_var rfl) ea_nil) rfl rfl (eae_cons (ea_cons (ev_var rfl) ea_nil) rfl rfl (eae_cons (ea_cons (ev_var rfl) ea_nil) rfl rfl (eae_cons (ea_cons (ev_var rfl) ea_nil) rfl rfl eae_nil)))) (show 4 ≤ 100000 by decide)) (show 9 + 4 ≤ 100000 by decide)) fun p3 v3 H3 e3 h3 l3 => ?_
    refine q_asgE (ws := wsOf what) (cs := own1 a) (ele_cat (ele_var rfl h3 l3) (ele_lst (eae_cons (ea_cons (ev_var rfl) ea_nil) rfl rfl (eae_cons (ea_cons (ev_var rfl) ea_nil) rfl rfl (eae_cons (ea_cons (ev_var rfl) (ea_cons ev_c ea_nil)) rfl rfl (eae_cons (ea_cons (ev_var rfl) ea_nil) rfl rfl eae_nil)))) (show 4 ≤ 100000 by decide)) (show 13 + 4 ≤ 100000 by decide)) fun p4 v4 H4 e4 h4 l4 => ?_
    refine q_asgE (ws := wsOf what) (cs := own2 a) (ele_lst (eae_cons (ea_cons (ev_var rfl) ea_nil) rfl rfl (eae_cons (ea_cons (ev_var rfl) ea_nil) rfl rfl (eae_cons (ea_cons (ev_var rfl) ea_nil) rfl rfl (eae_cons (ea_cons (ev_var rfl) ea_nil) rfl rfl (eae_cons (ea_cons (ev_var rfl) ea_nil) rfl rfl (eae_cons (ea_cons (ev_var rfl) ea_nil) rfl rfl eae_nil)))))) (show 6 ≤ 100000 by decide)) fun p5 v5 H5 e5 h5 l5 => ?_
    refine ⟨_, rfl, _, rfl, ele_use (ws := wsOf what) (cs := own3 a) (ele_lst (eae_cons (ea_cons (ev_var rfl) ea_nil) rfl rfl (eae_cons (ea_cons (ev_var rfl) ea_nil) rfl rfl (eae_cons (ea_cons (ev_var rfl) ea_nil) rfl rfl (eae_cons (ea_cons (ev_var rfl) ea_nil) rfl rfl eae_nil)))) (show 4 ≤ 100000 by decide)) fun p6 v6 H6 e6 h6 l6 => ⟨(by show 3 ≤ sizeLine; decide), fun p hp => ?_⟩⟩
    have e7 := Ex.new (o := .lst [.ref p4, .ref p5, .ref p6]) hp
    refine hq p _ (((((e1.trans e2).trans e3).trans e4).trans e5).trans (e6.trans e7)) ⟨p4, p5, p6, v4, v5, v6, upd_same, e7 _ _ (e6 _ _ (e5 _ _ h4)), l4.mono ((e5.trans e6).trans e7), e7 _ _ (e6 _ _ h5), l5.mono (e6.trans e7), e7 _ _ h6, l6.mono e7⟩
/-- the i-th class against the j-th -/
theorem kk_of (T : Txt P K mg a) {i : Nat} {C : Addr} {fs : List Str} (hi : (own a)[i]? = some (C, fs)) (j : Nat) (D : Addr) (hj : ((own a).map (·.1))[j]? = some D) : PySem.W.kitOne K (.ref C) (.ref D) = some (i == j) := by
  have h := T.uAll
  have m : ∀ (l : List Addr) (i : Nat) (C : Addr), l[i]? = some C → (C, i) ∈ l.zipIdx := fun l i C h => by
    rw [List.mem_iff_getElem?]
    exact ⟨i, by rw [List.getElem?_zipIdx, h]; simp⟩
  have h1 : ((own a).map (·.1))[i]? = some C := by rw [List.getElem?_map, hi]; rfl
  have h2 := (List.all_eq_true.mp h) (C, i) (m _ i C h1)
  have h3 := (List.all_eq_true.mp h2) (D, j) (m _ j D hj)
  exact eq_of_beq h3
theorem R_of (T : Txt P K mg a) {i : Nat} {C : Addr} {fs : List Str} (hi : (own a)[i]? = some (C, fs)) : ErrR K C := by
  have all : ∀ p ∈ own a, ErrR K p.1 := by
    intro p hp
    simp only [own, own1, own2, own3, List.cons_append, List.nil_append, List.mem_cons, List.not_mem_nil, or_false] at hp
    rcases hp with rfl | rfl | rfl | rfl | rfl | rfl | rfl | rfl | rfl | rfl | rfl | rfl | rfl | rfl | rfl | rfl | rfl | rfl | rfl | rfl | rfl | rfl | rfl | rfl | rfl | rfl | rfl
    · exact T.R_InvalidValue
    · exact T.R_InvalidNumbers
    · exact T.R_InvalidKey
    · exact T.R_InvalidIndex
    · exact T.R_InvalidBrand
    · exact T.R_InvalidTakes
    · exact T.R_InvalidVersion
    · exact T.R_InvalidStream
    · exact T.R_InvalidLabel
    · exact T.R_InvalidReduction
    · exact T.R_InvalidMade
    · exact T.R_InvalidRow
    · exact T.R_InvalidName
    · exact T.R_InvalidEdit
    · exact T.R_InvalidText
    · exact T.R_Refused
    · exact T.R_NotCanonical
    · exact T.R_TooDeep
    · exact T.R_TooLong
    · exact T.R_SelfArgument
    · exact T.R_KeyTaken
    · exact T.R_BrandTaken
    · exact T.R_Full
    · exact T.R_UnknownBrand
    · exact T.R_NoEntry
    · exact T.R_NoName
    · exact T.R_NothingToUndo
  exact all _ (List.mem_of_getElem? hi)
def spKinds (K : PySem.W.Frag) (a : Adr) : Sp := fun vs H Q _ => ∃ (e : Addr) (i : Nat) (C : Addr) (fs : List Str) (d : Addr) (ws : List (Str × V)), vs = [.ref e] ∧ (own a)[i]? = some (C, fs) ∧ ExcAt H e C d ws ∧
  ∀ p H', H p = none → Ex H H' → H' p = some (.lst ((List.range 27).map fun j => .bl (i == j))) → Q (.ref p) H'
theorem ok__law_kinds (T : Txt P K mg a) : CallP P w K mg base 1 (.ref a._law_kinds) (spKinds K a) := by
  refine T.d__law_kinds.ok sc__law_kinds (fun vs H Q E h => ?_) (fun cdv A outer s H vs Q E hr hG h => ?_)
  · obtain ⟨e, i, C, fs, d, ws, rfl, _⟩ := h
    rfl
  · obtain ⟨e, i, C, fs, d, ws, rfl, hi, hat0, hq⟩ := h
    refine ⟨_, (pss_cons (ps_set (i := 1) sc__law_kinds.nd rfl (Or.inl rfl) (pe_lst (pa_cons (pe_callB (call_isG' (K := K) rfl) (by rfl) T.b_isinstance (by decide +kernel) (pa_cons (pv 0) (pa_cons (pe_glob (v := .ref a.InvalidValue) (by rfl) T.g_InvalidValue rfl) pa_nil))) (pa_cons (pe_callB (call_isG' (K := K) rfl) (by rfl) T.b_isinstance (by decide +kernel) (pa_cons (pv 0) (pa_cons (pe_glob (v := .ref a.InvalidNumbers) (by rfl) T.g_InvalidNumbers rfl) pa_nil))) (pa_cons (pe_callB (call_isG' (K := K) rfl) (by rfl) T.b_isinstance (by decide +kernel) (pa_cons (pv 0) (pa_cons (pe_glob (v := .ref a.InvalidKey) (by rfl) T.g_InvalidKey rfl) pa_nil))) pa_nil)))))
 (pss_cons (ps_set (i := 1) sc__law_kinds.nd rfl (Or.inl rfl) (pe_op op_catS (pv 1) (pe_lst (pa_cons (pe_callB (call_isG' (K := K) rfl) (by rfl) T.b_isinstance (by decide +kernel) (pa_cons (pv 0) (pa_cons (pe_glob (v := .ref a.InvalidIndex) (by rfl) T.g_InvalidIndex rfl) pa_nil))) (pa_cons (pe_callB (call_isG' (K := K) rfl) (by rfl) T.b_isinstance (by decide +kernel) (pa_cons (pv 0) (pa_cons (pe_glob (v := .ref a.InvalidBrand) (by rfl) T.g_InvalidBrand rfl) pa_nil))) (pa_cons (pe_callB (call_isG' (K := K) rfl) (by rfl) T.b_isinstance (by decide +kernel) (pa_cons (pv 0) (pa_cons (pe_glob (v := .ref a.InvalidTakes) (by rfl) T.g_InvalidTakes rfl) pa_nil))) pa_nil))))))
 (pss_cons (ps_set (i := 1) sc__law_kinds.nd rfl (Or.inl rfl) (pe_op op_catS (pv 1) (pe_lst (pa_cons (pe_callB (call_isG' (K := K) rfl) (by rfl) T.b_isinstance (by decide +kernel) (pa_cons (pv 0) (pa_cons (pe_glob (v := .ref a.InvalidVersion) (by rfl) T.g_InvalidVersion rfl) pa_nil))) (pa_cons (pe_callB (call_isG' (K := K) rfl) (by rfl) T.b_isinstance (by decide +kernel) (pa_cons (pv 0) (pa_cons (pe_glob (v := .ref a.InvalidStream) (by rfl) T.g_InvalidStream rfl) pa_nil))) (pa_cons (pe_callB (call_isG' (K := K) rfl) (by rfl) T.b_isinstance (by decide +kernel) (pa_cons (pv 0) (pa_cons (pe_glob (v := .ref a.InvalidLabel) (by rfl) T.g_InvalidLabel rfl) pa_nil))) pa_nil))))))
 (pss_cons (ps_set (i := 1) sc__law_kinds.nd rfl (Or.inl rfl) (pe_op op_catS (pv 1) (pe_lst (pa_cons (pe_callB (call_isG' (K := K) rfl) (by rfl) T.b_isinstance (by decide +kernel) (pa_cons (pv 0) (pa_cons (pe_glob (v := .ref a.InvalidReduction) (by rfl) T.g_InvalidReduction rfl) pa_nil))) (pa_cons (pe_callB (call_isG' (K := K) rfl) (by rfl) T.b_isinstance (by decide +kernel) (pa_cons (pv 0) (pa_cons (pe_glob (v := .ref a.InvalidMade) (by rfl) T.g_InvalidMade rfl) pa_nil))) (pa_cons (pe_callB (call_isG' (K := K) rfl) (by rfl) T.b_isinstance (by decide +kernel) (pa_cons (pv 0) (pa_cons (pe_glob (v := .ref a.InvalidRow) (by rfl) T.g_InvalidRow rfl) pa_nil))) pa_nil))))))
 (pss_cons (ps_set (i := 1) sc__law_kinds.nd rfl (Or.inl rfl) (pe_op op_catS (pv 1) (pe_lst (pa_cons (pe_callB (call_isG' (K := K) rfl) (by rfl) T.b_isinstance (by decide +kernel) (pa_cons (pv 0) (pa_cons (pe_glob (v := .ref a.InvalidName) (by rfl) T.g_InvalidName rfl) pa_nil))) (pa_cons (pe_callB (call_isG' (K := K) rfl) (by rfl) T.b_isinstance (by decide +kernel) (pa_cons (pv 0) (pa_cons (pe_glob (v := .ref a.InvalidEdit) (by rfl) T.g_InvalidEdit rfl) pa_nil))) (pa_cons (pe_callB (call_isG' (K := K) rfl) (by rfl) T.b_isinstance (by decide +kernel) (pa_cons (pv 0) (pa_cons (pe_glob (v := .ref a.InvalidText) (by rfl) T.g_InvalidText rfl) pa_nil))) pa_nil))))))
 (pss_cons (ps_set (i := 1) sc__law_kinds.nd rfl (Or.inl rfl) (pe_op op_catS (pv 1) (pe_lst (pa_cons (pe_callB (call_isG' (K := K) rfl) (by rfl) T.b_isinstance (by decide +kernel) (pa_cons (pv 0) (pa_cons (pe_glob (v := .ref a.Refused) (by rfl) T.g_Refused rfl) pa_nil))) (pa_cons (pe_callB (call_isG' (K := K) rfl) (by rfl) T.b_isinstance (by decide +kernel) (pa_cons (pv 0) (pa_cons (pe_glob (v := .ref a.NotCanonical) (by rfl) T.g_NotCanonical rfl) pa_nil))) (pa_cons (pe_callB (call_isG' (K := K) rfl) (by rfl) T.b_isinstance (by decide +kernel) (pa_cons (pv 0) (pa_cons (pe_glob (v := .ref a.TooDeep) (by rfl) T.g_TooDeep rfl) pa_nil))) pa_nil))))))
 (pss_cons (ps_set (i := 1) sc__law_kinds.nd rfl (Or.inl rfl) (pe_op op_catS (pv 1) (pe_lst (pa_cons (pe_callB (call_isG' (K := K) rfl) (by rfl) T.b_isinstance (by decide +kernel) (pa_cons (pv 0) (pa_cons (pe_glob (v := .ref a.TooLong) (by rfl) T.g_TooLong rfl) pa_nil))) (pa_cons (pe_callB (call_isG' (K := K) rfl) (by rfl) T.b_isinstance (by decide +kernel) (pa_cons (pv 0) (pa_cons (pe_glob (v := .ref a.SelfArgument) (by rfl) T.g_SelfArgument rfl) pa_nil))) (pa_cons (pe_callB (call_isG' (K := K) rfl) (by rfl) T.b_isinstance (by decide +kernel) (pa_cons (pv 0) (pa_cons (pe_glob (v := .ref a.KeyTaken) (by rfl) T.g_KeyTaken rfl) pa_nil))) pa_nil))))))
 (pss_cons (ps_set (i := 1) sc__law_kinds.nd rfl (Or.inl rfl) (pe_op op_catS (pv 1) (pe_lst (pa_cons (pe_callB (call_isG' (K := K) rfl) (by rfl) T.b_isinstance (by decide +kernel) (pa_cons (pv 0) (pa_cons (pe_glob (v := .ref a.BrandTaken) (by rfl) T.g_BrandTaken rfl) pa_nil))) (pa_cons (pe_callB (call_isG' (K := K) rfl) (by rfl) T.b_isinstance (by decide +kernel) (pa_cons (pv 0) (pa_cons (pe_glob (v := .ref a.Full) (by rfl) T.g_Full rfl) pa_nil))) (pa_cons (pe_callB (call_isG' (K := K) rfl) (by rfl) T.b_isinstance (by decide +kernel) (pa_cons (pv 0) (pa_cons (pe_glob (v := .ref a.UnknownBrand) (by rfl) T.g_UnknownBrand rfl) pa_nil))) pa_nil))))))
 (pss_one (ps_ret (pe_op op_catS (pv 1) (pe_lst (pa_cons (pe_callB (call_isG' (K := K) rfl) (by rfl) T.b_isinstance (by decide +kernel) (pa_cons (pv 0) (pa_cons (pe_glob (v := .ref a.NoEntry) (by rfl) T.g_NoEntry rfl) pa_nil))) (pa_cons (pe_callB (call_isG' (K := K) rfl) (by rfl) T.b_isinstance (by decide +kernel) (pa_cons (pv 0) (pa_cons (pe_glob (v := .ref a.NoName) (by rfl) T.g_NoName rfl) pa_nil))) (pa_cons (pe_callB (call_isG' (K := K) rfl) (by rfl) T.b_isinstance (by decide +kernel) (pa_cons (pv 0) (pa_cons (pe_glob (v := .ref a.NothingToUndo) (by rfl) T.g_NothingToUndo rfl) pa_nil))) pa_nil))))))))))))))), ?_⟩
    have hst : L2.start ["e", "found"] [.ref e] = [some (.ref e), none] := rfl
    rw [hst]
    have R := R_of T hi
    have kk := fun j D hj => kk_of T hi j D hj
    have hat := hat0
    refine q_asgL (el_lst (ea_cons (ev_cb (ea_cons (ev_var rfl) (ea_cons ev_c ea_nil)) (rc_isE hat R (kk 0 a.InvalidValue rfl))) (ea_cons (ev_cb (ea_cons (ev_var rfl) (ea_cons ev_c ea_nil)) (rc_isE hat R (kk 1 a.InvalidNumbers rfl))) (ea_cons (ev_cb (ea_cons (ev_var rfl) (ea_cons ev_c ea_nil)) (rc_isE hat R (kk 2 a.InvalidKey rfl))) ea_nil))) (show 3 ≤ 100000 by decide)) fun p1 H1 n1 e1 h1 => ?_
    have hat := excAt_ex e1 hat
    refine q_asgL (el_catV rfl h1 (el_lst (ea_cons (ev_cb (ea_cons (ev_var rfl) (ea_cons ev_c ea_nil)) (rc_isE hat R (kk 3 a.InvalidIndex rfl))) (ea_cons (ev_cb (ea_cons (ev_var rfl) (ea_cons ev_c ea_nil)) (rc_isE hat R (kk 4 a.InvalidBrand rfl))) (ea_cons (ev_cb (ea_cons (ev_var rfl) (ea_cons ev_c ea_nil)) (rc_isE hat R (kk 5 a.InvalidTakes rfl))) ea_nil))) (show 3 ≤ 100000 by decide)) (show 3 + 3 ≤ 100000 by decide)) fun p2 H2 n2 e2 h2 => ?_
    have hat := excAt_ex e2 hat
    refine q_asgL (el_catV rfl h2 (el_lst (ea_cons (ev_cb (ea_cons (ev_var rfl) (ea_cons ev_c ea_nil)) (rc_isE hat R (kk 6 a.InvalidVersion rfl))) (ea_cons (ev_cb (ea_cons (ev_var rfl) (ea_cons ev_c ea_nil)) (rc_isE hat R (kk 7 a.InvalidStream rfl))) (ea_cons (ev_cb (ea_cons (ev_var rfl) (ea_cons ev_c ea_nil)) (rc_isE hat R (kk 8 a.InvalidLabel rfl))) ea_nil))) (show 3 ≤ 100000 by decide)) (show 6 + 3 ≤ 100000 by decide)) fun p3 H3 n3 e3 h3 => ?_
    have hat := excAt_ex e3 hat
    refine q_asgL (el_catV rfl h3 (el_lst (ea_cons (ev_cb (ea_cons (ev_var rfl) (ea_cons ev_c ea_nil)) (rc_isE hat R (kk 9 a.InvalidReduction rfl))) (ea_cons (ev_cb (ea_cons (ev_var rfl) (ea_cons ev_c ea_nil)) (rc_isE hat R (kk 10 a.InvalidMade rfl))) (ea_cons (ev_cb (ea_cons (ev_var rfl) (ea_cons ev_c ea_nil)) (rc_isE hat R (kk 11 a.InvalidRow rfl))) ea_nil))) (show 3 ≤ 100000 by decide)) (show 9 + 3 ≤ 100000 by decide)) fun p4 H4 n4 e4 h4 => ?_
    have hat := excAt_ex e4 hat
    refine q_asgL (el_catV rfl h4 (el_lst (ea_cons (ev_cb (ea_cons (ev_var rfl) (ea_cons ev_c ea_nil)) (rc_isE hat R (kk 12 a.InvalidName rfl))) (ea_cons (ev_cb (ea_cons (ev_var rfl) (ea_cons ev_c ea_nil)) (rc_isE hat R (kk 13 a.InvalidEdit rfl))) (ea_cons (ev_cb (ea_cons (ev_var rfl) (ea_cons ev_c ea_nil)) (rc_isE hat R (kk 14 a.InvalidText rfl))) ea_nil))) (show 3 ≤ 100000 by decide)) (show 12 + 3 ≤ 100000 by decide)) fun p5 H5 n5 e5 h5 => ?_
    have hat := excAt_ex e5 hat
    refine q_asgL (el_catV rfl h5 (el_lst (ea_cons (ev_cb (ea_cons (ev_var rfl) (ea_cons ev_c ea_nil)) (rc_isE hat R (kk 15 a.Refused rfl))) (ea_cons (ev_cb (ea_cons (ev_var rfl) (ea_cons ev_c ea_nil)) (rc_isE hat R (kk 16 a.NotCanonical rfl))) (ea_cons (ev_cb (ea_cons (ev_var rfl) (ea_cons ev_c ea_nil)) (rc_isE hat R (kk 17 a.TooDeep rfl))) ea_nil))) (show 3 ≤ 100000 by decide)) (show 15 + 3 ≤ 100000 by decide)) fun p6 H6 n6 e6 h6 => ?_
    have hat := excAt_ex e6 hat
    refine q_asgL (el_catV rfl h6 (el_lst (ea_cons (ev_cb (ea_cons (ev_var rfl) (ea_cons ev_c ea_nil)) (rc_isE hat R (kk 18 a.TooLong rfl))) (ea_cons (ev_cb (ea_cons (ev_var rfl) (ea_cons ev_c ea_nil)) (rc_isE hat R (kk 19 a.SelfArgument rfl))) (ea_cons (ev_cb (ea_cons (ev_var rfl) (ea_cons ev_c ea_nil)) (rc_isE hat R (kk 20 a.KeyTaken rfl))) ea_nil))) (show 3 ≤ 100000 by decide)) (show 18 + 3 ≤ 100000 by decide)) fun p7 H7 n7 e7 h7 => ?_
    have hat := excAt_ex e7 hat
    refine q_asgL (el_catV rfl h7 (el_lst (ea_cons (ev_cb (ea_cons (ev_var rfl) (ea_cons ev_c ea_nil)) (rc_isE hat R (kk 21 a.BrandTaken rfl))) (ea_cons (ev_cb (ea_cons (ev_var rfl) (ea_cons ev_c ea_nil)) (rc_isE hat R (kk 22 a.Full rfl))) (ea_cons (ev_cb (ea_cons (ev_var rfl) (ea_cons ev_c ea_nil)) (rc_isE hat R (kk 23 a.UnknownBrand rfl))) ea_nil))) (show 3 ≤ 100000 by decide)) (show 21 + 3 ≤ 100000 by decide)) fun p8 H8 n8 e8 h8 => ?_
    have hat := excAt_ex e8 hat
    exact s_retL (el_catV rfl h8 (el_lst (ea_cons (ev_cb (ea_cons (ev_var rfl) (ea_cons ev_c ea_nil)) (rc_isE hat R (kk 24 a.NoEntry rfl))) (ea_cons (ev_cb (ea_cons (ev_var rfl) (ea_cons ev_c ea_nil)) (rc_isE hat R (kk 25 a.NoName rfl))) (ea_cons (ev_cb (ea_cons (ev_var rfl) (ea_cons ev_c ea_nil)) (rc_isE hat R (kk 26 a.NothingToUndo rfl))) ea_nil))) (show 3 ≤ 100000 by decide)) (show 24 + 3 ≤ 100000 by decide)) fun p H9 n9 e9 h9 => hq p H9 (fresh_back (((((((e1.trans e2).trans e3).trans e4).trans e5).trans e6).trans e7).trans e8) n9) ((((((((e1.trans e2).trans e3).trans e4).trans e5).trans e6).trans e7).trans e8).trans e9) h9

end
end BJL

namespace BJL
open PySem PySem.Spec PyProof.Rows L2 BJ
section
variable {P : Program} {w : World} {K : PySem.W.Frag} {mg : Str → Option Value} {base : Heap} {a : Adr}
open Evl
theorem ev_errkw {C : Addr} {fs : List Str} {rev : Bool} {zs : List V} {v : V} {f : Str} {tk : TA} {σ : L2.St} {H : Hp} (h : EvA tk σ H zs) (hl : zs.length = fs.length) (R : ErrR K C) (nf : PySem.W.findIn K (.ref C) f = some none) (hlk : (fs.zip (gR rev zs)).lookup f = some v) :
    Ev (tExf K (tErrKw C fs rev tk) f) σ H v := fun H1 e Q q => h H1 e _ fun H2 e2 => ⟨hl, fun a d H3 ha e3 hat => ⟨a, C, d, _, v, rfl, hat, R, nf, hlk, q H3 (e2.trans e3)⟩⟩
theorem q_asgLN {i : Nat} {te : TE} {tz : TS} {D : Ends} {σ : L2.St} {H : Hp} {xs : List V} (h : EvLN te σ H xs) (k : ∀ p H1, H p = none → sysModules < p → Ex H H1 → H1 p = some (.lst xs) → tz D (σ.set i (some (.ref p))) H1) : tSeq (tAsg te (gName i)) tz D σ H :=
  h H (Ex.refl _) _ fun p H1 n s e hp => k p H1 n s e hp
theorem s_retLN {te : TE} {D : Ends} {σ : L2.St} {H : Hp} {xs : List V} (h : EvLN te σ H xs) (k : ∀ p H1, H p = none → sysModules < p → Ex H H1 → H1 p = some (.lst xs) → D.rt (.ref p) H1) : tRet te D σ H := h H (Ex.refl _) _ k
def spFields (a : Adr) : Sp := fun vs H Q _ => ∃ p what, vs = [.ref p] ∧ Made a H what p ∧ ∀ q f H', sysModules < f → Ex H H' → H' q = some (.tup [.ref f, .str "stack"]) → H' f = some (.lst (List.replicate 27 what)) → Q (.ref q) H'
theorem ok__law_fields (T : Txt P K mg a) : CallP P w K mg base 1 (.ref a._law_fields) (spFields a) := by
  refine T.d__law_fields.ok sc__law_fields (fun vs H Q E h => ?_) (fun cdv A outer s H vs Q E hr hG h => ?_)
  · obtain ⟨p, what, rfl, _⟩ := h
    rfl
  · obtain ⟨p, what, rfl, ⟨f, s2, t, fv, sv, tv, h0, h1, l1, h2, l2, h3, l3⟩, hq⟩ := h
    refine ⟨_, (pss_cons (ps_par3 (i := 1) (j := 2) (l := 3) rfl sc__law_fields.nd rfl rfl rfl (by decide) (by decide) (by decide) rfl rfl rfl (pa_cons (pe_ix (ix_list' (K := K) rfl) (pv 0) pe_int (fun _ _ => rfl)) (pa_cons (pe_ix (ix_list' (K := K) rfl) (pv 0) pe_int (fun _ _ => rfl)) (pa_cons (pe_ix (ix_list' (K := K) rfl) (pv 0) pe_int (fun _ _ => rfl)) pa_nil))) (by rfl))
 (pss_cons (ps_set (i := 4) sc__law_fields.nd rfl (Or.inl rfl) (pe_lst (pa_cons (pe_exf (pe_ix (ix_list' (K := K) rfl) (pv 1) pe_int (fun _ _ => rfl))) (pa_cons (pe_exf (pe_ix (ix_list' (K := K) rfl) (pv 1) pe_int (fun _ _ => rfl))) (pa_cons (pe_exf (pe_ix (ix_list' (K := K) rfl) (pv 1) pe_int (fun _ _ => rfl))) (pa_cons (pe_exf (pe_ix (ix_list' (K := K) rfl) (pv 1) pe_int (fun _ _ => rfl))) (pa_cons (pe_exf (pe_ix (ix_list' (K := K) rfl) (pv 1) pe_int (fun _ _ => rfl))) (pa_cons (pe_exf (pe_ix (ix_list' (K := K) rfl) (pv 1) pe_int (fun _ _ => rfl))) pa_nil))))))))
 (pss_cons (ps_set (i := 4) sc__law_fields.nd rfl (Or.inl rfl) (pe_op op_catN (pv 4) (pe_lst (pa_cons (pe_exf (pe_ix (ix_list' (K := K) rfl) (pv 1) pe_int (fun _ _ => rfl))) (pa_cons (pe_exf (pe_ix (ix_list' (K := K) rfl) (pv 1) pe_int (fun _ _ => rfl))) (pa_cons (pe_exf (pe_ix (ix_list' (K := K) rfl) (pv 1) pe_int (fun _ _ => rfl))) (pa_cons (pe_exf (pe_ix (ix_list' (K := K) rfl) (pv 1) pe_int (fun _ _ => rfl))) (pa_cons (pe_exf (pe_ix (ix_list' (K := K) rfl) (pv 1) pe_int (fun _ _ => rfl))) pa_nil))))))))
 (pss_cons (ps_set (i := 4) sc__law_fields.nd rfl (Or.inl rfl) (pe_op op_catN (pv 4) (pe_lst (pa_cons (pe_exf (pe_ix (ix_list' (K := K) rfl) (pv 1) pe_int (fun _ _ => rfl))) (pa_cons (pe_exf (pe_ix (ix_list' (K := K) rfl) (pv 1) pe_int (fun _ _ => rfl))) (pa_cons (pe_exf (pe_ix (ix_list' (K := K) rfl) (pv 1) pe_int (fun _ _ => rfl))) (pa_cons (pe_exf (pe_ix (ix_list' (K := K) rfl) (pv 1) pe_int (fun _ _ => rfl))) (pa_cons (pe_exf (pe_ix (ix_list' (K := K) rfl) (pv 1) pe_int (fun _ _ => rfl))) pa_nil))))))))
 (pss_cons (ps_set (i := 4) sc__law_fields.nd rfl (Or.inl rfl) (pe_op op_catN (pv 4) (pe_lst (pa_cons (pe_exf (pe_ix (ix_list' (K := K) rfl) (pv 1) pe_int (fun _ _ => rfl))) (pa_cons (pe_exf (pe_ix (ix_list' (K := K) rfl) (pv 2) pe_int (fun _ _ => rfl))) (pa_cons (pe_exf (pe_ix (ix_list' (K := K) rfl) (pv 2) pe_int (fun _ _ => rfl))) (pa_cons (pe_exf (pe_ix (ix_list' (K := K) rfl) (pv 2) pe_int (fun _ _ => rfl))) (pa_cons (pe_exf (pe_ix (ix_list' (K := K) rfl) (pv 2) pe_int (fun _ _ => rfl))) pa_nil))))))))
 (pss_cons (ps_set (i := 4) sc__law_fields.nd rfl (Or.inl rfl) (pe_op op_catN (pv 4) (pe_lst (pa_cons (pe_exf (pe_ix (ix_list' (K := K) rfl) (pv 2) pe_int (fun _ _ => rfl))) (pa_cons (pe_exf (pe_ix (ix_list' (K := K) rfl) (pv 2) pe_int (fun _ _ => rfl))) (pa_cons (pe_exf (pe_ix (ix_list' (K := K) rfl) (pv 3) pe_int (fun _ _ => rfl))) (pa_cons (pe_exf (pe_ix (ix_list' (K := K) rfl) (pv 3) pe_int (fun _ _ => rfl))) (pa_cons (pe_exf (pe_ix (ix_list' (K := K) rfl) (pv 3) pe_int (fun _ _ => rfl))) (pa_cons (pe_exf (pe_ix (ix_list' (K := K) rfl) (pv 3) pe_int (fun _ _ => rfl))) pa_nil)))))))))
 (pss_one (ps_ret (pe_tup (pa_cons (pv 4) (pa_cons (pe_exf (pe_ix (ix_list' (K := K) rfl) (pv 1) pe_int (fun _ _ => rfl))) pa_nil))))))))))), ?_⟩
    have hst : L2.start ["made", "first", "second", "third", "found"] [.ref p] = [some (.ref p), none, none, none, none] := rfl
    rw [hst]
    refine ⟨_, rfl, p, _, 0, .ref f, rfl, rfl, sq_of h0, rfl, _, rfl, p, _, 1, .ref s2, rfl, rfl, sq_of h0, rfl, _, rfl, p, _, 2, .ref t, rfl, rfl, sq_of h0, rfl, _, _, _, rfl, ?_⟩
    obtain ⟨x0, d0, g0, t0⟩ := l1.get 0 a.InvalidValue ["value"] rfl
    obtain ⟨x1, d1, g1, t1⟩ := l1.get 1 a.InvalidNumbers ["value"] rfl
    obtain ⟨x2, d2, g2, t2⟩ := l1.get 2 a.InvalidKey ["key"] rfl
    obtain ⟨x3, d3, g3, t3⟩ := l1.get 3 a.InvalidIndex ["index"] rfl
    obtain ⟨x4, d4, g4, t4⟩ := l1.get 4 a.InvalidBrand ["given"] rfl
    obtain ⟨x5, d5, g5, t5⟩ := l1.get 5 a.InvalidTakes ["value"] rfl
    obtain ⟨x6, d6, g6, t6⟩ := l1.get 6 a.InvalidVersion ["value"] rfl
    obtain ⟨x7, d7, g7, t7⟩ := l1.get 7 a.InvalidStream ["value"] rfl
    obtain ⟨x8, d8, g8, t8⟩ := l1.get 8 a.InvalidLabel ["value"] rfl
    obtain ⟨x9, d9, g9, t9⟩ := l1.get 9 a.InvalidReduction ["given"] rfl
    obtain ⟨x10, d10, g10, t10⟩ := l1.get 10 a.InvalidMade ["given"] rfl
    obtain ⟨x11, d11, g11, t11⟩ := l1.get 11 a.InvalidRow ["position"] rfl
    obtain ⟨x12, d12, g12, t12⟩ := l1.get 12 a.InvalidName ["given"] rfl
    obtain ⟨x13, d13, g13, t13⟩ := l1.get 13 a.InvalidEdit ["position"] rfl
    obtain ⟨x14, d14, g14, t14⟩ := l1.get 14 a.InvalidText ["offset"] rfl
    obtain ⟨x15, d15, g15, t15⟩ := l1.get 15 a.Refused ["offset", "reason"] rfl
    obtain ⟨x16, d16, g16, t16⟩ := l1.get 16 a.NotCanonical ["offset"] rfl
    obtain ⟨x17, d17, g17, t17⟩ := l2.get 0 a.TooDeep ["limit"] rfl
    obtain ⟨x18, d18, g18, t18⟩ := l2.get 1 a.TooLong ["limit"] rfl
    obtain ⟨x19, d19, g19, t19⟩ := l2.get 2 a.SelfArgument ["given"] rfl
    obtain ⟨x20, d20, g20, t20⟩ := l2.get 3 a.KeyTaken ["key"] rfl
    obtain ⟨x21, d21, g21, t21⟩ := l2.get 4 a.BrandTaken ["given"] rfl
    obtain ⟨x22, d22, g22, t22⟩ := l2.get 5 a.Full ["limit"] rfl
    obtain ⟨x23, d23, g23, t23⟩ := l3.get 0 a.UnknownBrand ["given"] rfl
    obtain ⟨x24, d24, g24, t24⟩ := l3.get 1 a.NoEntry ["key"] rfl
    obtain ⟨x25, d25, g25, t25⟩ := l3.get 2 a.NoName ["given"] rfl
    obtain ⟨x26, d26, g26, t26⟩ := l3.get 3 a.NothingToUndo ["count"] rfl
    have y0 := Ex.refl H
    refine q_asgL (el_lst (ea_cons (ev_exf (ev_op (ev_var rfl) ev_c (rv_ixL (sq_of (y0 _ _ h1)) (atI_nat g0))) (excAt_ex y0 t0) T.R_InvalidValue T.n_InvalidValue_value rfl) (ea_cons (ev_exf (ev_op (ev_var rfl) ev_c (rv_ixL (sq_of (y0 _ _ h1)) (atI_nat g1))) (excAt_ex y0 t1) T.R_InvalidNumbers T.n_InvalidNumbers_value rfl) (ea_cons (ev_exf (ev_op (ev_var rfl) ev_c (rv_ixL (sq_of (y0 _ _ h1)) (atI_nat g2))) (excAt_ex y0 t2) T.R_InvalidKey T.n_InvalidKey_key rfl) (ea_cons (ev_exf (ev_op (ev_var rfl) ev_c (rv_ixL (sq_of (y0 _ _ h1)) (atI_nat g3))) (excAt_ex y0 t3) T.R_InvalidIndex T.n_InvalidIndex_index rfl) (ea_cons (ev_exf (ev_op (ev_var rfl) ev_c (rv_ixL (sq_of (y0 _ _ h1)) (atI_nat g4))) (excAt_ex y0 t4) T.R_InvalidBrand T.n_InvalidBrand_given rfl) (ea_cons (ev_exf (ev_op (ev_var rfl) ev_c (rv_ixL (sq_of (y0 _ _ h1)) (atI_nat g5))) (excAt_ex y0 t5) T.R_InvalidTakes T.n_InvalidTakes_value rfl) ea_nil)))))) (show 6 ≤ 100000 by decide)) fun p1 H1 n1 e1 k1 => ?_
    have y1 := y0.trans e1
    refine q_asgLN (eln_catV rfl k1 (el_lst (ea_cons (ev_exf (ev_op (ev_var rfl) ev_c (rv_ixL (sq_of (y1 _ _ h1)) (atI_nat g6))) (excAt_ex y1 t6) T.R_InvalidVersion T.n_InvalidVersion_value rfl) (ea_cons (ev_exf (ev_op (ev_var rfl) ev_c (rv_ixL (sq_of (y1 _ _ h1)) (atI_nat g7))) (excAt_ex y1 t7) T.R_InvalidStream T.n_InvalidStream_value rfl) (ea_cons (ev_exf (ev_op (ev_var rfl) ev_c (rv_ixL (sq_of (y1 _ _ h1)) (atI_nat g8))) (excAt_ex y1 t8) T.R_InvalidLabel T.n_InvalidLabel_value rfl) (ea_cons (ev_exf (ev_op (ev_var rfl) ev_c (rv_ixL (sq_of (y1 _ _ h1)) (atI_nat g9))) (excAt_ex y1 t9) T.R_InvalidReduction T.n_InvalidReduction_given rfl) (ea_cons (ev_exf (ev_op (ev_var rfl) ev_c (rv_ixL (sq_of (y1 _ _ h1)) (atI_nat g10))) (excAt_ex y1 t10) T.R_InvalidMade T.n_InvalidMade_given rfl) ea_nil))))) (show 5 ≤ 100000 by decide)) (show 6 + 5 ≤ 100000 by decide)) fun p2 H2 n2 s2 e2 k2 => ?_
    have y2 := y1.trans e2
    refine q_asgLN (eln_catV rfl k2 (el_lst (ea_cons (ev_exf (ev_op (ev_var rfl) ev_c (rv_ixL (sq_of (y2 _ _ h1)) (atI_nat g11))) (excAt_ex y2 t11) T.R_InvalidRow T.n_InvalidRow_position rfl) (ea_cons (ev_exf (ev_op (ev_var rfl) ev_c (rv_ixL (sq_of (y2 _ _ h1)) (atI_nat g12))) (excAt_ex y2 t12) T.R_InvalidName T.n_InvalidName_given rfl) (ea_cons (ev_exf (ev_op (ev_var rfl) ev_c (rv_ixL (sq_of (y2 _ _ h1)) (atI_nat g13))) (excAt_ex y2 t13) T.R_InvalidEdit T.n_InvalidEdit_position rfl) (ea_cons (ev_exf (ev_op (ev_var rfl) ev_c (rv_ixL (sq_of (y2 _ _ h1)) (atI_nat g14))) (excAt_ex y2 t14) T.R_InvalidText T.n_InvalidText_offset rfl) (ea_cons (ev_exf (ev_op (ev_var rfl) ev_c (rv_ixL (sq_of (y2 _ _ h1)) (atI_nat g15))) (excAt_ex y2 t15) T.R_Refused T.n_Refused_offset rfl) ea_nil))))) (show 5 ≤ 100000 by decide)) (show 11 + 5 ≤ 100000 by decide)) fun p3 H3 n3 s3 e3 k3 => ?_
    have y3 := y2.trans e3
    refine q_asgLN (eln_catV rfl k3 (el_lst (ea_cons (ev_exf (ev_op (ev_var rfl) ev_c (rv_ixL (sq_of (y3 _ _ h1)) (atI_nat g16))) (excAt_ex y3 t16) T.R_NotCanonical T.n_NotCanonical_offset rfl) (ea_cons (ev_exf (ev_op (ev_var rfl) ev_c (rv_ixL (sq_of (y3 _ _ h2)) (atI_nat g17))) (excAt_ex y3 t17) T.R_TooDeep T.n_TooDeep_limit rfl) (ea_cons (ev_exf (ev_op (ev_var rfl) ev_c (rv_ixL (sq_of (y3 _ _ h2)) (atI_nat g18))) (excAt_ex y3 t18) T.R_TooLong T.n_TooLong_limit rfl) (ea_cons (ev_exf (ev_op (ev_var rfl) ev_c (rv_ixL (sq_of (y3 _ _ h2)) (atI_nat g19))) (excAt_ex y3 t19) T.R_SelfArgument T.n_SelfArgument_given rfl) (ea_cons (ev_exf (ev_op (ev_var rfl) ev_c (rv_ixL (sq_of (y3 _ _ h2)) (atI_nat g20))) (excAt_ex y3 t20) T.R_KeyTaken T.n_KeyTaken_key rfl) ea_nil))))) (show 5 ≤ 100000 by decide)) (show 16 + 5 ≤ 100000 by decide)) fun p4 H4 n4 s4 e4 k4 => ?_
    have y4 := y3.trans e4
    refine q_asgLN (eln_catV rfl k4 (el_lst (ea_cons (ev_exf (ev_op (ev_var rfl) ev_c (rv_ixL (sq_of (y4 _ _ h2)) (atI_nat g21))) (excAt_ex y4 t21) T.R_BrandTaken T.n_BrandTaken_given rfl) (ea_cons (ev_exf (ev_op (ev_var rfl) ev_c (rv_ixL (sq_of (y4 _ _ h2)) (atI_nat g22))) (excAt_ex y4 t22) T.R_Full T.n_Full_limit rfl) (ea_cons (ev_exf (ev_op (ev_var rfl) ev_c (rv_ixL (sq_of (y4 _ _ h3)) (atI_nat g23))) (excAt_ex y4 t23) T.R_UnknownBrand T.n_UnknownBrand_given rfl) (ea_cons (ev_exf (ev_op (ev_var rfl) ev_c (rv_ixL (sq_of (y4 _ _ h3)) (atI_nat g24))) (excAt_ex y4 t24) T.R_NoEntry T.n_NoEntry_key rfl) (ea_cons (ev_exf (ev_op (ev_var rfl) ev_c (rv_ixL (sq_of (y4 _ _ h3)) (atI_nat g25))) (excAt_ex y4 t25) T.R_NoName T.n_NoName_given rfl) (ea_cons (ev_exf (ev_op (ev_var rfl) ev_c (rv_ixL (sq_of (y4 _ _ h3)) (atI_nat g26))) (excAt_ex y4 t26) T.R_NothingToUndo T.n_NothingToUndo_count rfl) ea_nil)))))) (show 6 ≤ 100000 by decide)) (show 21 + 6 ≤ 100000 by decide)) fun p5 H5 n5 s5 e5 k5 => ?_
    have y5 := y4.trans e5
    exact s_retU (eu_tup (ea_cons (ev_var rfl) (ea_cons (ev_exf (ev_op (ev_var rfl) ev_c (rv_ixL (sq_of (y5 _ _ h1)) (atI_nat g15))) (excAt_ex y5 t15) T.R_Refused T.n_Refused_reason rfl) ea_nil)) (show 2 ≤ 100000 by decide)) fun q H9 n9 e9 h9 => hq q p5 H9 s5 (y5.trans e9) h9 (e9 _ _ k5)
def spNamed : Sp := fun vs H Q _ => ∃ what, vs = [what] ∧ ∀ q H', sysModules < q → Ex H H' → H' q = some (.lst (List.replicate 27 what)) → Q (.ref q) H'
theorem ok__law_named (T : Txt P K mg a) : CallP P w K mg base 3 (.ref a._law_named) spNamed := by
  refine T.d__law_named.ok sc__law_named (fun vs H Q E h => ?_) (fun cdv A outer s H vs Q E hr hG h => ?_)
  · obtain ⟨what, rfl, _⟩ := h
    rfl
  · obtain ⟨what, rfl, hq⟩ := h
    refine ⟨_, (pss_cons (ps_set (i := 1) sc__law_named.nd rfl (Or.inl rfl) (pe_lst (pa_cons (pe_exf (pe_errK T.e_InvalidValue T.i_InvalidValue T.j_InvalidValue T.k_InvalidValue hr (pk_cons (pv 0) pk_nil) (by rfl))) (pa_cons (pe_exf (pe_errK T.e_InvalidNumbers T.i_InvalidNumbers T.j_InvalidNumbers T.k_InvalidNumbers hr (pk_cons (pv 0) pk_nil) (by rfl))) (pa_cons (pe_exf (pe_errK T.e_InvalidKey T.i_InvalidKey T.j_InvalidKey T.k_InvalidKey hr (pk_cons (pv 0) pk_nil) (by rfl))) pa_nil)))))
 (pss_cons (ps_set (i := 1) sc__law_named.nd rfl (Or.inl rfl) (pe_op op_catN (pv 1) (pe_lst (pa_cons (pe_exf (pe_errK T.e_InvalidIndex T.i_InvalidIndex T.j_InvalidIndex T.k_InvalidIndex hr (pk_cons (pv 0) pk_nil) (by rfl))) (pa_cons (pe_exf (pe_errK T.e_InvalidBrand T.i_InvalidBrand T.j_InvalidBrand T.k_InvalidBrand hr (pk_cons (pv 0) pk_nil) (by rfl))) (pa_cons (pe_exf (pe_errK T.e_InvalidTakes T.i_InvalidTakes T.j_InvalidTakes T.k_InvalidTakes hr (pk_cons (pv 0) pk_nil) (by rfl))) pa_nil))))))
 (pss_cons (ps_set (i := 1) sc__law_named.nd rfl (Or.inl rfl) (pe_op op_catN (pv 1) (pe_lst (pa_cons (pe_exf (pe_errK T.e_InvalidVersion T.i_InvalidVersion T.j_InvalidVersion T.k_InvalidVersion hr (pk_cons (pv 0) pk_nil) (by rfl))) (pa_cons (pe_exf (pe_errK T.e_InvalidStream T.i_InvalidStream T.j_InvalidStream T.k_InvalidStream hr (pk_cons (pv 0) pk_nil) (by rfl))) pa_nil)))))
 (pss_cons (ps_set (i := 1) sc__law_named.nd rfl (Or.inl rfl) (pe_op op_catN (pv 1) (pe_lst (pa_cons (pe_exf (pe_errK T.e_InvalidLabel T.i_InvalidLabel T.j_InvalidLabel T.k_InvalidLabel hr (pk_cons (pv 0) pk_nil) (by rfl))) (pa_cons (pe_exf (pe_errK T.e_InvalidReduction T.i_InvalidReduction T.j_InvalidReduction T.k_InvalidReduction hr (pk_cons (pv 0) pk_nil) (by rfl))) (pa_cons (pe_exf (pe_errK T.e_InvalidMade T.i_InvalidMade T.j_InvalidMade T.k_InvalidMade hr (pk_cons (pv 0) pk_nil) (by rfl))) pa_nil))))))
 (pss_cons (ps_set (i := 1) sc__law_named.nd rfl (Or.inl rfl) (pe_op op_catN (pv 1) (pe_lst (pa_cons (pe_exf (pe_errK T.e_InvalidRow T.i_InvalidRow T.j_InvalidRow T.k_InvalidRow hr (pk_cons (pv 0) pk_nil) (by rfl))) (pa_cons (pe_exf (pe_errK T.e_InvalidName T.i_InvalidName T.j_InvalidName T.k_InvalidName hr (pk_cons (pv 0) pk_nil) (by rfl))) pa_nil)))))
 (pss_cons (ps_set (i := 1) sc__law_named.nd rfl (Or.inl rfl) (pe_op op_catN (pv 1) (pe_lst (pa_cons (pe_exf (pe_errK T.e_InvalidEdit T.i_InvalidEdit T.j_InvalidEdit T.k_InvalidEdit hr (pk_cons (pv 0) pk_nil) (by rfl))) (pa_cons (pe_exf (pe_errK T.e_InvalidText T.i_InvalidText T.j_InvalidText T.k_InvalidText hr (pk_cons (pv 0) pk_nil) (by rfl))) pa_nil)))))
 (pss_cons (ps_set (i := 1) sc__law_named.nd rfl (Or.inl rfl) (pe_op op_catN (pv 1) (pe_lst (pa_cons (pe_exf (pe_errK T.e_Refused T.i_Refused T.j_Refused T.k_Refused hr (pk_cons pe_str (pk_cons (pv 0) pk_nil)) (by rfl))) (pa_cons (pe_exf (pe_errK T.e_NotCanonical T.i_NotCanonical T.j_NotCanonical T.k_NotCanonical hr (pk_cons (pv 0) pk_nil) (by rfl))) pa_nil)))))
 (pss_cons (ps_set (i := 1) sc__law_named.nd rfl (Or.inl rfl) (pe_op op_catN (pv 1) (pe_lst (pa_cons (pe_exf (pe_errK T.e_TooDeep T.i_TooDeep T.j_TooDeep T.k_TooDeep hr (pk_cons (pv 0) pk_nil) (by rfl))) (pa_cons (pe_exf (pe_errK T.e_TooLong T.i_TooLong T.j_TooLong T.k_TooLong hr (pk_cons (pv 0) pk_nil) (by rfl))) (pa_cons (pe_exf (pe_errK T.e_SelfArgument T.i_SelfArgument T.j_SelfArgument T.k_SelfArgument hr (pk_cons (pv 0) pk_nil) (by rfl))) pa_nil))))))
 (pss_cons (ps_set (i := 1) sc__law_named.nd rfl (Or.inl rfl) (pe_op op_catN (pv 1) (pe_lst (pa_cons (pe_exf (pe_errK T.e_KeyTaken T.i_KeyTaken T.j_KeyTaken T.k_KeyTaken hr (pk_cons (pv 0) pk_nil) (by rfl))) (pa_cons (pe_exf (pe_errK T.e_BrandTaken T.i_BrandTaken T.j_BrandTaken T.k_BrandTaken hr (pk_cons (pv 0) pk_nil) (by rfl))) (pa_cons (pe_exf (pe_errK T.e_Full T.i_Full T.j_Full T.k_Full hr (pk_cons (pv 0) pk_nil) (by rfl))) pa_nil))))))
 (pss_cons (ps_set (i := 1) sc__law_named.nd rfl (Or.inl rfl) (pe_op op_catN (pv 1) (pe_lst (pa_cons (pe_exf (pe_errK T.e_UnknownBrand T.i_UnknownBrand T.j_UnknownBrand T.k_UnknownBrand hr (pk_cons (pv 0) pk_nil) (by rfl))) (pa_cons (pe_exf (pe_errK T.e_NoEntry T.i_NoEntry T.j_NoEntry T.k_NoEntry hr (pk_cons (pv 0) pk_nil) (by rfl))) (pa_cons (pe_exf (pe_errK T.e_NoName T.i_NoName T.j_NoName T.k_NoName hr (pk_cons (pv 0) pk_nil) (by rfl))) pa_nil))))))
 (pss_one (ps_ret (pe_op op_catN (pv 1) (pe_lst (pa_cons (pe_exf (pe_errK T.e_NothingToUndo T.i_NothingToUndo T.j_NothingToUndo T.k_NothingToUndo hr (pk_cons (pv 0) pk_nil) (by rfl))) pa_nil))))))))))))))), ?_⟩
    have hst : L2.start ["what", "found"] [what] = [some what, none] := rfl
    rw [hst]
    have y0 := Ex.refl H
    refine q_asgL (el_lst (ea_cons (ev_errkw (ea_cons (ev_var rfl) ea_nil) rfl T.R_InvalidValue T.n_InvalidValue_value rfl) (ea_cons (ev_errkw (ea_cons (ev_var rfl) ea_nil) rfl T.R_InvalidNumbers T.n_InvalidNumbers_value rfl) (ea_cons (ev_errkw (ea_cons (ev_var rfl) ea_nil) rfl T.R_InvalidKey T.n_InvalidKey_key rfl) ea_nil))) (show 3 ≤ 100000 by decide)) fun p1 H1 n1 e1 k1 => ?_
    have y1 := y0.trans e1
    refine q_asgLN (eln_catV rfl k1 (el_lst (ea_cons (ev_errkw (ea_cons (ev_var rfl) ea_nil) rfl T.R_InvalidIndex T.n_InvalidIndex_index rfl) (ea_cons (ev_errkw (ea_cons (ev_var rfl) ea_nil) rfl T.R_InvalidBrand T.n_InvalidBrand_given rfl) (ea_cons (ev_errkw (ea_cons (ev_var rfl) ea_nil) rfl T.R_InvalidTakes T.n_InvalidTakes_value rfl) ea_nil))) (show 3 ≤ 100000 by decide)) (show 3 + 3 ≤ 100000 by decide)) fun p2 H2 n2 s2 e2 k2 => ?_
    have y2 := y1.trans e2
    refine q_asgLN (eln_catV rfl k2 (el_lst (ea_cons (ev_errkw (ea_cons (ev_var rfl) ea_nil) rfl T.R_InvalidVersion T.n_InvalidVersion_value rfl) (ea_cons (ev_errkw (ea_cons (ev_var rfl) ea_nil) rfl T.R_InvalidStream T.n_InvalidStream_value rfl) ea_nil)) (show 2 ≤ 100000 by decide)) (show 6 + 2 ≤ 100000 by decide)) fun p3 H3 n3 s3 e3 k3 => ?_
    have y3 := y2.trans e3
    refine q_asgLN (eln_catV rfl k3 (el_lst (ea_cons (ev_errkw (ea_cons (ev_var rfl) ea_nil) rfl T.R_InvalidLabel T.n_InvalidLabel_value rfl) (ea_cons (ev_errkw (ea_cons (ev_var rfl) ea_nil) rfl T.R_InvalidReduction T.n_InvalidReduction_given rfl) (ea_cons (ev_errkw (ea_cons (ev_var rfl) ea_nil) rfl T.R_InvalidMade T.n_InvalidMade_given rfl) ea_nil))) (show 3 ≤ 100000 by decide)) (show 8 + 3 ≤ 100000 by decide)) fun p4 H4 n4 s4 e4 k4 => ?_
    have y4 := y3.trans e4
    refine q_asgLN (eln_catV rfl k4 (el_lst (ea_cons (ev_errkw (ea_cons (ev_var rfl) ea_nil) rfl T.R_InvalidRow T.n_InvalidRow_position rfl) (ea_cons (ev_errkw (ea_cons (ev_var rfl) ea_nil) rfl T.R_InvalidName T.n_InvalidName_given rfl) ea_nil)) (show 2 ≤ 100000 by decide)) (show 11 + 2 ≤ 100000 by decide)) fun p5 H5 n5 s5 e5 k5 => ?_
    have y5 := y4.trans e5
    refine q_asgLN (eln_catV rfl k5 (el_lst (ea_cons (ev_errkw (ea_cons (ev_var rfl) ea_nil) rfl T.R_InvalidEdit T.n_InvalidEdit_position rfl) (ea_cons (ev_errkw (ea_cons (ev_var rfl) ea_nil) rfl T.R_InvalidText T.n_InvalidText_offset rfl) ea_nil)) (show 2 ≤ 100000 by decide)) (show 13 + 2 ≤ 100000 by decide)) fun p6 H6 n6 s6 e6 k6 => ?_
    have y6 := y5.trans e6
    refine q_asgLN (eln_catV rfl k6 (el_lst (ea_cons (ev_errkw (ea_cons ev_c (ea_cons (ev_var rfl) ea_nil)) rfl T.R_Refused T.n_Refused_offset rfl) (ea_cons (ev_errkw (ea_cons (ev_var rfl) ea_nil) rfl T.R_NotCanonical T.n_NotCanonical_offset rfl) ea_nil)) (show 2 ≤ 100000 by decide)) (show 15 + 2 ≤ 100000 by decide)) fun p7 H7 n7 s7 e7 k7 => ?_
    have y7 := y6.trans e7
    refine q_asgLN (eln_catV rfl k7 (el_lst (ea_cons (ev_errkw (ea_cons (ev_var rfl) ea_nil) rfl T.R_TooDeep T.n_TooDeep_limit rfl) (ea_cons (ev_errkw (ea_cons (ev_var rfl) ea_nil) rfl T.R_TooLong T.n_TooLong_limit rfl) (ea_cons (ev_errkw (ea_cons (ev_var rfl) ea_nil) rfl T.R_SelfArgument T.n_SelfArgument_given rfl) ea_nil))) (show 3 ≤ 100000 by decide)) (show 17 + 3 ≤ 100000 by decide)) fun p8 H8 n8 s8 e8 k8 => ?_
    have y8 := y7.trans e8
    refine q_asgLN (eln_catV rfl k8 (el_lst (ea_cons (ev_errkw (ea_cons (ev_var rfl) ea_nil) rfl T.R_KeyTaken T.n_KeyTaken_key rfl) (ea_cons (ev_errkw (ea_cons (ev_var rfl) ea_nil) rfl T.R_BrandTaken T.n_BrandTaken_given rfl) (ea_cons (ev_errkw (ea_cons (ev_var rfl) ea_nil) rfl T.R_Full T.n_Full_limit rfl) ea_nil))) (show 3 ≤ 100000 by decide)) (show 20 + 3 ≤ 100000 by decide)) fun p9 H9 n9 s9 e9 k9 => ?_
    have y9 := y8.trans e9
    refine q_asgLN (eln_catV rfl k9 (el_lst (ea_cons (ev_errkw (ea_cons (ev_var rfl) ea_nil) rfl T.R_UnknownBrand T.n_UnknownBrand_given rfl) (ea_cons (ev_errkw (ea_cons (ev_var rfl) ea_nil) rfl T.R_NoEntry T.n_NoEntry_key rfl) (ea_cons (ev_errkw (ea_cons (ev_var rfl) ea_nil) rfl T.R_NoName T.n_NoName_given rfl) ea_nil))) (show 3 ≤ 100000 by decide)) (show 23 + 3 ≤ 100000 by decide)) fun p10 H10 n10 s10 e10 k10 => ?_
    have y10 := y9.trans e10
    exact s_retLN (eln_catV rfl k10 (el_lst (ea_cons (ev_errkw (ea_cons (ev_var rfl) ea_nil) rfl T.R_NothingToUndo T.n_NothingToUndo_count rfl) ea_nil) (show 1 ≤ 100000 by decide)) (show 26 + 1 ≤ 100000 by decide)) fun q H9 n9 s9 e9 h9 => hq q H9 s9 (y10.trans e9) h9

end
end BJL

namespace BJL
open PySem PySem.Spec PyProof.Rows L2 BJ
section
variable {P : Program} {w : World} {K : PySem.W.Frag} {mg : Str → Option Value} {base : Heap} {a : Adr}
open Evl
theorem ei_rng1 {σ : L2.St} {H : Hp} {ta : TA} {n : Int} (h : EvA ta σ H [.int n]) (h0 : 0 ≤ n) (h1 : n ≤ 1000000) : EvI (iRng1 ta) σ H ((List.range n.toNat).map fun k => V.int (0 + (k : Nat))) := fun H1 e R r => h H1 e _ fun H2 e2 =>
  ⟨n, rfl, by omega, by omega, r H2 _ _ e2 walk_rangeA fun _ _ => trivial⟩
theorem dpAll_bool {H : Hp} : ∀ bs : List Bool, DpAll K H (bs.map V.bl) (bs.map PyData.bool)
  | [] => .nil
  | b :: bs => .cons (.bl b) (dpAll_bool bs)
theorem eqv_bools : ∀ bs : List Bool, PyData.eqvAll (bs.map .bool) (bs.map .bool) = true
  | [] => rfl
  | b :: bs => by
    rw [List.map_cons]
    unfold PyData.eqvAll
    rw [eqv_bools bs]
    simp [PyData.eqv]
theorem canLay_bools : ∀ bs : List Bool, PyData.canLayAll0 (bs.map .bool) = true
  | [] => rfl
  | b :: bs => by
    rw [List.map_cons]
    unfold PyData.canLayAll0
    rw [canLay_bools bs]
    rfl
theorem depth_bools : ∀ bs : List Bool, PyData.depthAll (bs.map .bool) = 0
  | [] => rfl
  | b :: bs => by
    rw [List.map_cons]
    unfold PyData.depthAll
    rw [depth_bools bs]
    rfl
theorem dB_shaped (bs : List Bool) : SeqAt.shaped (.list (bs.map .bool)) = true := by
  unfold SeqAt.shaped
  rw [Bool.and_eq_true]
  refine ⟨?_, decide_eq_true ?_⟩
  · unfold PyData.canLay0; exact canLay_bools bs
  · unfold PyData.depth; rw [depth_bools]; omega
/-- two lists of the same bools differ: no -/
theorem et_neB {t1 t2 : TE} {σ : L2.St} {H : Hp} {bs : List Bool} (h1 : ∀ H1, Ex H H1 → ∀ Q : VK, (∀ p H2, Ex H1 H2 → H2 p = some (.lst (bs.map V.bl)) → Q (.ref p) H2) → t1 σ H1 Q)
    (h2 : ∀ H1, Ex H H1 → ∀ Q : VK, (∀ p H2, Ex H1 H2 → H2 p = some (.lst (bs.map V.bl)) → Q (.ref p) H2) → t2 σ H1 Q) : EvT (tTest (tOp (rNeD K) t1 t2)) σ H false := fun H1 e Q q =>
  h1 H1 e _ fun p H2 e2 hp => h2 H2 (e.trans e2) _ fun p' H3 e3 hp' => ⟨_, _, .lst (sq_of (e3 _ _ hp)) (dpAll_bool bs), .lst (sq_of hp') (dpAll_bool bs), dB_shaped _, dB_shaped _, false, congrArg V.bl (by unfold PyData.eqv; rw [eqv_bools]; rfl), q H3 (e2.trans e3)⟩
theorem lB_var {σ : L2.St} {H : Hp} {i : Nat} {p : Addr} {bs : List Bool} (h : σ[i]? = some (some (.ref p))) (hp : H p = some (.lst (bs.map V.bl))) : ∀ H1, Ex H H1 → ∀ Q : VK, (∀ p H2, Ex H1 H2 → H2 p = some (.lst (bs.map V.bl)) → Q (.ref p) H2) → tVar i σ H1 Q := fun H1 e Q q => ⟨_, h, q p H1 (Ex.refl _) (e _ _ hp)⟩
theorem lB_new {te : TE} {σ : L2.St} {H : Hp} {bs : List Bool} (h : EvL te σ H (bs.map V.bl)) : ∀ H1, Ex H H1 → ∀ Q : VK, (∀ p H2, Ex H1 H2 → H2 p = some (.lst (bs.map V.bl)) → Q (.ref p) H2) → te σ H1 Q := fun H1 e Q q => h H1 e Q fun p H2 _ e2 hp => q p H2 e2 hp
theorem ff_of {cl : List Addr} {D : Value} {f : Nat → Bool} (h : (cl.zipIdx.all fun p => PySem.W.kitOne K (.ref p.1) D == some (f p.2)) = true) {n : Nat} {C : Addr} (hi : cl[n]? = some C) : PySem.W.kitOne K (.ref C) D = some (f n) := by
  have m : (C, n) ∈ cl.zipIdx := by
    rw [List.mem_iff_getElem?]
    exact ⟨n, by rw [List.getElem?_zipIdx, hi]; simp⟩
  exact eq_of_beq (List.all_eq_true.mp h (C, n) m)
theorem cnt27 : ∀ n ∈ List.range 27, ((List.range 27).map fun j => (n == j)).count true = 1 := by decide +kernel
def spFam (a : Adr) : Sp := fun vs H Q _ => ∃ p what, vs = [.ref p] ∧ Made a H what p ∧ ∀ H', Ex H H' → Q (.bl true) H'
theorem ok__law_families_right (T : Txt P K mg a) : CallP P w K mg base 2 (.ref a._law_families_right) (spFam a) := by
  have G__law_kinds : CallP P w K mg base 1 (.ref a._law_kinds) (spKinds K a) := ok__law_kinds T
  refine T.d__law_families_right.ok sc__law_families_right (fun vs H Q E h => ?_) (fun cdv A outer s H vs Q E hr hG h => ?_)
  · obtain ⟨p, what, rfl, _⟩ := h
    rfl
  · obtain ⟨p, what, rfl, ⟨f, s2, t, fv, sv, tv, h0, h1, l1, h2, l2, h3, l3⟩, hq⟩ := h
    refine ⟨_, (pss_cons (ps_set (i := 1) sc__law_families_right.nd rfl (Or.inl rfl) pe_int)
 (pss_cons (ps_for (passes_of rfl) rfl (pi_enum (by rfl) T.b_enumerate (pa_cons (pv 0) pa_nil)) (pg_tup rfl (pgs_cons (pg_name (i := 2) sc__law_families_right.nd rfl (Or.inr rfl)) (pgs_cons (pg_name (i := 3) sc__law_families_right.nd rfl (Or.inl rfl)) pgs_nil)))
 (pss_one (ps_for (passes_of rfl) rfl (pi_list (pv 3)) (pg_name (i := 4) sc__law_families_right.nd rfl (Or.inl rfl))
 (pss_cons (ps_set (i := 5) sc__law_families_right.nd rfl (Or.inl rfl) (pe_ca G__law_kinds (hr.mono (by decide)) hG rfl T.g__law_kinds T.k__law_kinds (takes_of rfl rfl rfl rfl) (pa_cons (pv 4) pa_nil)))
 (pss_cons (ps_set (i := 6) sc__law_families_right.nd rfl (Or.inl rfl) (pe_lst (pa_cons (pe_callB (call_isG' (K := K) rfl) (by rfl) T.b_isinstance (by decide +kernel) (pa_cons (pv 4) (pa_cons (pe_glob (v := .ref a.JarError) (by rfl) T.g_JarError rfl) pa_nil))) (pa_cons (pe_callB (call_isG' (K := K) rfl) (by rfl) T.b_isinstance (by decide +kernel) (pa_cons (pv 4) (pa_cons (pe_glob (v := .ref a.StateError) (by rfl) T.g_StateError rfl) pa_nil))) (pa_cons (pe_callB (call_isG' (K := K) rfl) (by rfl) T.b_isinstance (by decide +kernel) (pa_cons (pv 4) (pa_cons (pe_glob (v := .ref a.MissingError) (by rfl) T.g_MissingError rfl) pa_nil))) pa_nil)))))
 (pss_cons (ps_set (i := 7) sc__law_families_right.nd rfl (Or.inl rfl) (pe_lst (pa_cons (pe_callB (call_isG' (K := K) rfl) (by rfl) T.b_isinstance (by decide +kernel) (pa_cons (pv 4) (pa_cons (pe_bltn (v := .ty "ValueError") (u := .type "ValueError") (by rfl) T.b_ValueError (by decide +kernel) (by exact rfl)) pa_nil))) (pa_cons (pe_callB (call_isG' (K := K) rfl) (by rfl) T.b_isinstance (by decide +kernel) (pa_cons (pv 4) (pa_cons (pe_bltn (v := .ty "RuntimeError") (u := .type "RuntimeError") (by rfl) T.b_RuntimeError (by decide +kernel) (by exact rfl)) pa_nil))) (pa_cons (pe_callB (call_isG' (K := K) rfl) (by rfl) T.b_isinstance (by decide +kernel) (pa_cons (pv 4) (pa_cons (pe_bltn (v := .ty "LookupError") (u := .type "LookupError") (by rfl) T.b_LookupError (by decide +kernel) (by exact rfl)) pa_nil))) pa_nil)))))
 (pss_cons (ps_if (PW.pt (pw_or (pt_cmpR op_ne (pe_bm PySem.F.plainAttrs_list PySem.F.slot_list_count PySem.F.type_list_count mt_bcount (pv 5) (pa_cons pe_bl pa_nil)) pe_int (nomark _)) (pw_or (pt_not (pt_val (pe_ix (ix_list' (K := K) rfl) (pv 5) (pv 1) (fun _ _ => rfl)))) (pw_or (pt_cmpR (op_neD' (K := K) rfl hr.units) (pv 6) (pe_lc (own := [("k", 8)]) (g := (gName 8)) (by rfl) sc__law_families_right.nd (pi_range1 (by rfl) T.b_range (pa_cons pe_int pa_nil)) (blkOk_by (own := [("k", 8)]) (N := ["made", "at", "spot", "group", "e", "kinds", "own", "other", "k"]) (sc := defScope s__law_families_right) (by decide +kernel)) (fun _ _ _ _ _ => (pg_name (i := 8) sc__law_families_right.nd rfl (Or.inl rfl))) (fun _ _ _ _ _ => pts_nil) (fun _ _ _ _ _ => (pe_cmpR op_eq (pv 8) (pv 2) (nomark _)))) (nomark _)) (pw_or1 (pt_cmpR (op_neD' (K := K) rfl hr.units) (pv 7) (pv 6) (nomark _)))))))
 (pss_one (ps_ret pe_bl))
 pss_nil)
 (pss_cons (ps_if (pt_val (pe_callB call_isGT (by rfl) T.b_isinstance (by decide +kernel) (pa_cons (pv 4) (pa_cons (pe_tup (pa_cons (pe_bltn (v := .ty "KeyError") (u := .type "KeyError") (by rfl) T.b_KeyError (by decide +kernel) (by exact rfl)) (pa_cons (pe_bltn (v := .ty "IndexError") (u := .type "IndexError") (by rfl) T.b_IndexError (by decide +kernel) (by exact rfl)) (pa_cons (pe_bltn (v := .ty "NotImplementedError") (u := .type "NotImplementedError") (by rfl) T.b_NotImplementedError (by decide +kernel) (by exact rfl)) pa_nil)))) pa_nil))))
 (pss_one (ps_ret pe_bl))
 pss_nil)
 (pss_one (ps_set (i := 1) sc__law_families_right.nd rfl (Or.inl rfl) (pe_op op_add (pv 1) pe_int)))))))))))
 (pss_one (ps_ret (pe_cmpR op_eq (pv 1) pe_int (nomark _)))))), ?_⟩
    have hst : L2.start ["made", "at", "spot", "group", "e", "kinds", "own", "other", "k"] [.ref p] = [some (.ref p), none, none, none, none, none, none, none, none] := rfl
    rw [hst]
    -- one of the groups, from its place on
    have grp : ∀ (i off : Nat) (g : Addr) (gv : List V) (cs : List (Addr × List Str)), (i = 0 ∧ off = 0 ∧ g = f ∧ gv = fv ∧ cs = own1 a) ∨ (i = 1 ∧ off = 17 ∧ g = s2 ∧ gv = sv ∧ cs = own2 a) ∨ (i = 2 ∧ off = 23 ∧ g = t ∧ gv = tv ∧ cs = own3 a) →
        H g = some (.lst gv) ∧ EL H (wsOf what) cs gv ∧ (∀ j C fs, cs[j]? = some (C, fs) → (own a)[off + j]? = some (C, fs)) ∧ (∀ j, j < cs.length → off + j < 27 ∧ decide (off + j < 17) = decide (0 = i) ∧ (decide (17 ≤ off + j) && decide (off + j < 23)) = decide (1 = i) ∧ decide (23 ≤ off + j) = decide (2 = i)) ∧ i < 3 := by
      rintro i off g gv cs (⟨rfl, rfl, rfl, rfl, rfl⟩ | ⟨rfl, rfl, rfl, rfl, rfl⟩ | ⟨rfl, rfl, rfl, rfl, rfl⟩)
      · refine ⟨h1, l1, fun j C fs h => ?_, fun j hj => ?_, by decide⟩
        · rw [Nat.zero_add]
          unfold own
          rw [List.getElem?_append_left, List.getElem?_append_left]
          · exact h
          · exact (List.getElem?_eq_some_iff.mp h).1
          · rw [List.length_append]; have := (List.getElem?_eq_some_iff.mp h).1; omega
        · have : j < 17 := hj
          exact ⟨by omega, by simp <;> omega, by simp <;> omega, by simp <;> omega⟩
      · refine ⟨h2, l2, fun j C fs h => ?_, fun j hj => ?_, by decide⟩
        · unfold own
          have hj : j < 6 := (List.getElem?_eq_some_iff.mp h).1
          rw [List.getElem?_append_left (show 17 + j < 23 by omega), List.getElem?_append_right (show 17 ≤ 17 + j by omega)]
          rw [show 17 + j - (own1 a).length = j from by show 17 + j - 17 = j; omega]
          exact h
        · have : j < 6 := hj
          exact ⟨by omega, by simp <;> omega, by simp <;> omega, by simp <;> omega⟩
      · refine ⟨h3, l3, fun j C fs h => ?_, fun j hj => ?_, by decide⟩
        · unfold own
          rw [List.getElem?_append_right (show 23 ≤ 23 + j by omega)]
          rw [show 23 + j - (own1 a ++ own2 a).length = j from by show 23 + j - 23 = j; omega]
          exact h
        · have : j < 4 := hj
          exact ⟨by omega, by simp <;> omega, by simp <;> omega, by simp <;> omega⟩
    refine ⟨_, rfl, p, [.ref f, .ref s2, .ref t], rfl, sq_of h0, for_it (walk_enum (K := K) (a := p) (xs := [.ref f, .ref s2, .ref t])) (fun i σ H' => (∃ o2 o3 o4 o5 o6 o7 o8, σ = [some (.ref p), some (.int (([0, 17, 23, 27] : List Nat).getD i 27 : Nat)), o2, o3, o4, o5, o6, o7, o8]) ∧ Ex H H') ⟨⟨_, _, _, _, _, _, _, rfl⟩, Ex.refl _⟩ (fun _ _ H' _ pp => sq_of (pp.2 _ _ h0)) (fun i x σ H1 H1' hi ⟨⟨o2, o3, o4, o5, o6, o7, o8, hσ⟩, e1⟩ y => ?_) fun σ H1 ⟨⟨o2, o3, o4, o5, o6, o7, o8, hσ⟩, e1⟩ => ?_⟩
    · obtain ⟨U, x1, y1, rfl, hU, rfl, hx1, hy1⟩ := y
      have hi3 : i < 3 := hi
      subst hσ
      cases hx1
      obtain ⟨g, gv, cs, off, hcase⟩ : ∃ g gv cs off, (i = 0 ∧ off = 0 ∧ g = f ∧ gv = fv ∧ cs = own1 a) ∨ (i = 1 ∧ off = 17 ∧ g = s2 ∧ gv = sv ∧ cs = own2 a) ∨ (i = 2 ∧ off = 23 ∧ g = t ∧ gv = tv ∧ cs = own3 a) := by
        have : i = 0 ∨ i = 1 ∨ i = 2 := by omega
        rcases this with rfl | rfl | rfl
        · exact ⟨_, _, _, _, .inl ⟨rfl, rfl, rfl, rfl, rfl⟩⟩
        · exact ⟨_, _, _, _, .inr (.inl ⟨rfl, rfl, rfl, rfl, rfl⟩)⟩
        · exact ⟨_, _, _, _, .inr (.inr ⟨rfl, rfl, rfl, rfl, rfl⟩)⟩
      obtain ⟨hg, hel, hown, hfam, _⟩ := grp i off g gv cs hcase
      have hyg : y1 = .ref g ∧ ([0, 17, 23, 27] : List Nat).getD i 27 = off ∧ ([0, 17, 23, 27] : List Nat).getD (i + 1) 27 = off + gv.length := by
        have hlen := hel.length
        rcases hcase with ⟨rfl, rfl, rfl, rfl, rfl⟩ | ⟨rfl, rfl, rfl, rfl, rfl⟩ | ⟨rfl, rfl, rfl, rfl, rfl⟩
        · cases hy1; exact ⟨rfl, rfl, by rw [hlen]; rfl⟩
        · cases hy1; exact ⟨rfl, rfl, by rw [hlen]; rfl⟩
        · cases hy1; exact ⟨rfl, rfl, by rw [hlen]; rfl⟩
      obtain ⟨rfl, hoff, hoff2⟩ := hyg
      rw [hoff, hoff2]
      have eU := Ex.new (o := .tup [.int (i : Nat), .ref g]) hU
      refine ⟨U, _, rfl, st_of upd_same, rfl, _, _, rfl, _, _, rfl, rfl, ?_⟩
      generalize upd H1 U (.tup [.int (i : Nat), .ref g]) = H2 at eU
      have e2 := e1.trans eU
      refine ⟨_, rfl, g, rfl, ⟨gv, sq_of (e2 _ _ hg)⟩, for_it (walk_list (K := K) (a := g) (xs := gv)) (fun j σ H' => (∃ o4 o5 o6 o7 o8, σ = [some (.ref p), some (.int ((off + j : Nat) : Int)), some (.int (i : Nat)), some (.ref g), o4, o5, o6, o7, o8]) ∧ Ex H H') ⟨⟨_, _, _, _, _, rfl⟩, e2⟩ (fun _ _ H' _ pp => sq_of (pp.2 _ _ hg)) (fun j x σ H3 H3' hj ⟨⟨o4, o5, o6, o7, o8, hσ⟩, e3⟩ y => ?_) fun σ H3 ⟨⟨o4, o5, o6, o7, o8, hσ⟩, e3⟩ => ⟨⟨_, _, _, _, _, _, _, hσ⟩, e3⟩⟩
      obtain ⟨y1, y2⟩ := y
      subst y1 hσ
      have hjl : j < cs.length := by rw [← hel.length]; exact hj
      obtain ⟨⟨C, fs⟩, hC⟩ : ∃ c, cs[j]? = some c := ⟨_, List.getElem?_eq_getElem hjl⟩
      obtain ⟨e, d, he, hat0⟩ := hel.get j C fs hC
      rw [he] at y2
      cases y2
      have hi' := hown j C fs hC
      obtain ⟨n27, f1, f2, f3⟩ := hfam j hjl
      generalize hn : off + j = n at hi' n27 f1 f2 f3
      have R := R_of T hi'
      have hCl : ((own a).map (·.1))[n]? = some C := by rw [List.getElem?_map, hi']; rfl
      have hat := excAt_ex e3 hat0
      refine ⟨_, rfl, e, n, C, fs, d, _, rfl, hi', hat, fun p5 H4 n4 e4 h5 => ?_⟩
      have hat := excAt_ex e4 hat
      have h5' : H4 p5 = some (.lst (((List.range 27).map fun j => (n == j)).map V.bl)) := by rw [List.map_map]; exact h5
      refine q_asgL (el_lst (ea_cons (ev_cb (ea_cons (ev_var rfl) (ea_cons ev_c ea_nil)) (rc_isE hat R (ff_of (f := fun n => decide (n < 17)) T.fJarError hCl))) (ea_cons (ev_cb (ea_cons (ev_var rfl) (ea_cons ev_c ea_nil)) (rc_isE hat R (ff_of (f := fun n => decide (17 ≤ n) && decide (n < 23)) T.fStateError hCl))) (ea_cons (ev_cb (ea_cons (ev_var rfl) (ea_cons ev_c ea_nil)) (rc_isE hat R (ff_of (f := fun n => decide (23 ≤ n)) T.fMissingError hCl))) ea_nil))) (show 3 ≤ 100000 by decide)) fun p6 H5 n5 e5 h6 => ?_
      have hat := excAt_ex e5 hat
      refine q_asgL (el_lst (ea_cons (ev_cb (ea_cons (ev_var rfl) (ea_cons ev_c ea_nil)) (rc_isEt hat R (ff_of (f := fun n => decide (n < 17)) T.fValueError hCl))) (ea_cons (ev_cb (ea_cons (ev_var rfl) (ea_cons ev_c ea_nil)) (rc_isEt hat R (ff_of (f := fun n => decide (17 ≤ n) && decide (n < 23)) T.fRuntimeError hCl))) (ea_cons (ev_cb (ea_cons (ev_var rfl) (ea_cons ev_c ea_nil)) (rc_isEt hat R (ff_of (f := fun n => decide (23 ≤ n)) T.fLookupError hCl))) ea_nil))) (show 3 ≤ 100000 by decide)) fun p7 H6 n6 e6 h7 => ?_
      have hat := excAt_ex e6 hat
      have h5'' := e6 _ _ (e5 _ _ h5')
      have h6' : H6 p6 = some (.lst (([decide (n < 17), decide (17 ≤ n) && decide (n < 23), decide (23 ≤ n)] : List Bool).map V.bl)) := e6 _ _ h6
      have h7' : H6 p7 = some (.lst (([decide (n < 17), decide (17 ≤ n) && decide (n < 23), decide (23 ≤ n)] : List Bool).map V.bl)) := h7
      refine q_when (b := false || (false || (false || false))) (et_or ?t1 fun _ => et_or (et_not (a := true) ?t2) fun _ => et_or ?t3 fun _ => ?t4) (fun z => nomatch z) fun _ H7 e7 => ?rest
      case t1 =>
        refine et_is (et_test (ev_op (x := .int ((((List.range 27).map fun j => (n == j)).count true : Nat) : Int)) (y := .int 1) (fun H8 e8 Q q => ⟨_, rfl, .inl ⟨rfl, _, sq_of (e8 _ _ h5'')⟩, p5, _, true, rfl, rfl, sq_of (e8 _ _ h5''), q H8 (Ex.refl _)⟩) ev_c (rv_ne rfl))) ?_
        rw [cnt27 n (List.mem_range.mpr n27)]
        rfl
      case t2 =>
        refine et_B (ev_op (ev_var rfl) (ev_var rfl) (rv_ixL (sq_of h5'') (atI_nat ?_)))
        rw [List.getElem?_map, List.getElem?_map, List.getElem?_range n27]
        show some (V.bl (n == n)) = _
        rw [beq_self_eq_true]
      case t3 =>
        rw [f1, f2, f3] at h6'
        refine et_neB (lB_var rfl h6') (lB_new ?_)
        have el := el_all (H := H6) (vs := [8]) (j := 8) (te := tOp rEq (tVar 8) (tVar 2)) (ei_rng1 (σ := [some (.ref p), some (.int ((n : Nat) : Int)), some (.int (i : Nat)), some (.ref g), some (.ref e), some (.ref p5), some (.ref p6), some (.ref p7), o8]) (ta := tCons (tC (.int 3)) tNil) (ea_cons ev_c ea_nil) (by decide) (by decide)) (fun y => .bl (decide (y = .int (i : Nat)))) (show 3 ≤ 1000000 by decide) (fun _ => rfl)
          (fun y hy H8 e8 => by
            obtain ⟨k, _, rfl⟩ := List.mem_map.mp hy
            exact ev_op (ev_var rfl) (ev_var rfl) (rv_eq rfl))
        have eq : ((List.range (3 : Int).toNat).map fun k => V.int (0 + (k : Nat))).map (fun y => V.bl (decide (y = .int (i : Nat)))) = ([decide (0 = i), decide (1 = i), decide (2 = i)] : List Bool).map V.bl := by
          have : i = 0 ∨ i = 1 ∨ i = 2 := by omega
          rcases this with rfl | rfl | rfl <;> decide +kernel
        rw [eq] at el
        exact el
      case t4 => exact et_neB (lB_var rfl h7') (lB_var rfl h6')
      case rest =>
        have hat := excAt_ex e7 hat
        refine q_when (b := false) (et_B fun H8 e8 Q q => ⟨_, rfl, (by show 3 ≤ sizeLine; decide), fun p8 np => ⟨.ref e, p8, [.ty "KeyError", .ty "IndexError", .ty "NotImplementedError"], .ref C, [.type "KeyError", .type "IndexError", .type "NotImplementedError"], false, rfl, upd_same, .cons (.ty _) (.cons (.ty _) (.cons (.ty _) .nil)), .exc (excAt_ex (e8.trans (Ex.new np)) hat) R,
          kitAny_cons (ff_of (f := fun n => false) T.fKeyError hCl) (fun _ => kitAny_cons (ff_of (f := fun n => false) T.fIndexError hCl) (fun _ => kitAny_cons (ff_of (f := fun n => false) T.fNotImplementedError hCl) (fun _ => kitAny_nil) fun z => z) fun z => z) (fun z => z), q _ (Ex.new np)⟩⟩) (fun z => nomatch z) fun _ H8 e8 => ?_
        refine ⟨_, rfl, _, _, rfl, rfl, ⟨⟨_, _, _, _, _, by rw [show ((off + (j + 1) : Nat) : Int) = (n : Int) + 1 by omega]; rfl⟩, ((((e3.trans e4).trans e5).trans e6).trans e7).trans e8⟩⟩
    · subst hσ
      exact ⟨_, rfl, rfl, hq H1 e1⟩

end
end BJL

namespace BJL
open PySem PySem.Spec PyProof.Rows L2 BJ
section
variable {P : Program} {w : World} {K : PySem.W.Frag} {mg : Str → Option Value} {base : Heap} {a : Adr}
open Evl
theorem rep_show (d : PyData) (h : d.showable = true) : ∀ n, PyData.showableAll (List.replicate n d) = true
  | 0 => rfl
  | n + 1 => by
    rw [List.replicate_succ]
    unfold PyData.showableAll
    rw [rep_show d h n, h]
    rfl
theorem rep_depth (d : PyData) : ∀ n, PyData.depthAll (List.replicate n d) ≤ d.depth
  | 0 => by simp [PyData.depthAll]
  | n + 1 => by
    rw [List.replicate_succ]
    unfold PyData.depthAll
    have := rep_depth d n
    omega
theorem rep_short (B : Nat) (d : PyData) (h : d.leavesShort B = true) : ∀ n, PyData.leavesShortAll B (List.replicate n d) = true
  | 0 => rfl
  | n + 1 => by
    rw [List.replicate_succ]
    unfold PyData.leavesShortAll
    rw [rep_short B d h n, h]
    rfl
theorem rep_bulk (d : PyData) : ∀ n, PyData.bulkAll (List.replicate n d) = n * (d.bulk + 1)
  | 0 => by simp [PyData.bulkAll]
  | n + 1 => by
    rw [List.replicate_succ]
    unfold PyData.bulkAll
    rw [rep_bulk d n, Nat.succ_mul]
    omega
theorem showsZ_rep {d : PyData} {n : Nat} (hs : d.showable = true) (hp : d.depth ≤ 30) (hl : d.leavesShort 13 = true) (hb : d.bulk ≤ 100) (hn : n ≤ 100) : ShowsZ (.list (List.replicate n d)) where
  s := by unfold PyData.showable; exact rep_show d hs n
  p := by unfold PyData.depth; have := rep_depth d n; omega
  z := PyData.shown_fits_bulk (d := .list (List.replicate n d)) (B := 13) (by decide) (by decide) (by unfold PyData.leavesShort; exact rep_short 13 d hl n) (by
    unfold PyData.bulk
    rw [rep_bulk]
    have : n * (d.bulk + 1) ≤ 100 * 101 := Nat.mul_le_mul hn (by omega)
    omega)
theorem int_ok {i : Int} (h : i.natAbs < 10 ^ 12) : (PyData.int i).showable = true ∧ (PyData.int i).leavesShort 13 = true := by
  have h1 := show_ints [i] (fun n hn => by rw [List.mem_singleton.mp hn]; exact h)
  have h2 := short_ints [i] (fun n hn => by rw [List.mem_singleton.mp hn]; exact h)
  simp only [List.map_cons, List.map_nil, PyData.showableAll, PyData.leavesShortAll, Bool.and_true] at h1 h2
  exact ⟨h1, h2⟩
def sp_law (K : PySem.W.Frag) : Sp := fun vs H Q _ => ∃ (a : Addr) (ns : List Int), vs = [.ref a] ∧ Scr K H a (ns.map V.int) ∧ ns.length ≤ 63 ∧ ∀ H', Q (.bl true) H'
theorem law_start {K : Params → PySem.W.Frag} (w : World) (H : Hp) (a : Addr) (ns : List Int) (hl : ns.length ≤ 63) (_hb : ∀ z ∈ ns, Builtin.Int.intBits z ≤ 1048576) (h : Scr (K w.params) H a (ns.map V.int)) :
  sp_law (K w.params) [.ref a] H (fun v _ => v = .bl true) fun _ _ _ => False := ⟨a, ns, rfl, h, hl, fun _ => rfl⟩
theorem ok_law (T : Txt P K mg a) : CallP P w K mg base 4 (.ref a.law) (sp_law K) := by
  have G__law_begin : CallP P w K mg base 1 (.ref a._law_begin) (spBegin K) := ok__law_begin T
  have G__law_next : CallP P w K mg base 2 (.ref a._law_next) spNext := ok__law_next T
  have G__law_made : CallP P w K mg base 3 (.ref a._law_made) (spMade a) := ok__law_made T
  have G__law_families_right : CallP P w K mg base 2 (.ref a._law_families_right) (spFam a) := ok__law_families_right T
  have G__law_fields : CallP P w K mg base 1 (.ref a._law_fields) (spFields a) := ok__law_fields T
  have G__law_named : CallP P w K mg base 3 (.ref a._law_named) spNamed := ok__law_named T
  refine T.d_law.ok sc_law (fun vs H Q E h => ?_) (fun cdv A outer s H vs Q E hr hG h => ?_)
  · obtain ⟨x, ns, rfl, _⟩ := h
    rfl
  · obtain ⟨sc, ns0, rfl, hS, hl, hq⟩ := h
    refine ⟨_, (pss_cons (ps_set (i := 1) sc_law.nd rfl (Or.inl rfl) (pe_ca G__law_begin (hr.mono (by decide)) hG rfl T.g__law_begin T.k__law_begin (takes_of rfl rfl rfl rfl) (pa_cons (pv 0) pa_nil)))
 (pss_cons (ps_for (passes_of rfl) rfl (pi_range1 (by rfl) T.b_range (pa_cons (pe_callB (call_min2 rfl) (by rfl) T.b_min (by decide +kernel) (pa_cons pe_int (pa_cons (pe_op op_add pe_int (pe_callB call_len_seq (by rfl) T.b_len (by decide +kernel) (pa_cons (pv 0) pa_nil))) pa_nil))) pa_nil)) (pg_name (i := 2) sc_law.nd rfl (Or.inl rfl))
 (pss_cons (ps_set (i := 3) sc_law.nd rfl (Or.inl rfl) (pe_op op_sub (pe_ca G__law_next (hr.mono (by decide)) hG rfl T.g__law_next T.k__law_next (takes_of rfl rfl rfl rfl) (pa_cons (pv 1) (pa_cons pe_int pa_nil))) pe_int))
 (pss_cons (ps_set (i := 4) sc_law.nd rfl (Or.inl rfl) (pe_ix (ix_list' (K := K) rfl) (pe_lst (pa_cons pe_non (pa_cons (pv 3) (pa_cons pe_str (pa_cons (pe_tup (pa_cons (pv 3) (pa_cons pe_int pa_nil))) (pa_cons (pe_lstN (pa_cons (pv 3) pa_nil)) (pa_cons (pe_tup (pa_cons pe_str (pa_cons (pe_tup pa_nil) pa_nil))) (pa_cons pe_dnewK (pa_cons pe_bl pa_nil))))))))) (pe_ca G__law_next (hr.mono (by decide)) hG rfl T.g__law_next T.k__law_next (takes_of rfl rfl rfl rfl) (pa_cons (pv 1) (pa_cons pe_int pa_nil))) (fun _ _ => rfl)))
 (pss_cons (ps_if (pt_not (pt_val (pe_ca G__law_families_right (hr.mono (by decide)) hG rfl T.g__law_families_right T.k__law_families_right (takes_of rfl rfl rfl rfl) (pa_cons (pe_ca G__law_made (hr.mono (by decide)) hG rfl T.g__law_made T.k__law_made (takes_of rfl rfl rfl rfl) (pa_cons (pv 4) pa_nil)) pa_nil))))
 (pss_one (ps_ret pe_bl))
 pss_nil)
 (pss_cons (ps_asg (pe_ca G__law_fields (hr.mono (by decide)) hG rfl T.g__law_fields T.k__law_fields (takes_of rfl rfl rfl rfl) (pa_cons (pe_ca G__law_made (hr.mono (by decide)) hG rfl T.g__law_made T.k__law_made (takes_of rfl rfl rfl rfl) (pa_cons (pv 4) pa_nil)) pa_nil)) (pg_tup rfl (pgs_cons (pg_name (i := 5) sc_law.nd rfl (Or.inl rfl)) (pgs_cons (pg_name (i := 6) sc_law.nd rfl (Or.inl rfl)) pgs_nil))) (by rfl))
 (pss_one (ps_if (PW.pt (pw_or (pt_cmpR op_ne (pe_callB (call_reprZ (K := K) rfl hr hG) (by rfl) T.b_repr (by decide +kernel) (pa_cons (pv 5) pa_nil)) (pe_callB (call_reprZ (K := K) rfl hr hG) (by rfl) T.b_repr (by decide +kernel) (pa_cons (pe_op op_repN (pe_lst (pa_cons (pv 4) pa_nil)) pe_int) pa_nil)) (nomark _)) (pw_or (pt_cmpR op_ne (pv 6) pe_str (nomark _)) (pw_or1 (pt_cmpR op_ne (pe_callB (call_reprZ (K := K) rfl hr hG) (by rfl) T.b_repr (by decide +kernel) (pa_cons (pe_ca G__law_named (hr.mono (by decide)) hG rfl T.g__law_named T.k__law_named (takes_of rfl rfl rfl rfl) (pa_cons (pv 4) pa_nil)) pa_nil)) (pe_callB (call_reprZ (K := K) rfl hr hG) (by rfl) T.b_repr (by decide +kernel) (pa_cons (pe_op op_repN (pe_lst (pa_cons (pv 4) pa_nil)) pe_int) pa_nil)) (nomark _))))))
 (pss_one (ps_ret pe_bl))
 pss_nil)))))))
 (pss_one (ps_ret (pe_cmpR op_eq (pe_exf (pe_errK T.e_Refused T.i_Refused T.j_Refused T.k_Refused hr (pk_cons pe_str (pk_cons pe_int pk_nil)) (by rfl))) pe_str (nomark _)))))), ?_⟩
    refine ⟨_, rfl, sc, ns0, rfl, hS, hl, fun d c H1 x1 nd nc D1 => ?_⟩
    have hS1 : SqL K H1 sc (ns0.map V.int) := ex_l x1 hS.sq
    generalize ns0 ++ [0] = cells at D1
    refine ⟨_, rfl, sc, _, rfl, .inl hS1, _, _, rfl, rfl, ?_⟩
    rw [List.length_map]
    obtain ⟨N, hN, hN2⟩ : ∃ N : Int, N = (if (3 : Int) + (ns0.length : Nat) < 12 then (3 : Int) + (ns0.length : Nat) else 12) ∧ (0 ≤ N ∧ N ≤ 12) := ⟨_, rfl, by split <;> omega⟩
    refine ⟨_, _, rfl, N, by rw [hN], by omega, by omega, for_range (lo := 0) (n := N.toNat) (fun i σ H' => (∃ o2 o3 o4 o5 o6, σ = [some (.ref sc), some (.ref d), o2, o3, o4, o5, o6]) ∧ Dr H' d c cells (2 * i)) ⟨⟨_, _, _, _, _, rfl⟩, D1⟩ (fun i σ H2 hi ⟨⟨o2, o3, o4, o5, o6, hσ⟩, D2⟩ => ?turn) fun σ H2 _ => ?last⟩
    case last =>
      dsimp only
      refine s_ret (v := .bl true) (ev_is (v := .bl (decide (V.str "end" = V.str "end"))) (ev_op (x := .str "end") (y := .str "end") (ev_errkw (ea_cons ev_c (ea_cons ev_c ea_nil)) rfl T.R_Refused T.n_Refused_reason rfl) ev_c (rv_eq rfl)) (by decide +kernel)) fun H3 _ => hq H3
    case turn =>
    subst hσ
    refine ⟨_, rfl, d, c, cells, 2 * i, 2001, rfl, D2, by omega, by omega, by omega, fun r1 H3 r10 r11 D3 B3 => ⟨_, _, rfl, rfl, ?_⟩⟩
    obtain ⟨many, hmany⟩ : ∃ m : Int, m = r1 - 1000 := ⟨_, rfl⟩
    show gName 3 (.int (r1 - 1000)) _ H3 _
    rw [← hmany]
    refine ⟨_, rfl, _, rfl, (by show 2 ≤ sizeLine; decide), fun p1 n1 => ⟨_, rfl, (by show 1 ≤ sizeLine; decide), fun p2 n2 s2 => ⟨(by show 0 ≤ sizeLine; decide), fun p3 n3 => ⟨(by show 2 ≤ sizeLine; decide), fun p4 n4 => fun p5 n5 => ⟨(by show 8 ≤ sizeLine; decide), fun p6 n6 => ?_⟩⟩⟩⟩⟩
    generalize hE : upd _ p6 (.lst _) = HE
    have x6 : Ex _ HE := hE ▸ Ex.new n6
    have x5 := (Ex.new n5).trans x6
    have x4 := (Ex.new n4).trans x5
    have x3 := (Ex.new n3).trans x4
    have x2 := (Ex.new n2).trans x3
    have x1 := (Ex.new n1).trans x2
    have h1 : HE p1 = some (.tup [.int many, .int 7]) := x2 p1 _ upd_same
    have h2 : HE p2 = some (.lst [.int many]) := x3 p2 _ upd_same
    have h3 : HE p3 = some (.tup []) := x4 p3 _ upd_same
    have h4 : HE p4 = some (.tup [.str "a", .ref p3]) := x5 p4 _ upd_same
    have h5 : HE p5 = some (.dK []) := x6 p5 _ upd_same
    have h6 : HE p6 = some (.lst [.non, .int many, .str "bag", .ref p1, .ref p2, .ref p4, .ref p5, .bl true]) := by rw [← hE]; exact upd_same
    have DE := D3.same x1
    obtain ⟨dk, hdk⟩ : ∃ o, HE d = some o := by
      obtain ⟨_, _, _, h, _⟩ := DE.dict
      exact ⟨_, h⟩
    have nd : ∀ p, H3 p = none → p ≠ d := fun p hp e => by
      obtain ⟨_, _, _, h, _⟩ := D3.dict
      rw [e, h] at hp
      cases hp
    have m1 := nd p1 n1
    have m2 := nd p2 (fresh_back (Ex.new n1) n2)
    have m3 := nd p3 (fresh_back ((Ex.new n1).trans (Ex.new n2)) n3)
    have m4 := nd p4 (fresh_back (((Ex.new n1).trans (Ex.new n2)).trans (Ex.new n3)) n4)
    have m5 := nd p5 (fresh_back ((((Ex.new n1).trans (Ex.new n2)).trans (Ex.new n3)).trans (Ex.new n4)) n5)
    have m6 := nd p6 (fresh_back (((((Ex.new n1).trans (Ex.new n2)).trans (Ex.new n3)).trans (Ex.new n4)).trans (Ex.new n5)) n6)
    refine ⟨_, rfl, d, c, cells, 2 * i + 1, 8, rfl, DE, by omega, by omega, by omega, fun r2 H4 r20 r21 D4 B4 => ?_⟩
    have g1 := (B4 p1 m1).trans h1
    have g2 := (B4 p2 m2).trans h2
    have g3 := (B4 p3 m3).trans h3
    have g4 := (B4 p4 m4).trans h4
    have g5 := (B4 p5 m5).trans h5
    have g6 := (B4 p6 m6).trans h6
    have iok := int_ok (i := many) (by omega)
    obtain ⟨v, dv, hv, dz, sh⟩ : ∃ v dv, atI [V.non, .int many, .str "bag", .ref p1, .ref p2, .ref p4, .ref p5, .bl true] r2 = some v ∧ Dz K H4 v dv ∧ ShowsZ (.list (List.replicate 27 dv)) := by
      have c8 : r2 = 0 ∨ r2 = 1 ∨ r2 = 2 ∨ r2 = 3 ∨ r2 = 4 ∨ r2 = 5 ∨ r2 = 6 ∨ r2 = 7 := by omega
      rcases c8 with rfl | rfl | rfl | rfl | rfl | rfl | rfl | rfl
      · exact ⟨_, _, rfl, .non, showsZ_rep (by decide +kernel) (by decide +kernel) (by decide +kernel) (by decide +kernel) (by decide)⟩
      · exact ⟨_, _, rfl, .int many, showsZ_rep iok.1 (by simp [PyData.depth]) iok.2 (by simp [PyData.bulk]) (by decide)⟩
      · exact ⟨_, _, rfl, .str "bag", showsZ_rep (by decide +kernel) (by decide +kernel) (by decide +kernel) (by decide +kernel) (by decide)⟩
      · refine ⟨_, .tuple [.int many, .int 7], rfl, .tup (st_of g1) (.cons (.int many) (.cons (.int 7) .nil)), showsZ_rep ?_ ?_ ?_ ?_ (by decide)⟩
        · unfold PyData.showable PyData.showableAll; rw [iok.1]; decide +kernel
        · simp [PyData.depth, PyData.depthAll]
        · unfold PyData.leavesShort PyData.leavesShortAll; rw [iok.2]; decide +kernel
        · simp [PyData.bulk, PyData.bulkAll]
      · refine ⟨_, .list [.int many], rfl, .lst (sq_of g2) s2 (.cons (.int many) .nil), showsZ_rep ?_ ?_ ?_ ?_ (by decide)⟩
        · unfold PyData.showable PyData.showableAll; rw [iok.1]; decide +kernel
        · simp [PyData.depth, PyData.depthAll]
        · unfold PyData.leavesShort PyData.leavesShortAll; rw [iok.2]; decide +kernel
        · simp [PyData.bulk, PyData.bulkAll]
      · exact ⟨_, .tuple [.str "a", .tuple []], rfl, .tup (st_of g4) (.cons (.str "a") (.cons (.tup (st_of g3) .nil) .nil)), showsZ_rep (by decide +kernel) (by decide +kernel) (by decide +kernel) (by decide +kernel) (by decide)⟩
      · exact ⟨_, .dict [], rfl, .dict (kvs := []) (ds := []) g5 .nil, showsZ_rep (by decide +kernel) (by decide +kernel) (by decide +kernel) (by decide +kernel) (by decide)⟩
      · exact ⟨_, _, rfl, .bl true, showsZ_rep (by decide +kernel) (by decide +kernel) (by decide +kernel) (by decide +kernel) (by decide)⟩
    refine ⟨p6, _, r2, v, rfl, rfl, sq_of g6, hv, ?_⟩
    dsimp only [gName]
    -- the families
    refine q_when (b := false) (et_not (a := true) (et_B fun H5 e5 Q q => ⟨_, rfl, v, rfl, fun p H6 e6 mk => ⟨p, v, rfl, mk, fun H7 e7 => q H7 (e6.trans e7)⟩⟩)) (fun z => nomatch z) fun _ H5 e5 => ?_
    refine ⟨_, rfl, v, rfl, fun p H6 e6 mk => ⟨p, v, rfl, mk, fun q f H7 sf e7 hqq hf => ⟨q, _, rfl, st_of hqq, rfl, _, _, rfl, _, _, rfl, rfl, ?_⟩⟩⟩
    have dz7 := dz_ex ((e5.trans e6).trans e7) dz
    have rep : ∀ {H : Hp} {σ : L2.St}, Ex H7 H → σ[4]? = some (some v) → Ev (tCB (rReprZ K) (tCons (tOp rRepN (tLst (tCons (tVar 4) tNil)) (tC (.int 27))) tNil)) σ H (.str (PyData.list (List.replicate 27 dv)).shown) := fun {H σ} x hσ H1 e Q q =>
      eln_rep (n := 27) (ev_var hσ) (by decide) H1 e _ fun p H2 np sp e2 hp => ⟨_, _, rfl, .lst (sq_of hp) sp (dzAll_rep (dz_ex ((x.trans e).trans e2) dz7) 27), sh, q H2 e2⟩
    dsimp only
    refine s_when (b := false || (false || false)) (et_or ?_ fun _ => et_or ?_ fun _ => ?_) (fun z => nomatch z) fun _ H8 e8 => ?_
    · exact et_is (et_test (ev_op (x := .str (PyData.list (List.replicate 27 dv)).shown) (fun H1 e Q q => ⟨_, rfl, _, _, rfl, .lst (sq_of (e _ _ hf)) sf (dzAll_rep (dz_ex e dz7) 27), sh, q H1 (Ex.refl _)⟩) (rep (Ex.refl _) rfl) (rv_ne rfl))) (by simp)
    · exact et_is (et_test (ev_op (ev_var rfl) ev_c (rv_ne rfl))) (by decide +kernel)
    · exact et_is (et_test (ev_op (x := .str (PyData.list (List.replicate 27 dv)).shown) (fun H1 e Q q => ⟨_, rfl, v, rfl, fun p' H2 sp e2 hp' => ⟨_, _, rfl, .lst (sq_of hp') sp (dzAll_rep (dz_ex (e.trans e2) dz7) 27), sh, q H2 e2⟩⟩) (rep (Ex.refl _) rfl) (rv_ne rfl))) (by simp)
    · exact ⟨⟨_, _, _, _, _, rfl⟩, ((((D4.same e5).same e6).same e7).same e8).mono (by omega)⟩

end
end BJL
namespace BJL
open PySem PySem.Spec PyProof.Rows L2 BJ
theorem all_mk {P : Program} {K : PySem.W.Frag} {h : Heap} {mg : Str → Option Value} {A_law_begin A_law_mixed A_law_next A_law_made A_law_kinds A_law_families_right A_law_fields A_law_named Alaw AJarError AInvalidValue AInvalidNumbers AInvalidKey AInvalidIndex AInvalidBrand AInvalidTakes AInvalidVersion AInvalidStream AInvalidLabel AInvalidReduction AInvalidMade AInvalidRow AInvalidName AInvalidEdit AInvalidText ARefused ANotCanonical AStateError ATooDeep ATooLong ASelfArgument AKeyTaken ABrandTaken AFull AMissingError AUnknownBrand ANoEntry ANoName ANothingToUndo AInvalidValue_i AInvalidValue_c AInvalidValue_d AInvalidNumbers_i AInvalidNumbers_c AInvalidNumbers_d AInvalidKey_i AInvalidKey_c AInvalidKey_d AInvalidIndex_i AInvalidIndex_c AInvalidIndex_d AInvalidBrand_i AInvalidBrand_c AInvalidBrand_d AInvalidTakes_i AInvalidTakes_c AInvalidTakes_d AInvalidVersion_i AInvalidVersion_c AInvalidVersion_d AInvalidStream_i AInvalidStream_c AInvalidStream_d AInvalidLabel_i AInvalidLabel_c AInvalidLabel_d AInvalidReduction_i AInvalidReduction_c AInvalidReduction_d AInvalidMade_i AInvalidMade_c AInvalidMade_d AInvalidRow_i AInvalidRow_c AInvalidRow_d AInvalidName_i AInvalidName_c AInvalidName_d AInvalidEdit_i AInvalidEdit_c AInvalidEdit_d AInvalidText_i AInvalidText_c AInvalidText_d ARefused_i ARefused_c ARefused_d ANotCanonical_i ANotCanonical_c ANotCanonical_d ATooDeep_i ATooDeep_c ATooDeep_d ATooLong_i ATooLong_c ATooLong_d ASelfArgument_i ASelfArgument_c ASelfArgument_d AKeyTaken_i AKeyTaken_c AKeyTaken_d ABrandTaken_i ABrandTaken_c ABrandTaken_d AFull_i AFull_c AFull_d AUnknownBrand_i AUnknownBrand_c AUnknownBrand_d ANoEntry_i ANoEntry_c ANoEntry_d ANoName_i ANoName_c ANoName_d ANothingToUndo_i ANothingToUndo_c ANothingToUndo_d : Addr} (X : K.In h) (G : h.Ns mainGlobals mg)
  {od__law_begin an__law_begin : Option Addr} {sl__law_begin : Array (Option Value)} {oc__law_begin kV__law_begin dc__law_begin pm__law_begin cd__law_begin ct__law_begin : Value}
  {od__law_mixed an__law_mixed : Option Addr} {sl__law_mixed : Array (Option Value)} {oc__law_mixed kV__law_mixed dc__law_mixed pm__law_mixed cd__law_mixed ct__law_mixed : Value}
  {od__law_next an__law_next : Option Addr} {sl__law_next : Array (Option Value)} {oc__law_next kV__law_next dc__law_next pm__law_next cd__law_next ct__law_next : Value}
  {od__law_made an__law_made : Option Addr} {sl__law_made : Array (Option Value)} {oc__law_made kV__law_made dc__law_made pm__law_made cd__law_made ct__law_made : Value}
  {od__law_kinds an__law_kinds : Option Addr} {sl__law_kinds : Array (Option Value)} {oc__law_kinds kV__law_kinds dc__law_kinds pm__law_kinds cd__law_kinds ct__law_kinds : Value}
  {od__law_families_right an__law_families_right : Option Addr} {sl__law_families_right : Array (Option Value)} {oc__law_families_right kV__law_families_right dc__law_families_right pm__law_families_right cd__law_families_right ct__law_families_right : Value}
  {od__law_fields an__law_fields : Option Addr} {sl__law_fields : Array (Option Value)} {oc__law_fields kV__law_fields dc__law_fields pm__law_fields cd__law_fields ct__law_fields : Value}
  {od__law_named an__law_named : Option Addr} {sl__law_named : Array (Option Value)} {oc__law_named kV__law_named dc__law_named pm__law_named cd__law_named ct__law_named : Value}
  {od_law an_law : Option Addr} {sl_law : Array (Option Value)} {oc_law kV_law dc_law pm_law cd_law ct_law : Value}
  {od_InvalidValue an_InvalidValue : Option Addr} {sl_InvalidValue : Array (Option Value)} {oc_InvalidValue kV_InvalidValue dc_InvalidValue pm_InvalidValue ct_InvalidValue : Value} {cl_InvalidValue ccl_InvalidValue : Value} {cld_InvalidValue cdd_InvalidValue : Option Addr} {csl_InvalidValue ccs_InvalidValue : Array (Option Value)} {vs_InvalidValue : Array Value}
  {tf_InvalidValue : Tok}
  {od_InvalidNumbers an_InvalidNumbers : Option Addr} {sl_InvalidNumbers : Array (Option Value)} {oc_InvalidNumbers kV_InvalidNumbers dc_InvalidNumbers pm_InvalidNumbers ct_InvalidNumbers : Value} {cl_InvalidNumbers ccl_InvalidNumbers : Value} {cld_InvalidNumbers cdd_InvalidNumbers : Option Addr} {csl_InvalidNumbers ccs_InvalidNumbers : Array (Option Value)} {vs_InvalidNumbers : Array Value}
  {tf_InvalidNumbers : Tok}
  {od_InvalidKey an_InvalidKey : Option Addr} {sl_InvalidKey : Array (Option Value)} {oc_InvalidKey kV_InvalidKey dc_InvalidKey pm_InvalidKey ct_InvalidKey : Value} {cl_InvalidKey ccl_InvalidKey : Value} {cld_InvalidKey cdd_InvalidKey : Option Addr} {csl_InvalidKey ccs_InvalidKey : Array (Option Value)} {vs_InvalidKey : Array Value}
  {tf_InvalidKey : Tok}
  {od_InvalidIndex an_InvalidIndex : Option Addr} {sl_InvalidIndex : Array (Option Value)} {oc_InvalidIndex kV_InvalidIndex dc_InvalidIndex pm_InvalidIndex ct_InvalidIndex : Value} {cl_InvalidIndex ccl_InvalidIndex : Value} {cld_InvalidIndex cdd_InvalidIndex : Option Addr} {csl_InvalidIndex ccs_InvalidIndex : Array (Option Value)} {vs_InvalidIndex : Array Value}
  {tf_InvalidIndex : Tok}
  {od_InvalidBrand an_InvalidBrand : Option Addr} {sl_InvalidBrand : Array (Option Value)} {oc_InvalidBrand kV_InvalidBrand dc_InvalidBrand pm_InvalidBrand ct_InvalidBrand : Value} {cl_InvalidBrand ccl_InvalidBrand : Value} {cld_InvalidBrand cdd_InvalidBrand : Option Addr} {csl_InvalidBrand ccs_InvalidBrand : Array (Option Value)} {vs_InvalidBrand : Array Value}
  {tf_InvalidBrand : Tok}
  {od_InvalidTakes an_InvalidTakes : Option Addr} {sl_InvalidTakes : Array (Option Value)} {oc_InvalidTakes kV_InvalidTakes dc_InvalidTakes pm_InvalidTakes ct_InvalidTakes : Value} {cl_InvalidTakes ccl_InvalidTakes : Value} {cld_InvalidTakes cdd_InvalidTakes : Option Addr} {csl_InvalidTakes ccs_InvalidTakes : Array (Option Value)} {vs_InvalidTakes : Array Value}
  {tf_InvalidTakes : Tok}
  {od_InvalidVersion an_InvalidVersion : Option Addr} {sl_InvalidVersion : Array (Option Value)} {oc_InvalidVersion kV_InvalidVersion dc_InvalidVersion pm_InvalidVersion ct_InvalidVersion : Value} {cl_InvalidVersion ccl_InvalidVersion : Value} {cld_InvalidVersion cdd_InvalidVersion : Option Addr} {csl_InvalidVersion ccs_InvalidVersion : Array (Option Value)} {vs_InvalidVersion : Array Value}
  {tf_InvalidVersion : Tok}
  {od_InvalidStream an_InvalidStream : Option Addr} {sl_InvalidStream : Array (Option Value)} {oc_InvalidStream kV_InvalidStream dc_InvalidStream pm_InvalidStream ct_InvalidStream : Value} {cl_InvalidStream ccl_InvalidStream : Value} {cld_InvalidStream cdd_InvalidStream : Option Addr} {csl_InvalidStream ccs_InvalidStream : Array (Option Value)} {vs_InvalidStream : Array Value}
  {tf_InvalidStream : Tok}
  {od_InvalidLabel an_InvalidLabel : Option Addr} {sl_InvalidLabel : Array (Option Value)} {oc_InvalidLabel kV_InvalidLabel dc_InvalidLabel pm_InvalidLabel ct_InvalidLabel : Value} {cl_InvalidLabel ccl_InvalidLabel : Value} {cld_InvalidLabel cdd_InvalidLabel : Option Addr} {csl_InvalidLabel ccs_InvalidLabel : Array (Option Value)} {vs_InvalidLabel : Array Value}
  {tf_InvalidLabel : Tok}
  {od_InvalidReduction an_InvalidReduction : Option Addr} {sl_InvalidReduction : Array (Option Value)} {oc_InvalidReduction kV_InvalidReduction dc_InvalidReduction pm_InvalidReduction ct_InvalidReduction : Value} {cl_InvalidReduction ccl_InvalidReduction : Value} {cld_InvalidReduction cdd_InvalidReduction : Option Addr} {csl_InvalidReduction ccs_InvalidReduction : Array (Option Value)} {vs_InvalidReduction : Array Value}
  {tf_InvalidReduction : Tok}
  {od_InvalidMade an_InvalidMade : Option Addr} {sl_InvalidMade : Array (Option Value)} {oc_InvalidMade kV_InvalidMade dc_InvalidMade pm_InvalidMade ct_InvalidMade : Value} {cl_InvalidMade ccl_InvalidMade : Value} {cld_InvalidMade cdd_InvalidMade : Option Addr} {csl_InvalidMade ccs_InvalidMade : Array (Option Value)} {vs_InvalidMade : Array Value}
  {tf_InvalidMade : Tok}
  {od_InvalidRow an_InvalidRow : Option Addr} {sl_InvalidRow : Array (Option Value)} {oc_InvalidRow kV_InvalidRow dc_InvalidRow pm_InvalidRow ct_InvalidRow : Value} {cl_InvalidRow ccl_InvalidRow : Value} {cld_InvalidRow cdd_InvalidRow : Option Addr} {csl_InvalidRow ccs_InvalidRow : Array (Option Value)} {vs_InvalidRow : Array Value}
  {tf_InvalidRow : Tok}
  {od_InvalidName an_InvalidName : Option Addr} {sl_InvalidName : Array (Option Value)} {oc_InvalidName kV_InvalidName dc_InvalidName pm_InvalidName ct_InvalidName : Value} {cl_InvalidName ccl_InvalidName : Value} {cld_InvalidName cdd_InvalidName : Option Addr} {csl_InvalidName ccs_InvalidName : Array (Option Value)} {vs_InvalidName : Array Value}
  {tf_InvalidName : Tok}
  {od_InvalidEdit an_InvalidEdit : Option Addr} {sl_InvalidEdit : Array (Option Value)} {oc_InvalidEdit kV_InvalidEdit dc_InvalidEdit pm_InvalidEdit ct_InvalidEdit : Value} {cl_InvalidEdit ccl_InvalidEdit : Value} {cld_InvalidEdit cdd_InvalidEdit : Option Addr} {csl_InvalidEdit ccs_InvalidEdit : Array (Option Value)} {vs_InvalidEdit : Array Value}
  {tf_InvalidEdit : Tok}
  {od_InvalidText an_InvalidText : Option Addr} {sl_InvalidText : Array (Option Value)} {oc_InvalidText kV_InvalidText dc_InvalidText pm_InvalidText ct_InvalidText : Value} {cl_InvalidText ccl_InvalidText : Value} {cld_InvalidText cdd_InvalidText : Option Addr} {csl_InvalidText ccs_InvalidText : Array (Option Value)} {vs_InvalidText : Array Value}
  {tf_InvalidText : Tok}
  {od_Refused an_Refused : Option Addr} {sl_Refused : Array (Option Value)} {oc_Refused kV_Refused dc_Refused pm_Refused ct_Refused : Value} {cl_Refused ccl_Refused : Value} {cld_Refused cdd_Refused : Option Addr} {csl_Refused ccs_Refused : Array (Option Value)} {vs_Refused : Array Value}
  {tf_Refused : Tok}
  {od_NotCanonical an_NotCanonical : Option Addr} {sl_NotCanonical : Array (Option Value)} {oc_NotCanonical kV_NotCanonical dc_NotCanonical pm_NotCanonical ct_NotCanonical : Value} {cl_NotCanonical ccl_NotCanonical : Value} {cld_NotCanonical cdd_NotCanonical : Option Addr} {csl_NotCanonical ccs_NotCanonical : Array (Option Value)} {vs_NotCanonical : Array Value}
  {tf_NotCanonical : Tok}
  {od_TooDeep an_TooDeep : Option Addr} {sl_TooDeep : Array (Option Value)} {oc_TooDeep kV_TooDeep dc_TooDeep pm_TooDeep ct_TooDeep : Value} {cl_TooDeep ccl_TooDeep : Value} {cld_TooDeep cdd_TooDeep : Option Addr} {csl_TooDeep ccs_TooDeep : Array (Option Value)} {vs_TooDeep : Array Value}
  {tf_TooDeep : Tok}
  {od_TooLong an_TooLong : Option Addr} {sl_TooLong : Array (Option Value)} {oc_TooLong kV_TooLong dc_TooLong pm_TooLong ct_TooLong : Value} {cl_TooLong ccl_TooLong : Value} {cld_TooLong cdd_TooLong : Option Addr} {csl_TooLong ccs_TooLong : Array (Option Value)} {vs_TooLong : Array Value}
  {tf_TooLong : Tok}
  {od_SelfArgument an_SelfArgument : Option Addr} {sl_SelfArgument : Array (Option Value)} {oc_SelfArgument kV_SelfArgument dc_SelfArgument pm_SelfArgument ct_SelfArgument : Value} {cl_SelfArgument ccl_SelfArgument : Value} {cld_SelfArgument cdd_SelfArgument : Option Addr} {csl_SelfArgument ccs_SelfArgument : Array (Option Value)} {vs_SelfArgument : Array Value}
  {tf_SelfArgument : Tok}
  {od_KeyTaken an_KeyTaken : Option Addr} {sl_KeyTaken : Array (Option Value)} {oc_KeyTaken kV_KeyTaken dc_KeyTaken pm_KeyTaken ct_KeyTaken : Value} {cl_KeyTaken ccl_KeyTaken : Value} {cld_KeyTaken cdd_KeyTaken : Option Addr} {csl_KeyTaken ccs_KeyTaken : Array (Option Value)} {vs_KeyTaken : Array Value}
  {tf_KeyTaken : Tok}
  {od_BrandTaken an_BrandTaken : Option Addr} {sl_BrandTaken : Array (Option Value)} {oc_BrandTaken kV_BrandTaken dc_BrandTaken pm_BrandTaken ct_BrandTaken : Value} {cl_BrandTaken ccl_BrandTaken : Value} {cld_BrandTaken cdd_BrandTaken : Option Addr} {csl_BrandTaken ccs_BrandTaken : Array (Option Value)} {vs_BrandTaken : Array Value}
  {tf_BrandTaken : Tok}
  {od_Full an_Full : Option Addr} {sl_Full : Array (Option Value)} {oc_Full kV_Full dc_Full pm_Full ct_Full : Value} {cl_Full ccl_Full : Value} {cld_Full cdd_Full : Option Addr} {csl_Full ccs_Full : Array (Option Value)} {vs_Full : Array Value}
  {tf_Full : Tok}
  {od_UnknownBrand an_UnknownBrand : Option Addr} {sl_UnknownBrand : Array (Option Value)} {oc_UnknownBrand kV_UnknownBrand dc_UnknownBrand pm_UnknownBrand ct_UnknownBrand : Value} {cl_UnknownBrand ccl_UnknownBrand : Value} {cld_UnknownBrand cdd_UnknownBrand : Option Addr} {csl_UnknownBrand ccs_UnknownBrand : Array (Option Value)} {vs_UnknownBrand : Array Value}
  {tf_UnknownBrand : Tok}
  {od_NoEntry an_NoEntry : Option Addr} {sl_NoEntry : Array (Option Value)} {oc_NoEntry kV_NoEntry dc_NoEntry pm_NoEntry ct_NoEntry : Value} {cl_NoEntry ccl_NoEntry : Value} {cld_NoEntry cdd_NoEntry : Option Addr} {csl_NoEntry ccs_NoEntry : Array (Option Value)} {vs_NoEntry : Array Value}
  {tf_NoEntry : Tok}
  {od_NoName an_NoName : Option Addr} {sl_NoName : Array (Option Value)} {oc_NoName kV_NoName dc_NoName pm_NoName ct_NoName : Value} {cl_NoName ccl_NoName : Value} {cld_NoName cdd_NoName : Option Addr} {csl_NoName ccs_NoName : Array (Option Value)} {vs_NoName : Array Value}
  {tf_NoName : Tok}
  {od_NothingToUndo an_NothingToUndo : Option Addr} {sl_NothingToUndo : Array (Option Value)} {oc_NothingToUndo kV_NothingToUndo dc_NothingToUndo pm_NothingToUndo ct_NothingToUndo : Value} {cl_NothingToUndo ccl_NothingToUndo : Value} {cld_NothingToUndo cdd_NothingToUndo : Option Addr} {csl_NothingToUndo ccs_NothingToUndo : Array (Option Value)} {vs_NothingToUndo : Array Value}
  {tf_NothingToUndo : Tok}
  (zb_IndexError : PySem.W.nsIn K mainGlobals "IndexError" = some none)
  (zb_KeyError : PySem.W.nsIn K mainGlobals "KeyError" = some none)
  (zb_LookupError : PySem.W.nsIn K mainGlobals "LookupError" = some none)
  (zb_NotImplementedError : PySem.W.nsIn K mainGlobals "NotImplementedError" = some none)
  (zb_RuntimeError : PySem.W.nsIn K mainGlobals "RuntimeError" = some none)
  (zb_ValueError : PySem.W.nsIn K mainGlobals "ValueError" = some none)
  (zb_enumerate : PySem.W.nsIn K mainGlobals "enumerate" = some none)
  (zb_isinstance : PySem.W.nsIn K mainGlobals "isinstance" = some none)
  (zb_len : PySem.W.nsIn K mainGlobals "len" = some none)
  (zb_min : PySem.W.nsIn K mainGlobals "min" = some none)
  (zb_range : PySem.W.nsIn K mainGlobals "range" = some none)
  (zb_repr : PySem.W.nsIn K mainGlobals "repr" = some none)
  (zb_super : PySem.W.nsIn K mainGlobals "super" = some none)
  (za__law_begin : PySem.W.nsIn K mainGlobals "_law_begin" = some (some (.ref A_law_begin)))
  (zl__law_begin : K.lookup A_law_begin = some ⟨oc__law_begin, od__law_begin, .func (PySem.W.fnOf "_law_begin" "_law_begin" (defArgs s__law_begin) (defBody s__law_begin) (defScope s__law_begin) .none kV__law_begin dc__law_begin pm__law_begin an__law_begin cd__law_begin ct__law_begin), sl__law_begin⟩)
  (zd__law_begin : PySem.W.codeIn K cd__law_begin "_law_begin" = true)
  (zk__law_begin : PySem.W.keepIn K (.ref A_law_begin) = true)
  (za__law_mixed : PySem.W.nsIn K mainGlobals "_law_mixed" = some (some (.ref A_law_mixed)))
  (zl__law_mixed : K.lookup A_law_mixed = some ⟨oc__law_mixed, od__law_mixed, .func (PySem.W.fnOf "_law_mixed" "_law_mixed" (defArgs s__law_mixed) (defBody s__law_mixed) (defScope s__law_mixed) .none kV__law_mixed dc__law_mixed pm__law_mixed an__law_mixed cd__law_mixed ct__law_mixed), sl__law_mixed⟩)
  (zd__law_mixed : PySem.W.codeIn K cd__law_mixed "_law_mixed" = true)
  (zk__law_mixed : PySem.W.keepIn K (.ref A_law_mixed) = true)
  (za__law_next : PySem.W.nsIn K mainGlobals "_law_next" = some (some (.ref A_law_next)))
  (zl__law_next : K.lookup A_law_next = some ⟨oc__law_next, od__law_next, .func (PySem.W.fnOf "_law_next" "_law_next" (defArgs s__law_next) (defBody s__law_next) (defScope s__law_next) .none kV__law_next dc__law_next pm__law_next an__law_next cd__law_next ct__law_next), sl__law_next⟩)
  (zd__law_next : PySem.W.codeIn K cd__law_next "_law_next" = true)
  (zk__law_next : PySem.W.keepIn K (.ref A_law_next) = true)
  (za__law_made : PySem.W.nsIn K mainGlobals "_law_made" = some (some (.ref A_law_made)))
  (zl__law_made : K.lookup A_law_made = some ⟨oc__law_made, od__law_made, .func (PySem.W.fnOf "_law_made" "_law_made" (defArgs s__law_made) (defBody s__law_made) (defScope s__law_made) .none kV__law_made dc__law_made pm__law_made an__law_made cd__law_made ct__law_made), sl__law_made⟩)
  (zd__law_made : PySem.W.codeIn K cd__law_made "_law_made" = true)
  (zk__law_made : PySem.W.keepIn K (.ref A_law_made) = true)
  (za__law_kinds : PySem.W.nsIn K mainGlobals "_law_kinds" = some (some (.ref A_law_kinds)))
  (zl__law_kinds : K.lookup A_law_kinds = some ⟨oc__law_kinds, od__law_kinds, .func (PySem.W.fnOf "_law_kinds" "_law_kinds" (defArgs s__law_kinds) (defBody s__law_kinds) (defScope s__law_kinds) .none kV__law_kinds dc__law_kinds pm__law_kinds an__law_kinds cd__law_kinds ct__law_kinds), sl__law_kinds⟩)
  (zd__law_kinds : PySem.W.codeIn K cd__law_kinds "_law_kinds" = true)
  (zk__law_kinds : PySem.W.keepIn K (.ref A_law_kinds) = true)
  (za__law_families_right : PySem.W.nsIn K mainGlobals "_law_families_right" = some (some (.ref A_law_families_right)))
  (zl__law_families_right : K.lookup A_law_families_right = some ⟨oc__law_families_right, od__law_families_right, .func (PySem.W.fnOf "_law_families_right" "_law_families_right" (defArgs s__law_families_right) (defBody s__law_families_right) (defScope s__law_families_right) .none kV__law_families_right dc__law_families_right pm__law_families_right an__law_families_right cd__law_families_right ct__law_families_right), sl__law_families_right⟩)
  (zd__law_families_right : PySem.W.codeIn K cd__law_families_right "_law_families_right" = true)
  (zk__law_families_right : PySem.W.keepIn K (.ref A_law_families_right) = true)
  (za__law_fields : PySem.W.nsIn K mainGlobals "_law_fields" = some (some (.ref A_law_fields)))
  (zl__law_fields : K.lookup A_law_fields = some ⟨oc__law_fields, od__law_fields, .func (PySem.W.fnOf "_law_fields" "_law_fields" (defArgs s__law_fields) (defBody s__law_fields) (defScope s__law_fields) .none kV__law_fields dc__law_fields pm__law_fields an__law_fields cd__law_fields ct__law_fields), sl__law_fields⟩)
  (zd__law_fields : PySem.W.codeIn K cd__law_fields "_law_fields" = true)
  (zk__law_fields : PySem.W.keepIn K (.ref A_law_fields) = true)
  (za__law_named : PySem.W.nsIn K mainGlobals "_law_named" = some (some (.ref A_law_named)))
  (zl__law_named : K.lookup A_law_named = some ⟨oc__law_named, od__law_named, .func (PySem.W.fnOf "_law_named" "_law_named" (defArgs s__law_named) (defBody s__law_named) (defScope s__law_named) .none kV__law_named dc__law_named pm__law_named an__law_named cd__law_named ct__law_named), sl__law_named⟩)
  (zd__law_named : PySem.W.codeIn K cd__law_named "_law_named" = true)
  (zk__law_named : PySem.W.keepIn K (.ref A_law_named) = true)
  (za_law : PySem.W.nsIn K mainGlobals "law" = some (some (.ref Alaw)))
  (zl_law : K.lookup Alaw = some ⟨oc_law, od_law, .func (PySem.W.fnOf "law" "law" (defArgs s_law) (defBody s_law) (defScope s_law) .none kV_law dc_law pm_law an_law cd_law ct_law), sl_law⟩)
  (zd_law : PySem.W.codeIn K cd_law "law" = true)
  (zk_law : PySem.W.keepIn K (.ref Alaw) = true)
  (za_JarError : PySem.W.nsIn K mainGlobals "JarError" = some (some (.ref AJarError)))
  (zt_JarError : PySem.W.typeIn K (.ref AJarError) = some (.type "type"))
  (zx_JarError : PySem.W.subIn K (.ref AJarError) (.type "BaseException") = some true)
  (zh_JarError : PySem.W.hasDictIn K AJarError = true)
  (za_InvalidValue : PySem.W.nsIn K mainGlobals "InvalidValue" = some (some (.ref AInvalidValue)))
  (zt_InvalidValue : PySem.W.typeIn K (.ref AInvalidValue) = some (.type "type"))
  (zx_InvalidValue : PySem.W.subIn K (.ref AInvalidValue) (.type "BaseException") = some true)
  (zh_InvalidValue : PySem.W.hasDictIn K AInvalidValue = true)
  (zi_InvalidValue : PySem.W.excInitIn K AInvalidValue [.type "ValueError", .type "Exception", .type "BaseException", .type "object"] "ValueError.__new__" = true)
  (zo_InvalidValue : PySem.W.excOver K AInvalidValue [.type "ValueError", .type "Exception", .type "BaseException", .type "object"] = true)
  (zI_InvalidValue : PySem.W.findIn K (.ref AInvalidValue) "__init__" = some (some (.ref AInvalidValue_i)))
  (zf_InvalidValue : PySem.W.isFn K (.ref AInvalidValue_i) = true)
  (zl_InvalidValue : K.lookup AInvalidValue_i = some ⟨oc_InvalidValue, od_InvalidValue, .func (PySem.W.ksFn "__init__" "InvalidValue.__init__" (eiA ((["value"] : List Str).zip [⟨6, 23, 6, 28⟩]) ⟨6, 17, 6, 21⟩) (eiSup "not a value" ⟨7, 8, 7, 13⟩ ⟨7, 8, 7, 15⟩ ⟨7, 8, 7, 24⟩ ⟨7, 25, 7, 38⟩ ⟨7, 8, 7, 39⟩ :: setsB [("value", ⟨8, 8, 8, 12⟩, ⟨8, 8, 8, 18⟩, ⟨8, 21, 8, 26⟩, ⟨8, 8, 8, 26⟩)]) (eiS ["value"]) .none kV_InvalidValue dc_InvalidValue pm_InvalidValue an_InvalidValue (.ref AInvalidValue_d) ct_InvalidValue AInvalidValue_c), sl_InvalidValue⟩)
  (zq_InvalidValue : PySem.W.codeIn K (.ref AInvalidValue_d) "InvalidValue.__init__" = true)
  (zs_InvalidValue : PySem.W.ks_superIn K AInvalidValue AInvalidValue "__init__" = some (some (.builtin "ValueError.__init__")))
  (zB_InvalidValue : PySem.W.subIn K (.ref AInvalidValue) (.type "ValueError") = some true)
  (zST_InvalidValue : PySem.W.nsIn K PySem.cStatics "thirdparty.any" = some none)
  (zA_InvalidValue : PySem.W.findIn K (.ref AInvalidValue) "__setattr__" = some (some (.builtin "object.__setattr__")))
  (zT_InvalidValue_value : PySem.W.takerIn K AInvalidValue "value" = some none)
  (zn_InvalidValue_value : PySem.W.findIn K (.ref AInvalidValue) "value" = some none)
  (zC_InvalidValue : K.lookup AInvalidValue_c = some ⟨cl_InvalidValue, cld_InvalidValue, .cell (some (.ref AInvalidValue)), csl_InvalidValue⟩)
  (zD_InvalidValue : K.lookup AInvalidValue_d = some ⟨ccl_InvalidValue, cdd_InvalidValue, .fields vs_InvalidValue, ccs_InvalidValue⟩)
  (zE_InvalidValue : vs_InvalidValue[2]? = some (.str P.main.file tf_InvalidValue))
  (zM_InvalidValue : PySem.W.mroIn K AInvalidValue (.ref AInvalidValue) = some true)
  (zN_InvalidValue : (PySem.W.clsIn K AInvalidValue).isSome = true)
  (zP_InvalidValue : (P.main.scope.names.lookup ("super" : Str)).isSome = false)
  (zk_InvalidValue : PySem.W.keepIn K (.ref AInvalidValue) = true)
  (zga_InvalidValue : PySem.W.findIn K (.ref AInvalidValue) "__getattribute__" = some (some (.builtin "BaseException.__getattribute__")))
  (zgg_InvalidValue : PySem.W.findIn K (.ref AInvalidValue) "__getattr__" = some none)
  (zcc_InvalidValue : PySem.W.findIn K (.ref AInvalidValue) "__class__" = some (some (.builtin "object.__class__")))
  (zcg_InvalidValue : PySem.W.specialIn K (.builtin "object.__class__") "__get__" = some (some (.builtin "getset_descriptor.__get__")))
  (zct_InvalidValue : PySem.W.takesIn K (.builtin "object.__class__") = some true)
  (zmo_InvalidValue : PySem.W.mroIn K AInvalidValue (.type "object") = some true)
  (za_InvalidNumbers : PySem.W.nsIn K mainGlobals "InvalidNumbers" = some (some (.ref AInvalidNumbers)))
  (zt_InvalidNumbers : PySem.W.typeIn K (.ref AInvalidNumbers) = some (.type "type"))
  (zx_InvalidNumbers : PySem.W.subIn K (.ref AInvalidNumbers) (.type "BaseException") = some true)
  (zh_InvalidNumbers : PySem.W.hasDictIn K AInvalidNumbers = true)
  (zi_InvalidNumbers : PySem.W.excInitIn K AInvalidNumbers [.type "ValueError", .type "Exception", .type "BaseException", .type "object"] "ValueError.__new__" = true)
  (zo_InvalidNumbers : PySem.W.excOver K AInvalidNumbers [.type "ValueError", .type "Exception", .type "BaseException", .type "object"] = true)
  (zI_InvalidNumbers : PySem.W.findIn K (.ref AInvalidNumbers) "__init__" = some (some (.ref AInvalidNumbers_i)))
  (zf_InvalidNumbers : PySem.W.isFn K (.ref AInvalidNumbers_i) = true)
  (zl_InvalidNumbers : K.lookup AInvalidNumbers_i = some ⟨oc_InvalidNumbers, od_InvalidNumbers, .func (PySem.W.ksFn "__init__" "InvalidNumbers.__init__" (eiA ((["value"] : List Str).zip [⟨11, 23, 11, 28⟩]) ⟨11, 17, 11, 21⟩) (eiSup "not a tuple of octets" ⟨12, 8, 12, 13⟩ ⟨12, 8, 12, 15⟩ ⟨12, 8, 12, 24⟩ ⟨12, 25, 12, 48⟩ ⟨12, 8, 12, 49⟩ :: setsB [("value", ⟨13, 8, 13, 12⟩, ⟨13, 8, 13, 18⟩, ⟨13, 21, 13, 26⟩, ⟨13, 8, 13, 26⟩)]) (eiS ["value"]) .none kV_InvalidNumbers dc_InvalidNumbers pm_InvalidNumbers an_InvalidNumbers (.ref AInvalidNumbers_d) ct_InvalidNumbers AInvalidNumbers_c), sl_InvalidNumbers⟩)
  (zq_InvalidNumbers : PySem.W.codeIn K (.ref AInvalidNumbers_d) "InvalidNumbers.__init__" = true)
  (zs_InvalidNumbers : PySem.W.ks_superIn K AInvalidNumbers AInvalidNumbers "__init__" = some (some (.builtin "ValueError.__init__")))
  (zB_InvalidNumbers : PySem.W.subIn K (.ref AInvalidNumbers) (.type "ValueError") = some true)
  (zST_InvalidNumbers : PySem.W.nsIn K PySem.cStatics "thirdparty.any" = some none)
  (zA_InvalidNumbers : PySem.W.findIn K (.ref AInvalidNumbers) "__setattr__" = some (some (.builtin "object.__setattr__")))
  (zT_InvalidNumbers_value : PySem.W.takerIn K AInvalidNumbers "value" = some none)
  (zn_InvalidNumbers_value : PySem.W.findIn K (.ref AInvalidNumbers) "value" = some none)
  (zC_InvalidNumbers : K.lookup AInvalidNumbers_c = some ⟨cl_InvalidNumbers, cld_InvalidNumbers, .cell (some (.ref AInvalidNumbers)), csl_InvalidNumbers⟩)
  (zD_InvalidNumbers : K.lookup AInvalidNumbers_d = some ⟨ccl_InvalidNumbers, cdd_InvalidNumbers, .fields vs_InvalidNumbers, ccs_InvalidNumbers⟩)
  (zE_InvalidNumbers : vs_InvalidNumbers[2]? = some (.str P.main.file tf_InvalidNumbers))
  (zM_InvalidNumbers : PySem.W.mroIn K AInvalidNumbers (.ref AInvalidNumbers) = some true)
  (zN_InvalidNumbers : (PySem.W.clsIn K AInvalidNumbers).isSome = true)
  (zP_InvalidNumbers : (P.main.scope.names.lookup ("super" : Str)).isSome = false)
  (zk_InvalidNumbers : PySem.W.keepIn K (.ref AInvalidNumbers) = true)
  (zga_InvalidNumbers : PySem.W.findIn K (.ref AInvalidNumbers) "__getattribute__" = some (some (.builtin "BaseException.__getattribute__")))
  (zgg_InvalidNumbers : PySem.W.findIn K (.ref AInvalidNumbers) "__getattr__" = some none)
  (zcc_InvalidNumbers : PySem.W.findIn K (.ref AInvalidNumbers) "__class__" = some (some (.builtin "object.__class__")))
  (zcg_InvalidNumbers : PySem.W.specialIn K (.builtin "object.__class__") "__get__" = some (some (.builtin "getset_descriptor.__get__")))
  (zct_InvalidNumbers : PySem.W.takesIn K (.builtin "object.__class__") = some true)
  (zmo_InvalidNumbers : PySem.W.mroIn K AInvalidNumbers (.type "object") = some true)
  (za_InvalidKey : PySem.W.nsIn K mainGlobals "InvalidKey" = some (some (.ref AInvalidKey)))
  (zt_InvalidKey : PySem.W.typeIn K (.ref AInvalidKey) = some (.type "type"))
  (zx_InvalidKey : PySem.W.subIn K (.ref AInvalidKey) (.type "BaseException") = some true)
  (zh_InvalidKey : PySem.W.hasDictIn K AInvalidKey = true)
  (zi_InvalidKey : PySem.W.excInitIn K AInvalidKey [.type "ValueError", .type "Exception", .type "BaseException", .type "object"] "ValueError.__new__" = true)
  (zo_InvalidKey : PySem.W.excOver K AInvalidKey [.type "ValueError", .type "Exception", .type "BaseException", .type "object"] = true)
  (zI_InvalidKey : PySem.W.findIn K (.ref AInvalidKey) "__init__" = some (some (.ref AInvalidKey_i)))
  (zf_InvalidKey : PySem.W.isFn K (.ref AInvalidKey_i) = true)
  (zl_InvalidKey : K.lookup AInvalidKey_i = some ⟨oc_InvalidKey, od_InvalidKey, .func (PySem.W.ksFn "__init__" "InvalidKey.__init__" (eiA ((["key"] : List Str).zip [⟨16, 23, 16, 26⟩]) ⟨16, 17, 16, 21⟩) (eiSup "invalid key" ⟨17, 8, 17, 13⟩ ⟨17, 8, 17, 15⟩ ⟨17, 8, 17, 24⟩ ⟨17, 25, 17, 38⟩ ⟨17, 8, 17, 39⟩ :: setsB [("key", ⟨18, 8, 18, 12⟩, ⟨18, 8, 18, 16⟩, ⟨18, 19, 18, 22⟩, ⟨18, 8, 18, 22⟩)]) (eiS ["key"]) .none kV_InvalidKey dc_InvalidKey pm_InvalidKey an_InvalidKey (.ref AInvalidKey_d) ct_InvalidKey AInvalidKey_c), sl_InvalidKey⟩)
  (zq_InvalidKey : PySem.W.codeIn K (.ref AInvalidKey_d) "InvalidKey.__init__" = true)
  (zs_InvalidKey : PySem.W.ks_superIn K AInvalidKey AInvalidKey "__init__" = some (some (.builtin "ValueError.__init__")))
  (zB_InvalidKey : PySem.W.subIn K (.ref AInvalidKey) (.type "ValueError") = some true)
  (zST_InvalidKey : PySem.W.nsIn K PySem.cStatics "thirdparty.any" = some none)
  (zA_InvalidKey : PySem.W.findIn K (.ref AInvalidKey) "__setattr__" = some (some (.builtin "object.__setattr__")))
  (zT_InvalidKey_key : PySem.W.takerIn K AInvalidKey "key" = some none)
  (zn_InvalidKey_key : PySem.W.findIn K (.ref AInvalidKey) "key" = some none)
  (zC_InvalidKey : K.lookup AInvalidKey_c = some ⟨cl_InvalidKey, cld_InvalidKey, .cell (some (.ref AInvalidKey)), csl_InvalidKey⟩)
  (zD_InvalidKey : K.lookup AInvalidKey_d = some ⟨ccl_InvalidKey, cdd_InvalidKey, .fields vs_InvalidKey, ccs_InvalidKey⟩)
  (zE_InvalidKey : vs_InvalidKey[2]? = some (.str P.main.file tf_InvalidKey))
  (zM_InvalidKey : PySem.W.mroIn K AInvalidKey (.ref AInvalidKey) = some true)
  (zN_InvalidKey : (PySem.W.clsIn K AInvalidKey).isSome = true)
  (zP_InvalidKey : (P.main.scope.names.lookup ("super" : Str)).isSome = false)
  (zk_InvalidKey : PySem.W.keepIn K (.ref AInvalidKey) = true)
  (zga_InvalidKey : PySem.W.findIn K (.ref AInvalidKey) "__getattribute__" = some (some (.builtin "BaseException.__getattribute__")))
  (zgg_InvalidKey : PySem.W.findIn K (.ref AInvalidKey) "__getattr__" = some none)
  (zcc_InvalidKey : PySem.W.findIn K (.ref AInvalidKey) "__class__" = some (some (.builtin "object.__class__")))
  (zcg_InvalidKey : PySem.W.specialIn K (.builtin "object.__class__") "__get__" = some (some (.builtin "getset_descriptor.__get__")))
  (zct_InvalidKey : PySem.W.takesIn K (.builtin "object.__class__") = some true)
  (zmo_InvalidKey : PySem.W.mroIn K AInvalidKey (.type "object") = some true)
  (za_InvalidIndex : PySem.W.nsIn K mainGlobals "InvalidIndex" = some (some (.ref AInvalidIndex)))
  (zt_InvalidIndex : PySem.W.typeIn K (.ref AInvalidIndex) = some (.type "type"))
  (zx_InvalidIndex : PySem.W.subIn K (.ref AInvalidIndex) (.type "BaseException") = some true)
  (zh_InvalidIndex : PySem.W.hasDictIn K AInvalidIndex = true)
  (zi_InvalidIndex : PySem.W.excInitIn K AInvalidIndex [.type "ValueError", .type "Exception", .type "BaseException", .type "object"] "ValueError.__new__" = true)
  (zo_InvalidIndex : PySem.W.excOver K AInvalidIndex [.type "ValueError", .type "Exception", .type "BaseException", .type "object"] = true)
  (zI_InvalidIndex : PySem.W.findIn K (.ref AInvalidIndex) "__init__" = some (some (.ref AInvalidIndex_i)))
  (zf_InvalidIndex : PySem.W.isFn K (.ref AInvalidIndex_i) = true)
  (zl_InvalidIndex : K.lookup AInvalidIndex_i = some ⟨oc_InvalidIndex, od_InvalidIndex, .func (PySem.W.ksFn "__init__" "InvalidIndex.__init__" (eiA ((["index"] : List Str).zip [⟨21, 23, 21, 28⟩]) ⟨21, 17, 21, 21⟩) (eiSup "invalid index" ⟨22, 8, 22, 13⟩ ⟨22, 8, 22, 15⟩ ⟨22, 8, 22, 24⟩ ⟨22, 25, 22, 40⟩ ⟨22, 8, 22, 41⟩ :: setsB [("index", ⟨23, 8, 23, 12⟩, ⟨23, 8, 23, 18⟩, ⟨23, 21, 23, 26⟩, ⟨23, 8, 23, 26⟩)]) (eiS ["index"]) .none kV_InvalidIndex dc_InvalidIndex pm_InvalidIndex an_InvalidIndex (.ref AInvalidIndex_d) ct_InvalidIndex AInvalidIndex_c), sl_InvalidIndex⟩)
  (zq_InvalidIndex : PySem.W.codeIn K (.ref AInvalidIndex_d) "InvalidIndex.__init__" = true)
  (zs_InvalidIndex : PySem.W.ks_superIn K AInvalidIndex AInvalidIndex "__init__" = some (some (.builtin "ValueError.__init__")))
  (zB_InvalidIndex : PySem.W.subIn K (.ref AInvalidIndex) (.type "ValueError") = some true)
  (zST_InvalidIndex : PySem.W.nsIn K PySem.cStatics "thirdparty.any" = some none)
  (zA_InvalidIndex : PySem.W.findIn K (.ref AInvalidIndex) "__setattr__" = some (some (.builtin "object.__setattr__")))
  (zT_InvalidIndex_index : PySem.W.takerIn K AInvalidIndex "index" = some none)
  (zn_InvalidIndex_index : PySem.W.findIn K (.ref AInvalidIndex) "index" = some none)
  (zC_InvalidIndex : K.lookup AInvalidIndex_c = some ⟨cl_InvalidIndex, cld_InvalidIndex, .cell (some (.ref AInvalidIndex)), csl_InvalidIndex⟩)
  (zD_InvalidIndex : K.lookup AInvalidIndex_d = some ⟨ccl_InvalidIndex, cdd_InvalidIndex, .fields vs_InvalidIndex, ccs_InvalidIndex⟩)
  (zE_InvalidIndex : vs_InvalidIndex[2]? = some (.str P.main.file tf_InvalidIndex))
  (zM_InvalidIndex : PySem.W.mroIn K AInvalidIndex (.ref AInvalidIndex) = some true)
  (zN_InvalidIndex : (PySem.W.clsIn K AInvalidIndex).isSome = true)
  (zP_InvalidIndex : (P.main.scope.names.lookup ("super" : Str)).isSome = false)
  (zk_InvalidIndex : PySem.W.keepIn K (.ref AInvalidIndex) = true)
  (zga_InvalidIndex : PySem.W.findIn K (.ref AInvalidIndex) "__getattribute__" = some (some (.builtin "BaseException.__getattribute__")))
  (zgg_InvalidIndex : PySem.W.findIn K (.ref AInvalidIndex) "__getattr__" = some none)
  (zcc_InvalidIndex : PySem.W.findIn K (.ref AInvalidIndex) "__class__" = some (some (.builtin "object.__class__")))
  (zcg_InvalidIndex : PySem.W.specialIn K (.builtin "object.__class__") "__get__" = some (some (.builtin "getset_descriptor.__get__")))
  (zct_InvalidIndex : PySem.W.takesIn K (.builtin "object.__class__") = some true)
  (zmo_InvalidIndex : PySem.W.mroIn K AInvalidIndex (.type "object") = some true)
  (za_InvalidBrand : PySem.W.nsIn K mainGlobals "InvalidBrand" = some (some (.ref AInvalidBrand)))
  (zt_InvalidBrand : PySem.W.typeIn K (.ref AInvalidBrand) = some (.type "type"))
  (zx_InvalidBrand : PySem.W.subIn K (.ref AInvalidBrand) (.type "BaseException") = some true)
  (zh_InvalidBrand : PySem.W.hasDictIn K AInvalidBrand = true)
  (zi_InvalidBrand : PySem.W.excInitIn K AInvalidBrand [.type "ValueError", .type "Exception", .type "BaseException", .type "object"] "ValueError.__new__" = true)
  (zo_InvalidBrand : PySem.W.excOver K AInvalidBrand [.type "ValueError", .type "Exception", .type "BaseException", .type "object"] = true)
  (zI_InvalidBrand : PySem.W.findIn K (.ref AInvalidBrand) "__init__" = some (some (.ref AInvalidBrand_i)))
  (zf_InvalidBrand : PySem.W.isFn K (.ref AInvalidBrand_i) = true)
  (zl_InvalidBrand : K.lookup AInvalidBrand_i = some ⟨oc_InvalidBrand, od_InvalidBrand, .func (PySem.W.ksFn "__init__" "InvalidBrand.__init__" (eiA ((["given"] : List Str).zip [⟨26, 23, 26, 28⟩]) ⟨26, 17, 26, 21⟩) (eiSup "invalid brand" ⟨27, 8, 27, 13⟩ ⟨27, 8, 27, 15⟩ ⟨27, 8, 27, 24⟩ ⟨27, 25, 27, 40⟩ ⟨27, 8, 27, 41⟩ :: setsB [("given", ⟨28, 8, 28, 12⟩, ⟨28, 8, 28, 18⟩, ⟨28, 21, 28, 26⟩, ⟨28, 8, 28, 26⟩)]) (eiS ["given"]) .none kV_InvalidBrand dc_InvalidBrand pm_InvalidBrand an_InvalidBrand (.ref AInvalidBrand_d) ct_InvalidBrand AInvalidBrand_c), sl_InvalidBrand⟩)
  (zq_InvalidBrand : PySem.W.codeIn K (.ref AInvalidBrand_d) "InvalidBrand.__init__" = true)
  (zs_InvalidBrand : PySem.W.ks_superIn K AInvalidBrand AInvalidBrand "__init__" = some (some (.builtin "ValueError.__init__")))
  (zB_InvalidBrand : PySem.W.subIn K (.ref AInvalidBrand) (.type "ValueError") = some true)
  (zST_InvalidBrand : PySem.W.nsIn K PySem.cStatics "thirdparty.any" = some none)
  (zA_InvalidBrand : PySem.W.findIn K (.ref AInvalidBrand) "__setattr__" = some (some (.builtin "object.__setattr__")))
  (zT_InvalidBrand_given : PySem.W.takerIn K AInvalidBrand "given" = some none)
  (zn_InvalidBrand_given : PySem.W.findIn K (.ref AInvalidBrand) "given" = some none)
  (zC_InvalidBrand : K.lookup AInvalidBrand_c = some ⟨cl_InvalidBrand, cld_InvalidBrand, .cell (some (.ref AInvalidBrand)), csl_InvalidBrand⟩)
  (zD_InvalidBrand : K.lookup AInvalidBrand_d = some ⟨ccl_InvalidBrand, cdd_InvalidBrand, .fields vs_InvalidBrand, ccs_InvalidBrand⟩)
  (zE_InvalidBrand : vs_InvalidBrand[2]? = some (.str P.main.file tf_InvalidBrand))
  (zM_InvalidBrand : PySem.W.mroIn K AInvalidBrand (.ref AInvalidBrand) = some true)
  (zN_InvalidBrand : (PySem.W.clsIn K AInvalidBrand).isSome = true)
  (zP_InvalidBrand : (P.main.scope.names.lookup ("super" : Str)).isSome = false)
  (zk_InvalidBrand : PySem.W.keepIn K (.ref AInvalidBrand) = true)
  (zga_InvalidBrand : PySem.W.findIn K (.ref AInvalidBrand) "__getattribute__" = some (some (.builtin "BaseException.__getattribute__")))
  (zgg_InvalidBrand : PySem.W.findIn K (.ref AInvalidBrand) "__getattr__" = some none)
  (zcc_InvalidBrand : PySem.W.findIn K (.ref AInvalidBrand) "__class__" = some (some (.builtin "object.__class__")))
  (zcg_InvalidBrand : PySem.W.specialIn K (.builtin "object.__class__") "__get__" = some (some (.builtin "getset_descriptor.__get__")))
  (zct_InvalidBrand : PySem.W.takesIn K (.builtin "object.__class__") = some true)
  (zmo_InvalidBrand : PySem.W.mroIn K AInvalidBrand (.type "object") = some true)
  (za_InvalidTakes : PySem.W.nsIn K mainGlobals "InvalidTakes" = some (some (.ref AInvalidTakes)))
  (zt_InvalidTakes : PySem.W.typeIn K (.ref AInvalidTakes) = some (.type "type"))
  (zx_InvalidTakes : PySem.W.subIn K (.ref AInvalidTakes) (.type "BaseException") = some true)
  (zh_InvalidTakes : PySem.W.hasDictIn K AInvalidTakes = true)
  (zi_InvalidTakes : PySem.W.excInitIn K AInvalidTakes [.type "ValueError", .type "Exception", .type "BaseException", .type "object"] "ValueError.__new__" = true)
  (zo_InvalidTakes : PySem.W.excOver K AInvalidTakes [.type "ValueError", .type "Exception", .type "BaseException", .type "object"] = true)
  (zI_InvalidTakes : PySem.W.findIn K (.ref AInvalidTakes) "__init__" = some (some (.ref AInvalidTakes_i)))
  (zf_InvalidTakes : PySem.W.isFn K (.ref AInvalidTakes_i) = true)
  (zl_InvalidTakes : K.lookup AInvalidTakes_i = some ⟨oc_InvalidTakes, od_InvalidTakes, .func (PySem.W.ksFn "__init__" "InvalidTakes.__init__" (eiA ((["value"] : List Str).zip [⟨31, 23, 31, 28⟩]) ⟨31, 17, 31, 21⟩) (eiSup "invalid number of arguments" ⟨32, 8, 32, 13⟩ ⟨32, 8, 32, 15⟩ ⟨32, 8, 32, 24⟩ ⟨32, 25, 32, 54⟩ ⟨32, 8, 32, 55⟩ :: setsB [("value", ⟨33, 8, 33, 12⟩, ⟨33, 8, 33, 18⟩, ⟨33, 21, 33, 26⟩, ⟨33, 8, 33, 26⟩)]) (eiS ["value"]) .none kV_InvalidTakes dc_InvalidTakes pm_InvalidTakes an_InvalidTakes (.ref AInvalidTakes_d) ct_InvalidTakes AInvalidTakes_c), sl_InvalidTakes⟩)
  (zq_InvalidTakes : PySem.W.codeIn K (.ref AInvalidTakes_d) "InvalidTakes.__init__" = true)
  (zs_InvalidTakes : PySem.W.ks_superIn K AInvalidTakes AInvalidTakes "__init__" = some (some (.builtin "ValueError.__init__")))
  (zB_InvalidTakes : PySem.W.subIn K (.ref AInvalidTakes) (.type "ValueError") = some true)
  (zST_InvalidTakes : PySem.W.nsIn K PySem.cStatics "thirdparty.any" = some none)
  (zA_InvalidTakes : PySem.W.findIn K (.ref AInvalidTakes) "__setattr__" = some (some (.builtin "object.__setattr__")))
  (zT_InvalidTakes_value : PySem.W.takerIn K AInvalidTakes "value" = some none)
  (zn_InvalidTakes_value : PySem.W.findIn K (.ref AInvalidTakes) "value" = some none)
  (zC_InvalidTakes : K.lookup AInvalidTakes_c = some ⟨cl_InvalidTakes, cld_InvalidTakes, .cell (some (.ref AInvalidTakes)), csl_InvalidTakes⟩)
  (zD_InvalidTakes : K.lookup AInvalidTakes_d = some ⟨ccl_InvalidTakes, cdd_InvalidTakes, .fields vs_InvalidTakes, ccs_InvalidTakes⟩)
  (zE_InvalidTakes : vs_InvalidTakes[2]? = some (.str P.main.file tf_InvalidTakes))
  (zM_InvalidTakes : PySem.W.mroIn K AInvalidTakes (.ref AInvalidTakes) = some true)
  (zN_InvalidTakes : (PySem.W.clsIn K AInvalidTakes).isSome = true)
  (zP_InvalidTakes : (P.main.scope.names.lookup ("super" : Str)).isSome = false)
  (zk_InvalidTakes : PySem.W.keepIn K (.ref AInvalidTakes) = true)
  (zga_InvalidTakes : PySem.W.findIn K (.ref AInvalidTakes) "__getattribute__" = some (some (.builtin "BaseException.__getattribute__")))
  (zgg_InvalidTakes : PySem.W.findIn K (.ref AInvalidTakes) "__getattr__" = some none)
  (zcc_InvalidTakes : PySem.W.findIn K (.ref AInvalidTakes) "__class__" = some (some (.builtin "object.__class__")))
  (zcg_InvalidTakes : PySem.W.specialIn K (.builtin "object.__class__") "__get__" = some (some (.builtin "getset_descriptor.__get__")))
  (zct_InvalidTakes : PySem.W.takesIn K (.builtin "object.__class__") = some true)
  (zmo_InvalidTakes : PySem.W.mroIn K AInvalidTakes (.type "object") = some true)
  (za_InvalidVersion : PySem.W.nsIn K mainGlobals "InvalidVersion" = some (some (.ref AInvalidVersion)))
  (zt_InvalidVersion : PySem.W.typeIn K (.ref AInvalidVersion) = some (.type "type"))
  (zx_InvalidVersion : PySem.W.subIn K (.ref AInvalidVersion) (.type "BaseException") = some true)
  (zh_InvalidVersion : PySem.W.hasDictIn K AInvalidVersion = true)
  (zi_InvalidVersion : PySem.W.excInitIn K AInvalidVersion [.type "ValueError", .type "Exception", .type "BaseException", .type "object"] "ValueError.__new__" = true)
  (zo_InvalidVersion : PySem.W.excOver K AInvalidVersion [.type "ValueError", .type "Exception", .type "BaseException", .type "object"] = true)
  (zI_InvalidVersion : PySem.W.findIn K (.ref AInvalidVersion) "__init__" = some (some (.ref AInvalidVersion_i)))
  (zf_InvalidVersion : PySem.W.isFn K (.ref AInvalidVersion_i) = true)
  (zl_InvalidVersion : K.lookup AInvalidVersion_i = some ⟨oc_InvalidVersion, od_InvalidVersion, .func (PySem.W.ksFn "__init__" "InvalidVersion.__init__" (eiA ((["value"] : List Str).zip [⟨36, 23, 36, 28⟩]) ⟨36, 17, 36, 21⟩) (eiSup "invalid version" ⟨37, 8, 37, 13⟩ ⟨37, 8, 37, 15⟩ ⟨37, 8, 37, 24⟩ ⟨37, 25, 37, 42⟩ ⟨37, 8, 37, 43⟩ :: setsB [("value", ⟨38, 8, 38, 12⟩, ⟨38, 8, 38, 18⟩, ⟨38, 21, 38, 26⟩, ⟨38, 8, 38, 26⟩)]) (eiS ["value"]) .none kV_InvalidVersion dc_InvalidVersion pm_InvalidVersion an_InvalidVersion (.ref AInvalidVersion_d) ct_InvalidVersion AInvalidVersion_c), sl_InvalidVersion⟩)
  (zq_InvalidVersion : PySem.W.codeIn K (.ref AInvalidVersion_d) "InvalidVersion.__init__" = true)
  (zs_InvalidVersion : PySem.W.ks_superIn K AInvalidVersion AInvalidVersion "__init__" = some (some (.builtin "ValueError.__init__")))
  (zB_InvalidVersion : PySem.W.subIn K (.ref AInvalidVersion) (.type "ValueError") = some true)
  (zST_InvalidVersion : PySem.W.nsIn K PySem.cStatics "thirdparty.any" = some none)
  (zA_InvalidVersion : PySem.W.findIn K (.ref AInvalidVersion) "__setattr__" = some (some (.builtin "object.__setattr__")))
  (zT_InvalidVersion_value : PySem.W.takerIn K AInvalidVersion "value" = some none)
  (zn_InvalidVersion_value : PySem.W.findIn K (.ref AInvalidVersion) "value" = some none)
  (zC_InvalidVersion : K.lookup AInvalidVersion_c = some ⟨cl_InvalidVersion, cld_InvalidVersion, .cell (some (.ref AInvalidVersion)), csl_InvalidVersion⟩)
  (zD_InvalidVersion : K.lookup AInvalidVersion_d = some ⟨ccl_InvalidVersion, cdd_InvalidVersion, .fields vs_InvalidVersion, ccs_InvalidVersion⟩)
  (zE_InvalidVersion : vs_InvalidVersion[2]? = some (.str P.main.file tf_InvalidVersion))
  (zM_InvalidVersion : PySem.W.mroIn K AInvalidVersion (.ref AInvalidVersion) = some true)
  (zN_InvalidVersion : (PySem.W.clsIn K AInvalidVersion).isSome = true)
  (zP_InvalidVersion : (P.main.scope.names.lookup ("super" : Str)).isSome = false)
  (zk_InvalidVersion : PySem.W.keepIn K (.ref AInvalidVersion) = true)
  (zga_InvalidVersion : PySem.W.findIn K (.ref AInvalidVersion) "__getattribute__" = some (some (.builtin "BaseException.__getattribute__")))
  (zgg_InvalidVersion : PySem.W.findIn K (.ref AInvalidVersion) "__getattr__" = some none)
  (zcc_InvalidVersion : PySem.W.findIn K (.ref AInvalidVersion) "__class__" = some (some (.builtin "object.__class__")))
  (zcg_InvalidVersion : PySem.W.specialIn K (.builtin "object.__class__") "__get__" = some (some (.builtin "getset_descriptor.__get__")))
  (zct_InvalidVersion : PySem.W.takesIn K (.builtin "object.__class__") = some true)
  (zmo_InvalidVersion : PySem.W.mroIn K AInvalidVersion (.type "object") = some true)
  (za_InvalidStream : PySem.W.nsIn K mainGlobals "InvalidStream" = some (some (.ref AInvalidStream)))
  (zt_InvalidStream : PySem.W.typeIn K (.ref AInvalidStream) = some (.type "type"))
  (zx_InvalidStream : PySem.W.subIn K (.ref AInvalidStream) (.type "BaseException") = some true)
  (zh_InvalidStream : PySem.W.hasDictIn K AInvalidStream = true)
  (zi_InvalidStream : PySem.W.excInitIn K AInvalidStream [.type "ValueError", .type "Exception", .type "BaseException", .type "object"] "ValueError.__new__" = true)
  (zo_InvalidStream : PySem.W.excOver K AInvalidStream [.type "ValueError", .type "Exception", .type "BaseException", .type "object"] = true)
  (zI_InvalidStream : PySem.W.findIn K (.ref AInvalidStream) "__init__" = some (some (.ref AInvalidStream_i)))
  (zf_InvalidStream : PySem.W.isFn K (.ref AInvalidStream_i) = true)
  (zl_InvalidStream : K.lookup AInvalidStream_i = some ⟨oc_InvalidStream, od_InvalidStream, .func (PySem.W.ksFn "__init__" "InvalidStream.__init__" (eiA ((["value"] : List Str).zip [⟨41, 23, 41, 28⟩]) ⟨41, 17, 41, 21⟩) (eiSup "not a stream" ⟨42, 8, 42, 13⟩ ⟨42, 8, 42, 15⟩ ⟨42, 8, 42, 24⟩ ⟨42, 25, 42, 39⟩ ⟨42, 8, 42, 40⟩ :: setsB [("value", ⟨43, 8, 43, 12⟩, ⟨43, 8, 43, 18⟩, ⟨43, 21, 43, 26⟩, ⟨43, 8, 43, 26⟩)]) (eiS ["value"]) .none kV_InvalidStream dc_InvalidStream pm_InvalidStream an_InvalidStream (.ref AInvalidStream_d) ct_InvalidStream AInvalidStream_c), sl_InvalidStream⟩)
  (zq_InvalidStream : PySem.W.codeIn K (.ref AInvalidStream_d) "InvalidStream.__init__" = true)
  (zs_InvalidStream : PySem.W.ks_superIn K AInvalidStream AInvalidStream "__init__" = some (some (.builtin "ValueError.__init__")))
  (zB_InvalidStream : PySem.W.subIn K (.ref AInvalidStream) (.type "ValueError") = some true)
  (zST_InvalidStream : PySem.W.nsIn K PySem.cStatics "thirdparty.any" = some none)
  (zA_InvalidStream : PySem.W.findIn K (.ref AInvalidStream) "__setattr__" = some (some (.builtin "object.__setattr__")))
  (zT_InvalidStream_value : PySem.W.takerIn K AInvalidStream "value" = some none)
  (zn_InvalidStream_value : PySem.W.findIn K (.ref AInvalidStream) "value" = some none)
  (zC_InvalidStream : K.lookup AInvalidStream_c = some ⟨cl_InvalidStream, cld_InvalidStream, .cell (some (.ref AInvalidStream)), csl_InvalidStream⟩)
  (zD_InvalidStream : K.lookup AInvalidStream_d = some ⟨ccl_InvalidStream, cdd_InvalidStream, .fields vs_InvalidStream, ccs_InvalidStream⟩)
  (zE_InvalidStream : vs_InvalidStream[2]? = some (.str P.main.file tf_InvalidStream))
  (zM_InvalidStream : PySem.W.mroIn K AInvalidStream (.ref AInvalidStream) = some true)
  (zN_InvalidStream : (PySem.W.clsIn K AInvalidStream).isSome = true)
  (zP_InvalidStream : (P.main.scope.names.lookup ("super" : Str)).isSome = false)
  (zk_InvalidStream : PySem.W.keepIn K (.ref AInvalidStream) = true)
  (zga_InvalidStream : PySem.W.findIn K (.ref AInvalidStream) "__getattribute__" = some (some (.builtin "BaseException.__getattribute__")))
  (zgg_InvalidStream : PySem.W.findIn K (.ref AInvalidStream) "__getattr__" = some none)
  (zcc_InvalidStream : PySem.W.findIn K (.ref AInvalidStream) "__class__" = some (some (.builtin "object.__class__")))
  (zcg_InvalidStream : PySem.W.specialIn K (.builtin "object.__class__") "__get__" = some (some (.builtin "getset_descriptor.__get__")))
  (zct_InvalidStream : PySem.W.takesIn K (.builtin "object.__class__") = some true)
  (zmo_InvalidStream : PySem.W.mroIn K AInvalidStream (.type "object") = some true)
  (za_InvalidLabel : PySem.W.nsIn K mainGlobals "InvalidLabel" = some (some (.ref AInvalidLabel)))
  (zt_InvalidLabel : PySem.W.typeIn K (.ref AInvalidLabel) = some (.type "type"))
  (zx_InvalidLabel : PySem.W.subIn K (.ref AInvalidLabel) (.type "BaseException") = some true)
  (zh_InvalidLabel : PySem.W.hasDictIn K AInvalidLabel = true)
  (zi_InvalidLabel : PySem.W.excInitIn K AInvalidLabel [.type "ValueError", .type "Exception", .type "BaseException", .type "object"] "ValueError.__new__" = true)
  (zo_InvalidLabel : PySem.W.excOver K AInvalidLabel [.type "ValueError", .type "Exception", .type "BaseException", .type "object"] = true)
  (zI_InvalidLabel : PySem.W.findIn K (.ref AInvalidLabel) "__init__" = some (some (.ref AInvalidLabel_i)))
  (zf_InvalidLabel : PySem.W.isFn K (.ref AInvalidLabel_i) = true)
  (zl_InvalidLabel : K.lookup AInvalidLabel_i = some ⟨oc_InvalidLabel, od_InvalidLabel, .func (PySem.W.ksFn "__init__" "InvalidLabel.__init__" (eiA ((["value"] : List Str).zip [⟨46, 23, 46, 28⟩]) ⟨46, 17, 46, 21⟩) (eiSup "invalid label of an outside value" ⟨47, 8, 47, 13⟩ ⟨47, 8, 47, 15⟩ ⟨47, 8, 47, 24⟩ ⟨47, 25, 47, 60⟩ ⟨47, 8, 47, 61⟩ :: setsB [("value", ⟨48, 8, 48, 12⟩, ⟨48, 8, 48, 18⟩, ⟨48, 21, 48, 26⟩, ⟨48, 8, 48, 26⟩)]) (eiS ["value"]) .none kV_InvalidLabel dc_InvalidLabel pm_InvalidLabel an_InvalidLabel (.ref AInvalidLabel_d) ct_InvalidLabel AInvalidLabel_c), sl_InvalidLabel⟩)
  (zq_InvalidLabel : PySem.W.codeIn K (.ref AInvalidLabel_d) "InvalidLabel.__init__" = true)
  (zs_InvalidLabel : PySem.W.ks_superIn K AInvalidLabel AInvalidLabel "__init__" = some (some (.builtin "ValueError.__init__")))
  (zB_InvalidLabel : PySem.W.subIn K (.ref AInvalidLabel) (.type "ValueError") = some true)
  (zST_InvalidLabel : PySem.W.nsIn K PySem.cStatics "thirdparty.any" = some none)
  (zA_InvalidLabel : PySem.W.findIn K (.ref AInvalidLabel) "__setattr__" = some (some (.builtin "object.__setattr__")))
  (zT_InvalidLabel_value : PySem.W.takerIn K AInvalidLabel "value" = some none)
  (zn_InvalidLabel_value : PySem.W.findIn K (.ref AInvalidLabel) "value" = some none)
  (zC_InvalidLabel : K.lookup AInvalidLabel_c = some ⟨cl_InvalidLabel, cld_InvalidLabel, .cell (some (.ref AInvalidLabel)), csl_InvalidLabel⟩)
  (zD_InvalidLabel : K.lookup AInvalidLabel_d = some ⟨ccl_InvalidLabel, cdd_InvalidLabel, .fields vs_InvalidLabel, ccs_InvalidLabel⟩)
  (zE_InvalidLabel : vs_InvalidLabel[2]? = some (.str P.main.file tf_InvalidLabel))
  (zM_InvalidLabel : PySem.W.mroIn K AInvalidLabel (.ref AInvalidLabel) = some true)
  (zN_InvalidLabel : (PySem.W.clsIn K AInvalidLabel).isSome = true)
  (zP_InvalidLabel : (P.main.scope.names.lookup ("super" : Str)).isSome = false)
  (zk_InvalidLabel : PySem.W.keepIn K (.ref AInvalidLabel) = true)
  (zga_InvalidLabel : PySem.W.findIn K (.ref AInvalidLabel) "__getattribute__" = some (some (.builtin "BaseException.__getattribute__")))
  (zgg_InvalidLabel : PySem.W.findIn K (.ref AInvalidLabel) "__getattr__" = some none)
  (zcc_InvalidLabel : PySem.W.findIn K (.ref AInvalidLabel) "__class__" = some (some (.builtin "object.__class__")))
  (zcg_InvalidLabel : PySem.W.specialIn K (.builtin "object.__class__") "__get__" = some (some (.builtin "getset_descriptor.__get__")))
  (zct_InvalidLabel : PySem.W.takesIn K (.builtin "object.__class__") = some true)
  (zmo_InvalidLabel : PySem.W.mroIn K AInvalidLabel (.type "object") = some true)
  (za_InvalidReduction : PySem.W.nsIn K mainGlobals "InvalidReduction" = some (some (.ref AInvalidReduction)))
  (zt_InvalidReduction : PySem.W.typeIn K (.ref AInvalidReduction) = some (.type "type"))
  (zx_InvalidReduction : PySem.W.subIn K (.ref AInvalidReduction) (.type "BaseException") = some true)
  (zh_InvalidReduction : PySem.W.hasDictIn K AInvalidReduction = true)
  (zi_InvalidReduction : PySem.W.excInitIn K AInvalidReduction [.type "ValueError", .type "Exception", .type "BaseException", .type "object"] "ValueError.__new__" = true)
  (zo_InvalidReduction : PySem.W.excOver K AInvalidReduction [.type "ValueError", .type "Exception", .type "BaseException", .type "object"] = true)
  (zI_InvalidReduction : PySem.W.findIn K (.ref AInvalidReduction) "__init__" = some (some (.ref AInvalidReduction_i)))
  (zf_InvalidReduction : PySem.W.isFn K (.ref AInvalidReduction_i) = true)
  (zl_InvalidReduction : K.lookup AInvalidReduction_i = some ⟨oc_InvalidReduction, od_InvalidReduction, .func (PySem.W.ksFn "__init__" "InvalidReduction.__init__" (eiA ((["given"] : List Str).zip [⟨51, 23, 51, 28⟩]) ⟨51, 17, 51, 21⟩) (eiSup "a reduce hook must return arguments and a state" ⟨52, 8, 52, 13⟩ ⟨52, 8, 52, 15⟩ ⟨52, 8, 52, 24⟩ ⟨52, 25, 52, 74⟩ ⟨52, 8, 52, 75⟩ :: setsB [("given", ⟨53, 8, 53, 12⟩, ⟨53, 8, 53, 18⟩, ⟨53, 21, 53, 26⟩, ⟨53, 8, 53, 26⟩)]) (eiS ["given"]) .none kV_InvalidReduction dc_InvalidReduction pm_InvalidReduction an_InvalidReduction (.ref AInvalidReduction_d) ct_InvalidReduction AInvalidReduction_c), sl_InvalidReduction⟩)
  (zq_InvalidReduction : PySem.W.codeIn K (.ref AInvalidReduction_d) "InvalidReduction.__init__" = true)
  (zs_InvalidReduction : PySem.W.ks_superIn K AInvalidReduction AInvalidReduction "__init__" = some (some (.builtin "ValueError.__init__")))
  (zB_InvalidReduction : PySem.W.subIn K (.ref AInvalidReduction) (.type "ValueError") = some true)
  (zST_InvalidReduction : PySem.W.nsIn K PySem.cStatics "thirdparty.any" = some none)
  (zA_InvalidReduction : PySem.W.findIn K (.ref AInvalidReduction) "__setattr__" = some (some (.builtin "object.__setattr__")))
  (zT_InvalidReduction_given : PySem.W.takerIn K AInvalidReduction "given" = some none)
  (zn_InvalidReduction_given : PySem.W.findIn K (.ref AInvalidReduction) "given" = some none)
  (zC_InvalidReduction : K.lookup AInvalidReduction_c = some ⟨cl_InvalidReduction, cld_InvalidReduction, .cell (some (.ref AInvalidReduction)), csl_InvalidReduction⟩)
  (zD_InvalidReduction : K.lookup AInvalidReduction_d = some ⟨ccl_InvalidReduction, cdd_InvalidReduction, .fields vs_InvalidReduction, ccs_InvalidReduction⟩)
  (zE_InvalidReduction : vs_InvalidReduction[2]? = some (.str P.main.file tf_InvalidReduction))
  (zM_InvalidReduction : PySem.W.mroIn K AInvalidReduction (.ref AInvalidReduction) = some true)
  (zN_InvalidReduction : (PySem.W.clsIn K AInvalidReduction).isSome = true)
  (zP_InvalidReduction : (P.main.scope.names.lookup ("super" : Str)).isSome = false)
  (zk_InvalidReduction : PySem.W.keepIn K (.ref AInvalidReduction) = true)
  (zga_InvalidReduction : PySem.W.findIn K (.ref AInvalidReduction) "__getattribute__" = some (some (.builtin "BaseException.__getattribute__")))
  (zgg_InvalidReduction : PySem.W.findIn K (.ref AInvalidReduction) "__getattr__" = some none)
  (zcc_InvalidReduction : PySem.W.findIn K (.ref AInvalidReduction) "__class__" = some (some (.builtin "object.__class__")))
  (zcg_InvalidReduction : PySem.W.specialIn K (.builtin "object.__class__") "__get__" = some (some (.builtin "getset_descriptor.__get__")))
  (zct_InvalidReduction : PySem.W.takesIn K (.builtin "object.__class__") = some true)
  (zmo_InvalidReduction : PySem.W.mroIn K AInvalidReduction (.type "object") = some true)
  (za_InvalidMade : PySem.W.nsIn K mainGlobals "InvalidMade" = some (some (.ref AInvalidMade)))
  (zt_InvalidMade : PySem.W.typeIn K (.ref AInvalidMade) = some (.type "type"))
  (zx_InvalidMade : PySem.W.subIn K (.ref AInvalidMade) (.type "BaseException") = some true)
  (zh_InvalidMade : PySem.W.hasDictIn K AInvalidMade = true)
  (zi_InvalidMade : PySem.W.excInitIn K AInvalidMade [.type "ValueError", .type "Exception", .type "BaseException", .type "object"] "ValueError.__new__" = true)
  (zo_InvalidMade : PySem.W.excOver K AInvalidMade [.type "ValueError", .type "Exception", .type "BaseException", .type "object"] = true)
  (zI_InvalidMade : PySem.W.findIn K (.ref AInvalidMade) "__init__" = some (some (.ref AInvalidMade_i)))
  (zf_InvalidMade : PySem.W.isFn K (.ref AInvalidMade_i) = true)
  (zl_InvalidMade : K.lookup AInvalidMade_i = some ⟨oc_InvalidMade, od_InvalidMade, .func (PySem.W.ksFn "__init__" "InvalidMade.__init__" (eiA ((["given"] : List Str).zip [⟨56, 23, 56, 28⟩]) ⟨56, 17, 56, 21⟩) (eiSup "a make hook must return a thing" ⟨57, 8, 57, 13⟩ ⟨57, 8, 57, 15⟩ ⟨57, 8, 57, 24⟩ ⟨57, 25, 57, 58⟩ ⟨57, 8, 57, 59⟩ :: setsB [("given", ⟨58, 8, 58, 12⟩, ⟨58, 8, 58, 18⟩, ⟨58, 21, 58, 26⟩, ⟨58, 8, 58, 26⟩)]) (eiS ["given"]) .none kV_InvalidMade dc_InvalidMade pm_InvalidMade an_InvalidMade (.ref AInvalidMade_d) ct_InvalidMade AInvalidMade_c), sl_InvalidMade⟩)
  (zq_InvalidMade : PySem.W.codeIn K (.ref AInvalidMade_d) "InvalidMade.__init__" = true)
  (zs_InvalidMade : PySem.W.ks_superIn K AInvalidMade AInvalidMade "__init__" = some (some (.builtin "ValueError.__init__")))
  (zB_InvalidMade : PySem.W.subIn K (.ref AInvalidMade) (.type "ValueError") = some true)
  (zST_InvalidMade : PySem.W.nsIn K PySem.cStatics "thirdparty.any" = some none)
  (zA_InvalidMade : PySem.W.findIn K (.ref AInvalidMade) "__setattr__" = some (some (.builtin "object.__setattr__")))
  (zT_InvalidMade_given : PySem.W.takerIn K AInvalidMade "given" = some none)
  (zn_InvalidMade_given : PySem.W.findIn K (.ref AInvalidMade) "given" = some none)
  (zC_InvalidMade : K.lookup AInvalidMade_c = some ⟨cl_InvalidMade, cld_InvalidMade, .cell (some (.ref AInvalidMade)), csl_InvalidMade⟩)
  (zD_InvalidMade : K.lookup AInvalidMade_d = some ⟨ccl_InvalidMade, cdd_InvalidMade, .fields vs_InvalidMade, ccs_InvalidMade⟩)
  (zE_InvalidMade : vs_InvalidMade[2]? = some (.str P.main.file tf_InvalidMade))
  (zM_InvalidMade : PySem.W.mroIn K AInvalidMade (.ref AInvalidMade) = some true)
  (zN_InvalidMade : (PySem.W.clsIn K AInvalidMade).isSome = true)
  (zP_InvalidMade : (P.main.scope.names.lookup ("super" : Str)).isSome = false)
  (zk_InvalidMade : PySem.W.keepIn K (.ref AInvalidMade) = true)
  (zga_InvalidMade : PySem.W.findIn K (.ref AInvalidMade) "__getattribute__" = some (some (.builtin "BaseException.__getattribute__")))
  (zgg_InvalidMade : PySem.W.findIn K (.ref AInvalidMade) "__getattr__" = some none)
  (zcc_InvalidMade : PySem.W.findIn K (.ref AInvalidMade) "__class__" = some (some (.builtin "object.__class__")))
  (zcg_InvalidMade : PySem.W.specialIn K (.builtin "object.__class__") "__get__" = some (some (.builtin "getset_descriptor.__get__")))
  (zct_InvalidMade : PySem.W.takesIn K (.builtin "object.__class__") = some true)
  (zmo_InvalidMade : PySem.W.mroIn K AInvalidMade (.type "object") = some true)
  (za_InvalidRow : PySem.W.nsIn K mainGlobals "InvalidRow" = some (some (.ref AInvalidRow)))
  (zt_InvalidRow : PySem.W.typeIn K (.ref AInvalidRow) = some (.type "type"))
  (zx_InvalidRow : PySem.W.subIn K (.ref AInvalidRow) (.type "BaseException") = some true)
  (zh_InvalidRow : PySem.W.hasDictIn K AInvalidRow = true)
  (zi_InvalidRow : PySem.W.excInitIn K AInvalidRow [.type "ValueError", .type "Exception", .type "BaseException", .type "object"] "ValueError.__new__" = true)
  (zo_InvalidRow : PySem.W.excOver K AInvalidRow [.type "ValueError", .type "Exception", .type "BaseException", .type "object"] = true)
  (zI_InvalidRow : PySem.W.findIn K (.ref AInvalidRow) "__init__" = some (some (.ref AInvalidRow_i)))
  (zf_InvalidRow : PySem.W.isFn K (.ref AInvalidRow_i) = true)
  (zl_InvalidRow : K.lookup AInvalidRow_i = some ⟨oc_InvalidRow, od_InvalidRow, .func (PySem.W.ksFn "__init__" "InvalidRow.__init__" (eiA ((["position"] : List Str).zip [⟨61, 23, 61, 31⟩]) ⟨61, 17, 61, 21⟩) (eiSup "not an opcode with its argument" ⟨62, 8, 62, 13⟩ ⟨62, 8, 62, 15⟩ ⟨62, 8, 62, 24⟩ ⟨62, 25, 62, 58⟩ ⟨62, 8, 62, 59⟩ :: setsB [("position", ⟨63, 8, 63, 12⟩, ⟨63, 8, 63, 21⟩, ⟨63, 24, 63, 32⟩, ⟨63, 8, 63, 32⟩)]) (eiS ["position"]) .none kV_InvalidRow dc_InvalidRow pm_InvalidRow an_InvalidRow (.ref AInvalidRow_d) ct_InvalidRow AInvalidRow_c), sl_InvalidRow⟩)
  (zq_InvalidRow : PySem.W.codeIn K (.ref AInvalidRow_d) "InvalidRow.__init__" = true)
  (zs_InvalidRow : PySem.W.ks_superIn K AInvalidRow AInvalidRow "__init__" = some (some (.builtin "ValueError.__init__")))
  (zB_InvalidRow : PySem.W.subIn K (.ref AInvalidRow) (.type "ValueError") = some true)
  (zST_InvalidRow : PySem.W.nsIn K PySem.cStatics "thirdparty.any" = some none)
  (zA_InvalidRow : PySem.W.findIn K (.ref AInvalidRow) "__setattr__" = some (some (.builtin "object.__setattr__")))
  (zT_InvalidRow_position : PySem.W.takerIn K AInvalidRow "position" = some none)
  (zn_InvalidRow_position : PySem.W.findIn K (.ref AInvalidRow) "position" = some none)
  (zC_InvalidRow : K.lookup AInvalidRow_c = some ⟨cl_InvalidRow, cld_InvalidRow, .cell (some (.ref AInvalidRow)), csl_InvalidRow⟩)
  (zD_InvalidRow : K.lookup AInvalidRow_d = some ⟨ccl_InvalidRow, cdd_InvalidRow, .fields vs_InvalidRow, ccs_InvalidRow⟩)
  (zE_InvalidRow : vs_InvalidRow[2]? = some (.str P.main.file tf_InvalidRow))
  (zM_InvalidRow : PySem.W.mroIn K AInvalidRow (.ref AInvalidRow) = some true)
  (zN_InvalidRow : (PySem.W.clsIn K AInvalidRow).isSome = true)
  (zP_InvalidRow : (P.main.scope.names.lookup ("super" : Str)).isSome = false)
  (zk_InvalidRow : PySem.W.keepIn K (.ref AInvalidRow) = true)
  (zga_InvalidRow : PySem.W.findIn K (.ref AInvalidRow) "__getattribute__" = some (some (.builtin "BaseException.__getattribute__")))
  (zgg_InvalidRow : PySem.W.findIn K (.ref AInvalidRow) "__getattr__" = some none)
  (zcc_InvalidRow : PySem.W.findIn K (.ref AInvalidRow) "__class__" = some (some (.builtin "object.__class__")))
  (zcg_InvalidRow : PySem.W.specialIn K (.builtin "object.__class__") "__get__" = some (some (.builtin "getset_descriptor.__get__")))
  (zct_InvalidRow : PySem.W.takesIn K (.builtin "object.__class__") = some true)
  (zmo_InvalidRow : PySem.W.mroIn K AInvalidRow (.type "object") = some true)
  (za_InvalidName : PySem.W.nsIn K mainGlobals "InvalidName" = some (some (.ref AInvalidName)))
  (zt_InvalidName : PySem.W.typeIn K (.ref AInvalidName) = some (.type "type"))
  (zx_InvalidName : PySem.W.subIn K (.ref AInvalidName) (.type "BaseException") = some true)
  (zh_InvalidName : PySem.W.hasDictIn K AInvalidName = true)
  (zi_InvalidName : PySem.W.excInitIn K AInvalidName [.type "ValueError", .type "Exception", .type "BaseException", .type "object"] "ValueError.__new__" = true)
  (zo_InvalidName : PySem.W.excOver K AInvalidName [.type "ValueError", .type "Exception", .type "BaseException", .type "object"] = true)
  (zI_InvalidName : PySem.W.findIn K (.ref AInvalidName) "__init__" = some (some (.ref AInvalidName_i)))
  (zf_InvalidName : PySem.W.isFn K (.ref AInvalidName_i) = true)
  (zl_InvalidName : K.lookup AInvalidName_i = some ⟨oc_InvalidName, od_InvalidName, .func (PySem.W.ksFn "__init__" "InvalidName.__init__" (eiA ((["given"] : List Str).zip [⟨66, 23, 66, 28⟩]) ⟨66, 17, 66, 21⟩) (eiSup "invalid name" ⟨67, 8, 67, 13⟩ ⟨67, 8, 67, 15⟩ ⟨67, 8, 67, 24⟩ ⟨67, 25, 67, 39⟩ ⟨67, 8, 67, 40⟩ :: setsB [("given", ⟨68, 8, 68, 12⟩, ⟨68, 8, 68, 18⟩, ⟨68, 21, 68, 26⟩, ⟨68, 8, 68, 26⟩)]) (eiS ["given"]) .none kV_InvalidName dc_InvalidName pm_InvalidName an_InvalidName (.ref AInvalidName_d) ct_InvalidName AInvalidName_c), sl_InvalidName⟩)
  (zq_InvalidName : PySem.W.codeIn K (.ref AInvalidName_d) "InvalidName.__init__" = true)
  (zs_InvalidName : PySem.W.ks_superIn K AInvalidName AInvalidName "__init__" = some (some (.builtin "ValueError.__init__")))
  (zB_InvalidName : PySem.W.subIn K (.ref AInvalidName) (.type "ValueError") = some true)
  (zST_InvalidName : PySem.W.nsIn K PySem.cStatics "thirdparty.any" = some none)
  (zA_InvalidName : PySem.W.findIn K (.ref AInvalidName) "__setattr__" = some (some (.builtin "object.__setattr__")))
  (zT_InvalidName_given : PySem.W.takerIn K AInvalidName "given" = some none)
  (zn_InvalidName_given : PySem.W.findIn K (.ref AInvalidName) "given" = some none)
  (zC_InvalidName : K.lookup AInvalidName_c = some ⟨cl_InvalidName, cld_InvalidName, .cell (some (.ref AInvalidName)), csl_InvalidName⟩)
  (zD_InvalidName : K.lookup AInvalidName_d = some ⟨ccl_InvalidName, cdd_InvalidName, .fields vs_InvalidName, ccs_InvalidName⟩)
  (zE_InvalidName : vs_InvalidName[2]? = some (.str P.main.file tf_InvalidName))
  (zM_InvalidName : PySem.W.mroIn K AInvalidName (.ref AInvalidName) = some true)
  (zN_InvalidName : (PySem.W.clsIn K AInvalidName).isSome = true)
  (zP_InvalidName : (P.main.scope.names.lookup ("super" : Str)).isSome = false)
  (zk_InvalidName : PySem.W.keepIn K (.ref AInvalidName) = true)
  (zga_InvalidName : PySem.W.findIn K (.ref AInvalidName) "__getattribute__" = some (some (.builtin "BaseException.__getattribute__")))
  (zgg_InvalidName : PySem.W.findIn K (.ref AInvalidName) "__getattr__" = some none)
  (zcc_InvalidName : PySem.W.findIn K (.ref AInvalidName) "__class__" = some (some (.builtin "object.__class__")))
  (zcg_InvalidName : PySem.W.specialIn K (.builtin "object.__class__") "__get__" = some (some (.builtin "getset_descriptor.__get__")))
  (zct_InvalidName : PySem.W.takesIn K (.builtin "object.__class__") = some true)
  (zmo_InvalidName : PySem.W.mroIn K AInvalidName (.type "object") = some true)
  (za_InvalidEdit : PySem.W.nsIn K mainGlobals "InvalidEdit" = some (some (.ref AInvalidEdit)))
  (zt_InvalidEdit : PySem.W.typeIn K (.ref AInvalidEdit) = some (.type "type"))
  (zx_InvalidEdit : PySem.W.subIn K (.ref AInvalidEdit) (.type "BaseException") = some true)
  (zh_InvalidEdit : PySem.W.hasDictIn K AInvalidEdit = true)
  (zi_InvalidEdit : PySem.W.excInitIn K AInvalidEdit [.type "ValueError", .type "Exception", .type "BaseException", .type "object"] "ValueError.__new__" = true)
  (zo_InvalidEdit : PySem.W.excOver K AInvalidEdit [.type "ValueError", .type "Exception", .type "BaseException", .type "object"] = true)
  (zI_InvalidEdit : PySem.W.findIn K (.ref AInvalidEdit) "__init__" = some (some (.ref AInvalidEdit_i)))
  (zf_InvalidEdit : PySem.W.isFn K (.ref AInvalidEdit_i) = true)
  (zl_InvalidEdit : K.lookup AInvalidEdit_i = some ⟨oc_InvalidEdit, od_InvalidEdit, .func (PySem.W.ksFn "__init__" "InvalidEdit.__init__" (eiA ((["position"] : List Str).zip [⟨71, 23, 71, 31⟩]) ⟨71, 17, 71, 21⟩) (eiSup "invalid edit" ⟨72, 8, 72, 13⟩ ⟨72, 8, 72, 15⟩ ⟨72, 8, 72, 24⟩ ⟨72, 25, 72, 39⟩ ⟨72, 8, 72, 40⟩ :: setsB [("position", ⟨73, 8, 73, 12⟩, ⟨73, 8, 73, 21⟩, ⟨73, 24, 73, 32⟩, ⟨73, 8, 73, 32⟩)]) (eiS ["position"]) .none kV_InvalidEdit dc_InvalidEdit pm_InvalidEdit an_InvalidEdit (.ref AInvalidEdit_d) ct_InvalidEdit AInvalidEdit_c), sl_InvalidEdit⟩)
  (zq_InvalidEdit : PySem.W.codeIn K (.ref AInvalidEdit_d) "InvalidEdit.__init__" = true)
  (zs_InvalidEdit : PySem.W.ks_superIn K AInvalidEdit AInvalidEdit "__init__" = some (some (.builtin "ValueError.__init__")))
  (zB_InvalidEdit : PySem.W.subIn K (.ref AInvalidEdit) (.type "ValueError") = some true)
  (zST_InvalidEdit : PySem.W.nsIn K PySem.cStatics "thirdparty.any" = some none)
  (zA_InvalidEdit : PySem.W.findIn K (.ref AInvalidEdit) "__setattr__" = some (some (.builtin "object.__setattr__")))
  (zT_InvalidEdit_position : PySem.W.takerIn K AInvalidEdit "position" = some none)
  (zn_InvalidEdit_position : PySem.W.findIn K (.ref AInvalidEdit) "position" = some none)
  (zC_InvalidEdit : K.lookup AInvalidEdit_c = some ⟨cl_InvalidEdit, cld_InvalidEdit, .cell (some (.ref AInvalidEdit)), csl_InvalidEdit⟩)
  (zD_InvalidEdit : K.lookup AInvalidEdit_d = some ⟨ccl_InvalidEdit, cdd_InvalidEdit, .fields vs_InvalidEdit, ccs_InvalidEdit⟩)
  (zE_InvalidEdit : vs_InvalidEdit[2]? = some (.str P.main.file tf_InvalidEdit))
  (zM_InvalidEdit : PySem.W.mroIn K AInvalidEdit (.ref AInvalidEdit) = some true)
  (zN_InvalidEdit : (PySem.W.clsIn K AInvalidEdit).isSome = true)
  (zP_InvalidEdit : (P.main.scope.names.lookup ("super" : Str)).isSome = false)
  (zk_InvalidEdit : PySem.W.keepIn K (.ref AInvalidEdit) = true)
  (zga_InvalidEdit : PySem.W.findIn K (.ref AInvalidEdit) "__getattribute__" = some (some (.builtin "BaseException.__getattribute__")))
  (zgg_InvalidEdit : PySem.W.findIn K (.ref AInvalidEdit) "__getattr__" = some none)
  (zcc_InvalidEdit : PySem.W.findIn K (.ref AInvalidEdit) "__class__" = some (some (.builtin "object.__class__")))
  (zcg_InvalidEdit : PySem.W.specialIn K (.builtin "object.__class__") "__get__" = some (some (.builtin "getset_descriptor.__get__")))
  (zct_InvalidEdit : PySem.W.takesIn K (.builtin "object.__class__") = some true)
  (zmo_InvalidEdit : PySem.W.mroIn K AInvalidEdit (.type "object") = some true)
  (za_InvalidText : PySem.W.nsIn K mainGlobals "InvalidText" = some (some (.ref AInvalidText)))
  (zt_InvalidText : PySem.W.typeIn K (.ref AInvalidText) = some (.type "type"))
  (zx_InvalidText : PySem.W.subIn K (.ref AInvalidText) (.type "BaseException") = some true)
  (zh_InvalidText : PySem.W.hasDictIn K AInvalidText = true)
  (zi_InvalidText : PySem.W.excInitIn K AInvalidText [.type "ValueError", .type "Exception", .type "BaseException", .type "object"] "ValueError.__new__" = true)
  (zo_InvalidText : PySem.W.excOver K AInvalidText [.type "ValueError", .type "Exception", .type "BaseException", .type "object"] = true)
  (zI_InvalidText : PySem.W.findIn K (.ref AInvalidText) "__init__" = some (some (.ref AInvalidText_i)))
  (zf_InvalidText : PySem.W.isFn K (.ref AInvalidText_i) = true)
  (zl_InvalidText : K.lookup AInvalidText_i = some ⟨oc_InvalidText, od_InvalidText, .func (PySem.W.ksFn "__init__" "InvalidText.__init__" (eiA ((["offset"] : List Str).zip [⟨76, 23, 76, 29⟩]) ⟨76, 17, 76, 21⟩) (eiSup "invalid text" ⟨77, 8, 77, 13⟩ ⟨77, 8, 77, 15⟩ ⟨77, 8, 77, 24⟩ ⟨77, 25, 77, 39⟩ ⟨77, 8, 77, 40⟩ :: setsB [("offset", ⟨78, 8, 78, 12⟩, ⟨78, 8, 78, 19⟩, ⟨78, 22, 78, 28⟩, ⟨78, 8, 78, 28⟩)]) (eiS ["offset"]) .none kV_InvalidText dc_InvalidText pm_InvalidText an_InvalidText (.ref AInvalidText_d) ct_InvalidText AInvalidText_c), sl_InvalidText⟩)
  (zq_InvalidText : PySem.W.codeIn K (.ref AInvalidText_d) "InvalidText.__init__" = true)
  (zs_InvalidText : PySem.W.ks_superIn K AInvalidText AInvalidText "__init__" = some (some (.builtin "ValueError.__init__")))
  (zB_InvalidText : PySem.W.subIn K (.ref AInvalidText) (.type "ValueError") = some true)
  (zST_InvalidText : PySem.W.nsIn K PySem.cStatics "thirdparty.any" = some none)
  (zA_InvalidText : PySem.W.findIn K (.ref AInvalidText) "__setattr__" = some (some (.builtin "object.__setattr__")))
  (zT_InvalidText_offset : PySem.W.takerIn K AInvalidText "offset" = some none)
  (zn_InvalidText_offset : PySem.W.findIn K (.ref AInvalidText) "offset" = some none)
  (zC_InvalidText : K.lookup AInvalidText_c = some ⟨cl_InvalidText, cld_InvalidText, .cell (some (.ref AInvalidText)), csl_InvalidText⟩)
  (zD_InvalidText : K.lookup AInvalidText_d = some ⟨ccl_InvalidText, cdd_InvalidText, .fields vs_InvalidText, ccs_InvalidText⟩)
  (zE_InvalidText : vs_InvalidText[2]? = some (.str P.main.file tf_InvalidText))
  (zM_InvalidText : PySem.W.mroIn K AInvalidText (.ref AInvalidText) = some true)
  (zN_InvalidText : (PySem.W.clsIn K AInvalidText).isSome = true)
  (zP_InvalidText : (P.main.scope.names.lookup ("super" : Str)).isSome = false)
  (zk_InvalidText : PySem.W.keepIn K (.ref AInvalidText) = true)
  (zga_InvalidText : PySem.W.findIn K (.ref AInvalidText) "__getattribute__" = some (some (.builtin "BaseException.__getattribute__")))
  (zgg_InvalidText : PySem.W.findIn K (.ref AInvalidText) "__getattr__" = some none)
  (zcc_InvalidText : PySem.W.findIn K (.ref AInvalidText) "__class__" = some (some (.builtin "object.__class__")))
  (zcg_InvalidText : PySem.W.specialIn K (.builtin "object.__class__") "__get__" = some (some (.builtin "getset_descriptor.__get__")))
  (zct_InvalidText : PySem.W.takesIn K (.builtin "object.__class__") = some true)
  (zmo_InvalidText : PySem.W.mroIn K AInvalidText (.type "object") = some true)
  (za_Refused : PySem.W.nsIn K mainGlobals "Refused" = some (some (.ref ARefused)))
  (zt_Refused : PySem.W.typeIn K (.ref ARefused) = some (.type "type"))
  (zx_Refused : PySem.W.subIn K (.ref ARefused) (.type "BaseException") = some true)
  (zh_Refused : PySem.W.hasDictIn K ARefused = true)
  (zi_Refused : PySem.W.excInitIn K ARefused [.type "ValueError", .type "Exception", .type "BaseException", .type "object"] "ValueError.__new__" = true)
  (zo_Refused : PySem.W.excOver K ARefused [.type "ValueError", .type "Exception", .type "BaseException", .type "object"] = true)
  (zI_Refused : PySem.W.findIn K (.ref ARefused) "__init__" = some (some (.ref ARefused_i)))
  (zf_Refused : PySem.W.isFn K (.ref ARefused_i) = true)
  (zl_Refused : K.lookup ARefused_i = some ⟨oc_Refused, od_Refused, .func (PySem.W.ksFn "__init__" "Refused.__init__" (eiA ((["offset", "reason"] : List Str).zip [⟨81, 23, 81, 29⟩, ⟨81, 31, 81, 37⟩]) ⟨81, 17, 81, 21⟩) (eiSup "the stream is wrong" ⟨82, 8, 82, 13⟩ ⟨82, 8, 82, 15⟩ ⟨82, 8, 82, 24⟩ ⟨82, 25, 82, 46⟩ ⟨82, 8, 82, 47⟩ :: setsB [("offset", ⟨83, 8, 83, 12⟩, ⟨83, 8, 83, 19⟩, ⟨83, 22, 83, 28⟩, ⟨83, 8, 83, 28⟩), ("reason", ⟨84, 8, 84, 12⟩, ⟨84, 8, 84, 19⟩, ⟨84, 22, 84, 28⟩, ⟨84, 8, 84, 28⟩)]) (eiS ["offset", "reason"]) .none kV_Refused dc_Refused pm_Refused an_Refused (.ref ARefused_d) ct_Refused ARefused_c), sl_Refused⟩)
  (zq_Refused : PySem.W.codeIn K (.ref ARefused_d) "Refused.__init__" = true)
  (zs_Refused : PySem.W.ks_superIn K ARefused ARefused "__init__" = some (some (.builtin "ValueError.__init__")))
  (zB_Refused : PySem.W.subIn K (.ref ARefused) (.type "ValueError") = some true)
  (zST_Refused : PySem.W.nsIn K PySem.cStatics "thirdparty.any" = some none)
  (zA_Refused : PySem.W.findIn K (.ref ARefused) "__setattr__" = some (some (.builtin "object.__setattr__")))
  (zT_Refused_offset : PySem.W.takerIn K ARefused "offset" = some none)
  (zn_Refused_offset : PySem.W.findIn K (.ref ARefused) "offset" = some none)
  (zT_Refused_reason : PySem.W.takerIn K ARefused "reason" = some none)
  (zn_Refused_reason : PySem.W.findIn K (.ref ARefused) "reason" = some none)
  (zC_Refused : K.lookup ARefused_c = some ⟨cl_Refused, cld_Refused, .cell (some (.ref ARefused)), csl_Refused⟩)
  (zD_Refused : K.lookup ARefused_d = some ⟨ccl_Refused, cdd_Refused, .fields vs_Refused, ccs_Refused⟩)
  (zE_Refused : vs_Refused[2]? = some (.str P.main.file tf_Refused))
  (zM_Refused : PySem.W.mroIn K ARefused (.ref ARefused) = some true)
  (zN_Refused : (PySem.W.clsIn K ARefused).isSome = true)
  (zP_Refused : (P.main.scope.names.lookup ("super" : Str)).isSome = false)
  (zk_Refused : PySem.W.keepIn K (.ref ARefused) = true)
  (zga_Refused : PySem.W.findIn K (.ref ARefused) "__getattribute__" = some (some (.builtin "BaseException.__getattribute__")))
  (zgg_Refused : PySem.W.findIn K (.ref ARefused) "__getattr__" = some none)
  (zcc_Refused : PySem.W.findIn K (.ref ARefused) "__class__" = some (some (.builtin "object.__class__")))
  (zcg_Refused : PySem.W.specialIn K (.builtin "object.__class__") "__get__" = some (some (.builtin "getset_descriptor.__get__")))
  (zct_Refused : PySem.W.takesIn K (.builtin "object.__class__") = some true)
  (zmo_Refused : PySem.W.mroIn K ARefused (.type "object") = some true)
  (za_NotCanonical : PySem.W.nsIn K mainGlobals "NotCanonical" = some (some (.ref ANotCanonical)))
  (zt_NotCanonical : PySem.W.typeIn K (.ref ANotCanonical) = some (.type "type"))
  (zx_NotCanonical : PySem.W.subIn K (.ref ANotCanonical) (.type "BaseException") = some true)
  (zh_NotCanonical : PySem.W.hasDictIn K ANotCanonical = true)
  (zi_NotCanonical : PySem.W.excInitIn K ANotCanonical [.type "ValueError", .type "Exception", .type "BaseException", .type "object"] "ValueError.__new__" = true)
  (zo_NotCanonical : PySem.W.excOver K ANotCanonical [.type "ValueError", .type "Exception", .type "BaseException", .type "object"] = true)
  (zI_NotCanonical : PySem.W.findIn K (.ref ANotCanonical) "__init__" = some (some (.ref ANotCanonical_i)))
  (zf_NotCanonical : PySem.W.isFn K (.ref ANotCanonical_i) = true)
  (zl_NotCanonical : K.lookup ANotCanonical_i = some ⟨oc_NotCanonical, od_NotCanonical, .func (PySem.W.ksFn "__init__" "NotCanonical.__init__" (eiA ((["offset"] : List Str).zip [⟨87, 23, 87, 29⟩]) ⟨87, 17, 87, 21⟩) (eiSup "the stream is not canonical" ⟨88, 8, 88, 13⟩ ⟨88, 8, 88, 15⟩ ⟨88, 8, 88, 24⟩ ⟨88, 25, 88, 54⟩ ⟨88, 8, 88, 55⟩ :: setsB [("offset", ⟨89, 8, 89, 12⟩, ⟨89, 8, 89, 19⟩, ⟨89, 22, 89, 28⟩, ⟨89, 8, 89, 28⟩)]) (eiS ["offset"]) .none kV_NotCanonical dc_NotCanonical pm_NotCanonical an_NotCanonical (.ref ANotCanonical_d) ct_NotCanonical ANotCanonical_c), sl_NotCanonical⟩)
  (zq_NotCanonical : PySem.W.codeIn K (.ref ANotCanonical_d) "NotCanonical.__init__" = true)
  (zs_NotCanonical : PySem.W.ks_superIn K ANotCanonical ANotCanonical "__init__" = some (some (.builtin "ValueError.__init__")))
  (zB_NotCanonical : PySem.W.subIn K (.ref ANotCanonical) (.type "ValueError") = some true)
  (zST_NotCanonical : PySem.W.nsIn K PySem.cStatics "thirdparty.any" = some none)
  (zA_NotCanonical : PySem.W.findIn K (.ref ANotCanonical) "__setattr__" = some (some (.builtin "object.__setattr__")))
  (zT_NotCanonical_offset : PySem.W.takerIn K ANotCanonical "offset" = some none)
  (zn_NotCanonical_offset : PySem.W.findIn K (.ref ANotCanonical) "offset" = some none)
  (zC_NotCanonical : K.lookup ANotCanonical_c = some ⟨cl_NotCanonical, cld_NotCanonical, .cell (some (.ref ANotCanonical)), csl_NotCanonical⟩)
  (zD_NotCanonical : K.lookup ANotCanonical_d = some ⟨ccl_NotCanonical, cdd_NotCanonical, .fields vs_NotCanonical, ccs_NotCanonical⟩)
  (zE_NotCanonical : vs_NotCanonical[2]? = some (.str P.main.file tf_NotCanonical))
  (zM_NotCanonical : PySem.W.mroIn K ANotCanonical (.ref ANotCanonical) = some true)
  (zN_NotCanonical : (PySem.W.clsIn K ANotCanonical).isSome = true)
  (zP_NotCanonical : (P.main.scope.names.lookup ("super" : Str)).isSome = false)
  (zk_NotCanonical : PySem.W.keepIn K (.ref ANotCanonical) = true)
  (zga_NotCanonical : PySem.W.findIn K (.ref ANotCanonical) "__getattribute__" = some (some (.builtin "BaseException.__getattribute__")))
  (zgg_NotCanonical : PySem.W.findIn K (.ref ANotCanonical) "__getattr__" = some none)
  (zcc_NotCanonical : PySem.W.findIn K (.ref ANotCanonical) "__class__" = some (some (.builtin "object.__class__")))
  (zcg_NotCanonical : PySem.W.specialIn K (.builtin "object.__class__") "__get__" = some (some (.builtin "getset_descriptor.__get__")))
  (zct_NotCanonical : PySem.W.takesIn K (.builtin "object.__class__") = some true)
  (zmo_NotCanonical : PySem.W.mroIn K ANotCanonical (.type "object") = some true)
  (za_StateError : PySem.W.nsIn K mainGlobals "StateError" = some (some (.ref AStateError)))
  (zt_StateError : PySem.W.typeIn K (.ref AStateError) = some (.type "type"))
  (zx_StateError : PySem.W.subIn K (.ref AStateError) (.type "BaseException") = some true)
  (zh_StateError : PySem.W.hasDictIn K AStateError = true)
  (za_TooDeep : PySem.W.nsIn K mainGlobals "TooDeep" = some (some (.ref ATooDeep)))
  (zt_TooDeep : PySem.W.typeIn K (.ref ATooDeep) = some (.type "type"))
  (zx_TooDeep : PySem.W.subIn K (.ref ATooDeep) (.type "BaseException") = some true)
  (zh_TooDeep : PySem.W.hasDictIn K ATooDeep = true)
  (zi_TooDeep : PySem.W.excInitIn K ATooDeep [.type "RuntimeError", .type "Exception", .type "BaseException", .type "object"] "RuntimeError.__new__" = true)
  (zo_TooDeep : PySem.W.excOver K ATooDeep [.type "RuntimeError", .type "Exception", .type "BaseException", .type "object"] = true)
  (zI_TooDeep : PySem.W.findIn K (.ref ATooDeep) "__init__" = some (some (.ref ATooDeep_i)))
  (zf_TooDeep : PySem.W.isFn K (.ref ATooDeep_i) = true)
  (zl_TooDeep : K.lookup ATooDeep_i = some ⟨oc_TooDeep, od_TooDeep, .func (PySem.W.ksFn "__init__" "TooDeep.__init__" (eiA ((["limit"] : List Str).zip [⟨94, 23, 94, 28⟩]) ⟨94, 17, 94, 21⟩) (eiSup "too many values inside one another" ⟨95, 8, 95, 13⟩ ⟨95, 8, 95, 15⟩ ⟨95, 8, 95, 24⟩ ⟨95, 25, 95, 61⟩ ⟨95, 8, 95, 62⟩ :: setsB [("limit", ⟨96, 8, 96, 12⟩, ⟨96, 8, 96, 18⟩, ⟨96, 21, 96, 26⟩, ⟨96, 8, 96, 26⟩)]) (eiS ["limit"]) .none kV_TooDeep dc_TooDeep pm_TooDeep an_TooDeep (.ref ATooDeep_d) ct_TooDeep ATooDeep_c), sl_TooDeep⟩)
  (zq_TooDeep : PySem.W.codeIn K (.ref ATooDeep_d) "TooDeep.__init__" = true)
  (zs_TooDeep : PySem.W.ks_superIn K ATooDeep ATooDeep "__init__" = some (some (.builtin "RuntimeError.__init__")))
  (zB_TooDeep : PySem.W.subIn K (.ref ATooDeep) (.type "RuntimeError") = some true)
  (zST_TooDeep : PySem.W.nsIn K PySem.cStatics "thirdparty.any" = some none)
  (zA_TooDeep : PySem.W.findIn K (.ref ATooDeep) "__setattr__" = some (some (.builtin "object.__setattr__")))
  (zT_TooDeep_limit : PySem.W.takerIn K ATooDeep "limit" = some none)
  (zn_TooDeep_limit : PySem.W.findIn K (.ref ATooDeep) "limit" = some none)
  (zC_TooDeep : K.lookup ATooDeep_c = some ⟨cl_TooDeep, cld_TooDeep, .cell (some (.ref ATooDeep)), csl_TooDeep⟩)
  (zD_TooDeep : K.lookup ATooDeep_d = some ⟨ccl_TooDeep, cdd_TooDeep, .fields vs_TooDeep, ccs_TooDeep⟩)
  (zE_TooDeep : vs_TooDeep[2]? = some (.str P.main.file tf_TooDeep))
  (zM_TooDeep : PySem.W.mroIn K ATooDeep (.ref ATooDeep) = some true)
  (zN_TooDeep : (PySem.W.clsIn K ATooDeep).isSome = true)
  (zP_TooDeep : (P.main.scope.names.lookup ("super" : Str)).isSome = false)
  (zk_TooDeep : PySem.W.keepIn K (.ref ATooDeep) = true)
  (zga_TooDeep : PySem.W.findIn K (.ref ATooDeep) "__getattribute__" = some (some (.builtin "BaseException.__getattribute__")))
  (zgg_TooDeep : PySem.W.findIn K (.ref ATooDeep) "__getattr__" = some none)
  (zcc_TooDeep : PySem.W.findIn K (.ref ATooDeep) "__class__" = some (some (.builtin "object.__class__")))
  (zcg_TooDeep : PySem.W.specialIn K (.builtin "object.__class__") "__get__" = some (some (.builtin "getset_descriptor.__get__")))
  (zct_TooDeep : PySem.W.takesIn K (.builtin "object.__class__") = some true)
  (zmo_TooDeep : PySem.W.mroIn K ATooDeep (.type "object") = some true)
  (za_TooLong : PySem.W.nsIn K mainGlobals "TooLong" = some (some (.ref ATooLong)))
  (zt_TooLong : PySem.W.typeIn K (.ref ATooLong) = some (.type "type"))
  (zx_TooLong : PySem.W.subIn K (.ref ATooLong) (.type "BaseException") = some true)
  (zh_TooLong : PySem.W.hasDictIn K ATooLong = true)
  (zi_TooLong : PySem.W.excInitIn K ATooLong [.type "RuntimeError", .type "Exception", .type "BaseException", .type "object"] "RuntimeError.__new__" = true)
  (zo_TooLong : PySem.W.excOver K ATooLong [.type "RuntimeError", .type "Exception", .type "BaseException", .type "object"] = true)
  (zI_TooLong : PySem.W.findIn K (.ref ATooLong) "__init__" = some (some (.ref ATooLong_i)))
  (zf_TooLong : PySem.W.isFn K (.ref ATooLong_i) = true)
  (zl_TooLong : K.lookup ATooLong_i = some ⟨oc_TooLong, od_TooLong, .func (PySem.W.ksFn "__init__" "TooLong.__init__" (eiA ((["limit"] : List Str).zip [⟨99, 23, 99, 28⟩]) ⟨99, 17, 99, 21⟩) (eiSup "the stream would be too long" ⟨100, 8, 100, 13⟩ ⟨100, 8, 100, 15⟩ ⟨100, 8, 100, 24⟩ ⟨100, 25, 100, 55⟩ ⟨100, 8, 100, 56⟩ :: setsB [("limit", ⟨101, 8, 101, 12⟩, ⟨101, 8, 101, 18⟩, ⟨101, 21, 101, 26⟩, ⟨101, 8, 101, 26⟩)]) (eiS ["limit"]) .none kV_TooLong dc_TooLong pm_TooLong an_TooLong (.ref ATooLong_d) ct_TooLong ATooLong_c), sl_TooLong⟩)
  (zq_TooLong : PySem.W.codeIn K (.ref ATooLong_d) "TooLong.__init__" = true)
  (zs_TooLong : PySem.W.ks_superIn K ATooLong ATooLong "__init__" = some (some (.builtin "RuntimeError.__init__")))
  (zB_TooLong : PySem.W.subIn K (.ref ATooLong) (.type "RuntimeError") = some true)
  (zST_TooLong : PySem.W.nsIn K PySem.cStatics "thirdparty.any" = some none)
  (zA_TooLong : PySem.W.findIn K (.ref ATooLong) "__setattr__" = some (some (.builtin "object.__setattr__")))
  (zT_TooLong_limit : PySem.W.takerIn K ATooLong "limit" = some none)
  (zn_TooLong_limit : PySem.W.findIn K (.ref ATooLong) "limit" = some none)
  (zC_TooLong : K.lookup ATooLong_c = some ⟨cl_TooLong, cld_TooLong, .cell (some (.ref ATooLong)), csl_TooLong⟩)
  (zD_TooLong : K.lookup ATooLong_d = some ⟨ccl_TooLong, cdd_TooLong, .fields vs_TooLong, ccs_TooLong⟩)
  (zE_TooLong : vs_TooLong[2]? = some (.str P.main.file tf_TooLong))
  (zM_TooLong : PySem.W.mroIn K ATooLong (.ref ATooLong) = some true)
  (zN_TooLong : (PySem.W.clsIn K ATooLong).isSome = true)
  (zP_TooLong : (P.main.scope.names.lookup ("super" : Str)).isSome = false)
  (zk_TooLong : PySem.W.keepIn K (.ref ATooLong) = true)
  (zga_TooLong : PySem.W.findIn K (.ref ATooLong) "__getattribute__" = some (some (.builtin "BaseException.__getattribute__")))
  (zgg_TooLong : PySem.W.findIn K (.ref ATooLong) "__getattr__" = some none)
  (zcc_TooLong : PySem.W.findIn K (.ref ATooLong) "__class__" = some (some (.builtin "object.__class__")))
  (zcg_TooLong : PySem.W.specialIn K (.builtin "object.__class__") "__get__" = some (some (.builtin "getset_descriptor.__get__")))
  (zct_TooLong : PySem.W.takesIn K (.builtin "object.__class__") = some true)
  (zmo_TooLong : PySem.W.mroIn K ATooLong (.type "object") = some true)
  (za_SelfArgument : PySem.W.nsIn K mainGlobals "SelfArgument" = some (some (.ref ASelfArgument)))
  (zt_SelfArgument : PySem.W.typeIn K (.ref ASelfArgument) = some (.type "type"))
  (zx_SelfArgument : PySem.W.subIn K (.ref ASelfArgument) (.type "BaseException") = some true)
  (zh_SelfArgument : PySem.W.hasDictIn K ASelfArgument = true)
  (zi_SelfArgument : PySem.W.excInitIn K ASelfArgument [.type "RuntimeError", .type "Exception", .type "BaseException", .type "object"] "RuntimeError.__new__" = true)
  (zo_SelfArgument : PySem.W.excOver K ASelfArgument [.type "RuntimeError", .type "Exception", .type "BaseException", .type "object"] = true)
  (zI_SelfArgument : PySem.W.findIn K (.ref ASelfArgument) "__init__" = some (some (.ref ASelfArgument_i)))
  (zf_SelfArgument : PySem.W.isFn K (.ref ASelfArgument_i) = true)
  (zl_SelfArgument : K.lookup ASelfArgument_i = some ⟨oc_SelfArgument, od_SelfArgument, .func (PySem.W.ksFn "__init__" "SelfArgument.__init__" (eiA ((["given"] : List Str).zip [⟨104, 23, 104, 28⟩]) ⟨104, 17, 104, 21⟩) (eiSup "a thing cannot be made of itself" ⟨105, 8, 105, 13⟩ ⟨105, 8, 105, 15⟩ ⟨105, 8, 105, 24⟩ ⟨105, 25, 105, 59⟩ ⟨105, 8, 105, 60⟩ :: setsB [("given", ⟨106, 8, 106, 12⟩, ⟨106, 8, 106, 18⟩, ⟨106, 21, 106, 26⟩, ⟨106, 8, 106, 26⟩)]) (eiS ["given"]) .none kV_SelfArgument dc_SelfArgument pm_SelfArgument an_SelfArgument (.ref ASelfArgument_d) ct_SelfArgument ASelfArgument_c), sl_SelfArgument⟩)
  (zq_SelfArgument : PySem.W.codeIn K (.ref ASelfArgument_d) "SelfArgument.__init__" = true)
  (zs_SelfArgument : PySem.W.ks_superIn K ASelfArgument ASelfArgument "__init__" = some (some (.builtin "RuntimeError.__init__")))
  (zB_SelfArgument : PySem.W.subIn K (.ref ASelfArgument) (.type "RuntimeError") = some true)
  (zST_SelfArgument : PySem.W.nsIn K PySem.cStatics "thirdparty.any" = some none)
  (zA_SelfArgument : PySem.W.findIn K (.ref ASelfArgument) "__setattr__" = some (some (.builtin "object.__setattr__")))
  (zT_SelfArgument_given : PySem.W.takerIn K ASelfArgument "given" = some none)
  (zn_SelfArgument_given : PySem.W.findIn K (.ref ASelfArgument) "given" = some none)
  (zC_SelfArgument : K.lookup ASelfArgument_c = some ⟨cl_SelfArgument, cld_SelfArgument, .cell (some (.ref ASelfArgument)), csl_SelfArgument⟩)
  (zD_SelfArgument : K.lookup ASelfArgument_d = some ⟨ccl_SelfArgument, cdd_SelfArgument, .fields vs_SelfArgument, ccs_SelfArgument⟩)
  (zE_SelfArgument : vs_SelfArgument[2]? = some (.str P.main.file tf_SelfArgument))
  (zM_SelfArgument : PySem.W.mroIn K ASelfArgument (.ref ASelfArgument) = some true)
  (zN_SelfArgument : (PySem.W.clsIn K ASelfArgument).isSome = true)
  (zP_SelfArgument : (P.main.scope.names.lookup ("super" : Str)).isSome = false)
  (zk_SelfArgument : PySem.W.keepIn K (.ref ASelfArgument) = true)
  (zga_SelfArgument : PySem.W.findIn K (.ref ASelfArgument) "__getattribute__" = some (some (.builtin "BaseException.__getattribute__")))
  (zgg_SelfArgument : PySem.W.findIn K (.ref ASelfArgument) "__getattr__" = some none)
  (zcc_SelfArgument : PySem.W.findIn K (.ref ASelfArgument) "__class__" = some (some (.builtin "object.__class__")))
  (zcg_SelfArgument : PySem.W.specialIn K (.builtin "object.__class__") "__get__" = some (some (.builtin "getset_descriptor.__get__")))
  (zct_SelfArgument : PySem.W.takesIn K (.builtin "object.__class__") = some true)
  (zmo_SelfArgument : PySem.W.mroIn K ASelfArgument (.type "object") = some true)
  (za_KeyTaken : PySem.W.nsIn K mainGlobals "KeyTaken" = some (some (.ref AKeyTaken)))
  (zt_KeyTaken : PySem.W.typeIn K (.ref AKeyTaken) = some (.type "type"))
  (zx_KeyTaken : PySem.W.subIn K (.ref AKeyTaken) (.type "BaseException") = some true)
  (zh_KeyTaken : PySem.W.hasDictIn K AKeyTaken = true)
  (zi_KeyTaken : PySem.W.excInitIn K AKeyTaken [.type "RuntimeError", .type "Exception", .type "BaseException", .type "object"] "RuntimeError.__new__" = true)
  (zo_KeyTaken : PySem.W.excOver K AKeyTaken [.type "RuntimeError", .type "Exception", .type "BaseException", .type "object"] = true)
  (zI_KeyTaken : PySem.W.findIn K (.ref AKeyTaken) "__init__" = some (some (.ref AKeyTaken_i)))
  (zf_KeyTaken : PySem.W.isFn K (.ref AKeyTaken_i) = true)
  (zl_KeyTaken : K.lookup AKeyTaken_i = some ⟨oc_KeyTaken, od_KeyTaken, .func (PySem.W.ksFn "__init__" "KeyTaken.__init__" (eiA ((["key"] : List Str).zip [⟨109, 23, 109, 26⟩]) ⟨109, 17, 109, 21⟩) (eiSup "the key is there already" ⟨110, 8, 110, 13⟩ ⟨110, 8, 110, 15⟩ ⟨110, 8, 110, 24⟩ ⟨110, 25, 110, 51⟩ ⟨110, 8, 110, 52⟩ :: setsB [("key", ⟨111, 8, 111, 12⟩, ⟨111, 8, 111, 16⟩, ⟨111, 19, 111, 22⟩, ⟨111, 8, 111, 22⟩)]) (eiS ["key"]) .none kV_KeyTaken dc_KeyTaken pm_KeyTaken an_KeyTaken (.ref AKeyTaken_d) ct_KeyTaken AKeyTaken_c), sl_KeyTaken⟩)
  (zq_KeyTaken : PySem.W.codeIn K (.ref AKeyTaken_d) "KeyTaken.__init__" = true)
  (zs_KeyTaken : PySem.W.ks_superIn K AKeyTaken AKeyTaken "__init__" = some (some (.builtin "RuntimeError.__init__")))
  (zB_KeyTaken : PySem.W.subIn K (.ref AKeyTaken) (.type "RuntimeError") = some true)
  (zST_KeyTaken : PySem.W.nsIn K PySem.cStatics "thirdparty.any" = some none)
  (zA_KeyTaken : PySem.W.findIn K (.ref AKeyTaken) "__setattr__" = some (some (.builtin "object.__setattr__")))
  (zT_KeyTaken_key : PySem.W.takerIn K AKeyTaken "key" = some none)
  (zn_KeyTaken_key : PySem.W.findIn K (.ref AKeyTaken) "key" = some none)
  (zC_KeyTaken : K.lookup AKeyTaken_c = some ⟨cl_KeyTaken, cld_KeyTaken, .cell (some (.ref AKeyTaken)), csl_KeyTaken⟩)
  (zD_KeyTaken : K.lookup AKeyTaken_d = some ⟨ccl_KeyTaken, cdd_KeyTaken, .fields vs_KeyTaken, ccs_KeyTaken⟩)
  (zE_KeyTaken : vs_KeyTaken[2]? = some (.str P.main.file tf_KeyTaken))
  (zM_KeyTaken : PySem.W.mroIn K AKeyTaken (.ref AKeyTaken) = some true)
  (zN_KeyTaken : (PySem.W.clsIn K AKeyTaken).isSome = true)
  (zP_KeyTaken : (P.main.scope.names.lookup ("super" : Str)).isSome = false)
  (zk_KeyTaken : PySem.W.keepIn K (.ref AKeyTaken) = true)
  (zga_KeyTaken : PySem.W.findIn K (.ref AKeyTaken) "__getattribute__" = some (some (.builtin "BaseException.__getattribute__")))
  (zgg_KeyTaken : PySem.W.findIn K (.ref AKeyTaken) "__getattr__" = some none)
  (zcc_KeyTaken : PySem.W.findIn K (.ref AKeyTaken) "__class__" = some (some (.builtin "object.__class__")))
  (zcg_KeyTaken : PySem.W.specialIn K (.builtin "object.__class__") "__get__" = some (some (.builtin "getset_descriptor.__get__")))
  (zct_KeyTaken : PySem.W.takesIn K (.builtin "object.__class__") = some true)
  (zmo_KeyTaken : PySem.W.mroIn K AKeyTaken (.type "object") = some true)
  (za_BrandTaken : PySem.W.nsIn K mainGlobals "BrandTaken" = some (some (.ref ABrandTaken)))
  (zt_BrandTaken : PySem.W.typeIn K (.ref ABrandTaken) = some (.type "type"))
  (zx_BrandTaken : PySem.W.subIn K (.ref ABrandTaken) (.type "BaseException") = some true)
  (zh_BrandTaken : PySem.W.hasDictIn K ABrandTaken = true)
  (zi_BrandTaken : PySem.W.excInitIn K ABrandTaken [.type "RuntimeError", .type "Exception", .type "BaseException", .type "object"] "RuntimeError.__new__" = true)
  (zo_BrandTaken : PySem.W.excOver K ABrandTaken [.type "RuntimeError", .type "Exception", .type "BaseException", .type "object"] = true)
  (zI_BrandTaken : PySem.W.findIn K (.ref ABrandTaken) "__init__" = some (some (.ref ABrandTaken_i)))
  (zf_BrandTaken : PySem.W.isFn K (.ref ABrandTaken_i) = true)
  (zl_BrandTaken : K.lookup ABrandTaken_i = some ⟨oc_BrandTaken, od_BrandTaken, .func (PySem.W.ksFn "__init__" "BrandTaken.__init__" (eiA ((["given"] : List Str).zip [⟨114, 23, 114, 28⟩]) ⟨114, 17, 114, 21⟩) (eiSup "the brand is known already" ⟨115, 8, 115, 13⟩ ⟨115, 8, 115, 15⟩ ⟨115, 8, 115, 24⟩ ⟨115, 25, 115, 53⟩ ⟨115, 8, 115, 54⟩ :: setsB [("given", ⟨116, 8, 116, 12⟩, ⟨116, 8, 116, 18⟩, ⟨116, 21, 116, 26⟩, ⟨116, 8, 116, 26⟩)]) (eiS ["given"]) .none kV_BrandTaken dc_BrandTaken pm_BrandTaken an_BrandTaken (.ref ABrandTaken_d) ct_BrandTaken ABrandTaken_c), sl_BrandTaken⟩)
  (zq_BrandTaken : PySem.W.codeIn K (.ref ABrandTaken_d) "BrandTaken.__init__" = true)
  (zs_BrandTaken : PySem.W.ks_superIn K ABrandTaken ABrandTaken "__init__" = some (some (.builtin "RuntimeError.__init__")))
  (zB_BrandTaken : PySem.W.subIn K (.ref ABrandTaken) (.type "RuntimeError") = some true)
  (zST_BrandTaken : PySem.W.nsIn K PySem.cStatics "thirdparty.any" = some none)
  (zA_BrandTaken : PySem.W.findIn K (.ref ABrandTaken) "__setattr__" = some (some (.builtin "object.__setattr__")))
  (zT_BrandTaken_given : PySem.W.takerIn K ABrandTaken "given" = some none)
  (zn_BrandTaken_given : PySem.W.findIn K (.ref ABrandTaken) "given" = some none)
  (zC_BrandTaken : K.lookup ABrandTaken_c = some ⟨cl_BrandTaken, cld_BrandTaken, .cell (some (.ref ABrandTaken)), csl_BrandTaken⟩)
  (zD_BrandTaken : K.lookup ABrandTaken_d = some ⟨ccl_BrandTaken, cdd_BrandTaken, .fields vs_BrandTaken, ccs_BrandTaken⟩)
  (zE_BrandTaken : vs_BrandTaken[2]? = some (.str P.main.file tf_BrandTaken))
  (zM_BrandTaken : PySem.W.mroIn K ABrandTaken (.ref ABrandTaken) = some true)
  (zN_BrandTaken : (PySem.W.clsIn K ABrandTaken).isSome = true)
  (zP_BrandTaken : (P.main.scope.names.lookup ("super" : Str)).isSome = false)
  (zk_BrandTaken : PySem.W.keepIn K (.ref ABrandTaken) = true)
  (zga_BrandTaken : PySem.W.findIn K (.ref ABrandTaken) "__getattribute__" = some (some (.builtin "BaseException.__getattribute__")))
  (zgg_BrandTaken : PySem.W.findIn K (.ref ABrandTaken) "__getattr__" = some none)
  (zcc_BrandTaken : PySem.W.findIn K (.ref ABrandTaken) "__class__" = some (some (.builtin "object.__class__")))
  (zcg_BrandTaken : PySem.W.specialIn K (.builtin "object.__class__") "__get__" = some (some (.builtin "getset_descriptor.__get__")))
  (zct_BrandTaken : PySem.W.takesIn K (.builtin "object.__class__") = some true)
  (zmo_BrandTaken : PySem.W.mroIn K ABrandTaken (.type "object") = some true)
  (za_Full : PySem.W.nsIn K mainGlobals "Full" = some (some (.ref AFull)))
  (zt_Full : PySem.W.typeIn K (.ref AFull) = some (.type "type"))
  (zx_Full : PySem.W.subIn K (.ref AFull) (.type "BaseException") = some true)
  (zh_Full : PySem.W.hasDictIn K AFull = true)
  (zi_Full : PySem.W.excInitIn K AFull [.type "RuntimeError", .type "Exception", .type "BaseException", .type "object"] "RuntimeError.__new__" = true)
  (zo_Full : PySem.W.excOver K AFull [.type "RuntimeError", .type "Exception", .type "BaseException", .type "object"] = true)
  (zI_Full : PySem.W.findIn K (.ref AFull) "__init__" = some (some (.ref AFull_i)))
  (zf_Full : PySem.W.isFn K (.ref AFull_i) = true)
  (zl_Full : K.lookup AFull_i = some ⟨oc_Full, od_Full, .func (PySem.W.ksFn "__init__" "Full.__init__" (eiA ((["limit"] : List Str).zip [⟨119, 23, 119, 28⟩]) ⟨119, 17, 119, 21⟩) (eiSup "the limit is reached" ⟨120, 8, 120, 13⟩ ⟨120, 8, 120, 15⟩ ⟨120, 8, 120, 24⟩ ⟨120, 25, 120, 47⟩ ⟨120, 8, 120, 48⟩ :: setsB [("limit", ⟨121, 8, 121, 12⟩, ⟨121, 8, 121, 18⟩, ⟨121, 21, 121, 26⟩, ⟨121, 8, 121, 26⟩)]) (eiS ["limit"]) .none kV_Full dc_Full pm_Full an_Full (.ref AFull_d) ct_Full AFull_c), sl_Full⟩)
  (zq_Full : PySem.W.codeIn K (.ref AFull_d) "Full.__init__" = true)
  (zs_Full : PySem.W.ks_superIn K AFull AFull "__init__" = some (some (.builtin "RuntimeError.__init__")))
  (zB_Full : PySem.W.subIn K (.ref AFull) (.type "RuntimeError") = some true)
  (zST_Full : PySem.W.nsIn K PySem.cStatics "thirdparty.any" = some none)
  (zA_Full : PySem.W.findIn K (.ref AFull) "__setattr__" = some (some (.builtin "object.__setattr__")))
  (zT_Full_limit : PySem.W.takerIn K AFull "limit" = some none)
  (zn_Full_limit : PySem.W.findIn K (.ref AFull) "limit" = some none)
  (zC_Full : K.lookup AFull_c = some ⟨cl_Full, cld_Full, .cell (some (.ref AFull)), csl_Full⟩)
  (zD_Full : K.lookup AFull_d = some ⟨ccl_Full, cdd_Full, .fields vs_Full, ccs_Full⟩)
  (zE_Full : vs_Full[2]? = some (.str P.main.file tf_Full))
  (zM_Full : PySem.W.mroIn K AFull (.ref AFull) = some true)
  (zN_Full : (PySem.W.clsIn K AFull).isSome = true)
  (zP_Full : (P.main.scope.names.lookup ("super" : Str)).isSome = false)
  (zk_Full : PySem.W.keepIn K (.ref AFull) = true)
  (zga_Full : PySem.W.findIn K (.ref AFull) "__getattribute__" = some (some (.builtin "BaseException.__getattribute__")))
  (zgg_Full : PySem.W.findIn K (.ref AFull) "__getattr__" = some none)
  (zcc_Full : PySem.W.findIn K (.ref AFull) "__class__" = some (some (.builtin "object.__class__")))
  (zcg_Full : PySem.W.specialIn K (.builtin "object.__class__") "__get__" = some (some (.builtin "getset_descriptor.__get__")))
  (zct_Full : PySem.W.takesIn K (.builtin "object.__class__") = some true)
  (zmo_Full : PySem.W.mroIn K AFull (.type "object") = some true)
  (za_MissingError : PySem.W.nsIn K mainGlobals "MissingError" = some (some (.ref AMissingError)))
  (zt_MissingError : PySem.W.typeIn K (.ref AMissingError) = some (.type "type"))
  (zx_MissingError : PySem.W.subIn K (.ref AMissingError) (.type "BaseException") = some true)
  (zh_MissingError : PySem.W.hasDictIn K AMissingError = true)
  (za_UnknownBrand : PySem.W.nsIn K mainGlobals "UnknownBrand" = some (some (.ref AUnknownBrand)))
  (zt_UnknownBrand : PySem.W.typeIn K (.ref AUnknownBrand) = some (.type "type"))
  (zx_UnknownBrand : PySem.W.subIn K (.ref AUnknownBrand) (.type "BaseException") = some true)
  (zh_UnknownBrand : PySem.W.hasDictIn K AUnknownBrand = true)
  (zi_UnknownBrand : PySem.W.excInitIn K AUnknownBrand [.type "LookupError", .type "Exception", .type "BaseException", .type "object"] "LookupError.__new__" = true)
  (zo_UnknownBrand : PySem.W.excOver K AUnknownBrand [.type "LookupError", .type "Exception", .type "BaseException", .type "object"] = true)
  (zI_UnknownBrand : PySem.W.findIn K (.ref AUnknownBrand) "__init__" = some (some (.ref AUnknownBrand_i)))
  (zf_UnknownBrand : PySem.W.isFn K (.ref AUnknownBrand_i) = true)
  (zl_UnknownBrand : K.lookup AUnknownBrand_i = some ⟨oc_UnknownBrand, od_UnknownBrand, .func (PySem.W.ksFn "__init__" "UnknownBrand.__init__" (eiA ((["given"] : List Str).zip [⟨126, 23, 126, 28⟩]) ⟨126, 17, 126, 21⟩) (eiSup "unknown brand" ⟨127, 8, 127, 13⟩ ⟨127, 8, 127, 15⟩ ⟨127, 8, 127, 24⟩ ⟨127, 25, 127, 40⟩ ⟨127, 8, 127, 41⟩ :: setsB [("given", ⟨128, 8, 128, 12⟩, ⟨128, 8, 128, 18⟩, ⟨128, 21, 128, 26⟩, ⟨128, 8, 128, 26⟩)]) (eiS ["given"]) .none kV_UnknownBrand dc_UnknownBrand pm_UnknownBrand an_UnknownBrand (.ref AUnknownBrand_d) ct_UnknownBrand AUnknownBrand_c), sl_UnknownBrand⟩)
  (zq_UnknownBrand : PySem.W.codeIn K (.ref AUnknownBrand_d) "UnknownBrand.__init__" = true)
  (zs_UnknownBrand : PySem.W.ks_superIn K AUnknownBrand AUnknownBrand "__init__" = some (some (.builtin "LookupError.__init__")))
  (zB_UnknownBrand : PySem.W.subIn K (.ref AUnknownBrand) (.type "LookupError") = some true)
  (zST_UnknownBrand : PySem.W.nsIn K PySem.cStatics "thirdparty.any" = some none)
  (zA_UnknownBrand : PySem.W.findIn K (.ref AUnknownBrand) "__setattr__" = some (some (.builtin "object.__setattr__")))
  (zT_UnknownBrand_given : PySem.W.takerIn K AUnknownBrand "given" = some none)
  (zn_UnknownBrand_given : PySem.W.findIn K (.ref AUnknownBrand) "given" = some none)
  (zC_UnknownBrand : K.lookup AUnknownBrand_c = some ⟨cl_UnknownBrand, cld_UnknownBrand, .cell (some (.ref AUnknownBrand)), csl_UnknownBrand⟩)
  (zD_UnknownBrand : K.lookup AUnknownBrand_d = some ⟨ccl_UnknownBrand, cdd_UnknownBrand, .fields vs_UnknownBrand, ccs_UnknownBrand⟩)
  (zE_UnknownBrand : vs_UnknownBrand[2]? = some (.str P.main.file tf_UnknownBrand))
  (zM_UnknownBrand : PySem.W.mroIn K AUnknownBrand (.ref AUnknownBrand) = some true)
  (zN_UnknownBrand : (PySem.W.clsIn K AUnknownBrand).isSome = true)
  (zP_UnknownBrand : (P.main.scope.names.lookup ("super" : Str)).isSome = false)
  (zk_UnknownBrand : PySem.W.keepIn K (.ref AUnknownBrand) = true)
  (zga_UnknownBrand : PySem.W.findIn K (.ref AUnknownBrand) "__getattribute__" = some (some (.builtin "BaseException.__getattribute__")))
  (zgg_UnknownBrand : PySem.W.findIn K (.ref AUnknownBrand) "__getattr__" = some none)
  (zcc_UnknownBrand : PySem.W.findIn K (.ref AUnknownBrand) "__class__" = some (some (.builtin "object.__class__")))
  (zcg_UnknownBrand : PySem.W.specialIn K (.builtin "object.__class__") "__get__" = some (some (.builtin "getset_descriptor.__get__")))
  (zct_UnknownBrand : PySem.W.takesIn K (.builtin "object.__class__") = some true)
  (zmo_UnknownBrand : PySem.W.mroIn K AUnknownBrand (.type "object") = some true)
  (za_NoEntry : PySem.W.nsIn K mainGlobals "NoEntry" = some (some (.ref ANoEntry)))
  (zt_NoEntry : PySem.W.typeIn K (.ref ANoEntry) = some (.type "type"))
  (zx_NoEntry : PySem.W.subIn K (.ref ANoEntry) (.type "BaseException") = some true)
  (zh_NoEntry : PySem.W.hasDictIn K ANoEntry = true)
  (zi_NoEntry : PySem.W.excInitIn K ANoEntry [.type "LookupError", .type "Exception", .type "BaseException", .type "object"] "LookupError.__new__" = true)
  (zo_NoEntry : PySem.W.excOver K ANoEntry [.type "LookupError", .type "Exception", .type "BaseException", .type "object"] = true)
  (zI_NoEntry : PySem.W.findIn K (.ref ANoEntry) "__init__" = some (some (.ref ANoEntry_i)))
  (zf_NoEntry : PySem.W.isFn K (.ref ANoEntry_i) = true)
  (zl_NoEntry : K.lookup ANoEntry_i = some ⟨oc_NoEntry, od_NoEntry, .func (PySem.W.ksFn "__init__" "NoEntry.__init__" (eiA ((["key"] : List Str).zip [⟨131, 23, 131, 26⟩]) ⟨131, 17, 131, 21⟩) (eiSup "no such entry" ⟨132, 8, 132, 13⟩ ⟨132, 8, 132, 15⟩ ⟨132, 8, 132, 24⟩ ⟨132, 25, 132, 40⟩ ⟨132, 8, 132, 41⟩ :: setsB [("key", ⟨133, 8, 133, 12⟩, ⟨133, 8, 133, 16⟩, ⟨133, 19, 133, 22⟩, ⟨133, 8, 133, 22⟩)]) (eiS ["key"]) .none kV_NoEntry dc_NoEntry pm_NoEntry an_NoEntry (.ref ANoEntry_d) ct_NoEntry ANoEntry_c), sl_NoEntry⟩)
  (zq_NoEntry : PySem.W.codeIn K (.ref ANoEntry_d) "NoEntry.__init__" = true)
  (zs_NoEntry : PySem.W.ks_superIn K ANoEntry ANoEntry "__init__" = some (some (.builtin "LookupError.__init__")))
  (zB_NoEntry : PySem.W.subIn K (.ref ANoEntry) (.type "LookupError") = some true)
  (zST_NoEntry : PySem.W.nsIn K PySem.cStatics "thirdparty.any" = some none)
  (zA_NoEntry : PySem.W.findIn K (.ref ANoEntry) "__setattr__" = some (some (.builtin "object.__setattr__")))
  (zT_NoEntry_key : PySem.W.takerIn K ANoEntry "key" = some none)
  (zn_NoEntry_key : PySem.W.findIn K (.ref ANoEntry) "key" = some none)
  (zC_NoEntry : K.lookup ANoEntry_c = some ⟨cl_NoEntry, cld_NoEntry, .cell (some (.ref ANoEntry)), csl_NoEntry⟩)
  (zD_NoEntry : K.lookup ANoEntry_d = some ⟨ccl_NoEntry, cdd_NoEntry, .fields vs_NoEntry, ccs_NoEntry⟩)
  (zE_NoEntry : vs_NoEntry[2]? = some (.str P.main.file tf_NoEntry))
  (zM_NoEntry : PySem.W.mroIn K ANoEntry (.ref ANoEntry) = some true)
  (zN_NoEntry : (PySem.W.clsIn K ANoEntry).isSome = true)
  (zP_NoEntry : (P.main.scope.names.lookup ("super" : Str)).isSome = false)
  (zk_NoEntry : PySem.W.keepIn K (.ref ANoEntry) = true)
  (zga_NoEntry : PySem.W.findIn K (.ref ANoEntry) "__getattribute__" = some (some (.builtin "BaseException.__getattribute__")))
  (zgg_NoEntry : PySem.W.findIn K (.ref ANoEntry) "__getattr__" = some none)
  (zcc_NoEntry : PySem.W.findIn K (.ref ANoEntry) "__class__" = some (some (.builtin "object.__class__")))
  (zcg_NoEntry : PySem.W.specialIn K (.builtin "object.__class__") "__get__" = some (some (.builtin "getset_descriptor.__get__")))
  (zct_NoEntry : PySem.W.takesIn K (.builtin "object.__class__") = some true)
  (zmo_NoEntry : PySem.W.mroIn K ANoEntry (.type "object") = some true)
  (za_NoName : PySem.W.nsIn K mainGlobals "NoName" = some (some (.ref ANoName)))
  (zt_NoName : PySem.W.typeIn K (.ref ANoName) = some (.type "type"))
  (zx_NoName : PySem.W.subIn K (.ref ANoName) (.type "BaseException") = some true)
  (zh_NoName : PySem.W.hasDictIn K ANoName = true)
  (zi_NoName : PySem.W.excInitIn K ANoName [.type "LookupError", .type "Exception", .type "BaseException", .type "object"] "LookupError.__new__" = true)
  (zo_NoName : PySem.W.excOver K ANoName [.type "LookupError", .type "Exception", .type "BaseException", .type "object"] = true)
  (zI_NoName : PySem.W.findIn K (.ref ANoName) "__init__" = some (some (.ref ANoName_i)))
  (zf_NoName : PySem.W.isFn K (.ref ANoName_i) = true)
  (zl_NoName : K.lookup ANoName_i = some ⟨oc_NoName, od_NoName, .func (PySem.W.ksFn "__init__" "NoName.__init__" (eiA ((["given"] : List Str).zip [⟨136, 23, 136, 28⟩]) ⟨136, 17, 136, 21⟩) (eiSup "no such name" ⟨137, 8, 137, 13⟩ ⟨137, 8, 137, 15⟩ ⟨137, 8, 137, 24⟩ ⟨137, 25, 137, 39⟩ ⟨137, 8, 137, 40⟩ :: setsB [("given", ⟨138, 8, 138, 12⟩, ⟨138, 8, 138, 18⟩, ⟨138, 21, 138, 26⟩, ⟨138, 8, 138, 26⟩)]) (eiS ["given"]) .none kV_NoName dc_NoName pm_NoName an_NoName (.ref ANoName_d) ct_NoName ANoName_c), sl_NoName⟩)
  (zq_NoName : PySem.W.codeIn K (.ref ANoName_d) "NoName.__init__" = true)
  (zs_NoName : PySem.W.ks_superIn K ANoName ANoName "__init__" = some (some (.builtin "LookupError.__init__")))
  (zB_NoName : PySem.W.subIn K (.ref ANoName) (.type "LookupError") = some true)
  (zST_NoName : PySem.W.nsIn K PySem.cStatics "thirdparty.any" = some none)
  (zA_NoName : PySem.W.findIn K (.ref ANoName) "__setattr__" = some (some (.builtin "object.__setattr__")))
  (zT_NoName_given : PySem.W.takerIn K ANoName "given" = some none)
  (zn_NoName_given : PySem.W.findIn K (.ref ANoName) "given" = some none)
  (zC_NoName : K.lookup ANoName_c = some ⟨cl_NoName, cld_NoName, .cell (some (.ref ANoName)), csl_NoName⟩)
  (zD_NoName : K.lookup ANoName_d = some ⟨ccl_NoName, cdd_NoName, .fields vs_NoName, ccs_NoName⟩)
  (zE_NoName : vs_NoName[2]? = some (.str P.main.file tf_NoName))
  (zM_NoName : PySem.W.mroIn K ANoName (.ref ANoName) = some true)
  (zN_NoName : (PySem.W.clsIn K ANoName).isSome = true)
  (zP_NoName : (P.main.scope.names.lookup ("super" : Str)).isSome = false)
  (zk_NoName : PySem.W.keepIn K (.ref ANoName) = true)
  (zga_NoName : PySem.W.findIn K (.ref ANoName) "__getattribute__" = some (some (.builtin "BaseException.__getattribute__")))
  (zgg_NoName : PySem.W.findIn K (.ref ANoName) "__getattr__" = some none)
  (zcc_NoName : PySem.W.findIn K (.ref ANoName) "__class__" = some (some (.builtin "object.__class__")))
  (zcg_NoName : PySem.W.specialIn K (.builtin "object.__class__") "__get__" = some (some (.builtin "getset_descriptor.__get__")))
  (zct_NoName : PySem.W.takesIn K (.builtin "object.__class__") = some true)
  (zmo_NoName : PySem.W.mroIn K ANoName (.type "object") = some true)
  (za_NothingToUndo : PySem.W.nsIn K mainGlobals "NothingToUndo" = some (some (.ref ANothingToUndo)))
  (zt_NothingToUndo : PySem.W.typeIn K (.ref ANothingToUndo) = some (.type "type"))
  (zx_NothingToUndo : PySem.W.subIn K (.ref ANothingToUndo) (.type "BaseException") = some true)
  (zh_NothingToUndo : PySem.W.hasDictIn K ANothingToUndo = true)
  (zi_NothingToUndo : PySem.W.excInitIn K ANothingToUndo [.type "LookupError", .type "Exception", .type "BaseException", .type "object"] "LookupError.__new__" = true)
  (zo_NothingToUndo : PySem.W.excOver K ANothingToUndo [.type "LookupError", .type "Exception", .type "BaseException", .type "object"] = true)
  (zI_NothingToUndo : PySem.W.findIn K (.ref ANothingToUndo) "__init__" = some (some (.ref ANothingToUndo_i)))
  (zf_NothingToUndo : PySem.W.isFn K (.ref ANothingToUndo_i) = true)
  (zl_NothingToUndo : K.lookup ANothingToUndo_i = some ⟨oc_NothingToUndo, od_NothingToUndo, .func (PySem.W.ksFn "__init__" "NothingToUndo.__init__" (eiA ((["count"] : List Str).zip [⟨141, 23, 141, 28⟩]) ⟨141, 17, 141, 21⟩) (eiSup "there is no change to take back" ⟨142, 8, 142, 13⟩ ⟨142, 8, 142, 15⟩ ⟨142, 8, 142, 24⟩ ⟨142, 25, 142, 58⟩ ⟨142, 8, 142, 59⟩ :: setsB [("count", ⟨143, 8, 143, 12⟩, ⟨143, 8, 143, 18⟩, ⟨143, 21, 143, 26⟩, ⟨143, 8, 143, 26⟩)]) (eiS ["count"]) .none kV_NothingToUndo dc_NothingToUndo pm_NothingToUndo an_NothingToUndo (.ref ANothingToUndo_d) ct_NothingToUndo ANothingToUndo_c), sl_NothingToUndo⟩)
  (zq_NothingToUndo : PySem.W.codeIn K (.ref ANothingToUndo_d) "NothingToUndo.__init__" = true)
  (zs_NothingToUndo : PySem.W.ks_superIn K ANothingToUndo ANothingToUndo "__init__" = some (some (.builtin "LookupError.__init__")))
  (zB_NothingToUndo : PySem.W.subIn K (.ref ANothingToUndo) (.type "LookupError") = some true)
  (zST_NothingToUndo : PySem.W.nsIn K PySem.cStatics "thirdparty.any" = some none)
  (zA_NothingToUndo : PySem.W.findIn K (.ref ANothingToUndo) "__setattr__" = some (some (.builtin "object.__setattr__")))
  (zT_NothingToUndo_count : PySem.W.takerIn K ANothingToUndo "count" = some none)
  (zn_NothingToUndo_count : PySem.W.findIn K (.ref ANothingToUndo) "count" = some none)
  (zC_NothingToUndo : K.lookup ANothingToUndo_c = some ⟨cl_NothingToUndo, cld_NothingToUndo, .cell (some (.ref ANothingToUndo)), csl_NothingToUndo⟩)
  (zD_NothingToUndo : K.lookup ANothingToUndo_d = some ⟨ccl_NothingToUndo, cdd_NothingToUndo, .fields vs_NothingToUndo, ccs_NothingToUndo⟩)
  (zE_NothingToUndo : vs_NothingToUndo[2]? = some (.str P.main.file tf_NothingToUndo))
  (zM_NothingToUndo : PySem.W.mroIn K ANothingToUndo (.ref ANothingToUndo) = some true)
  (zN_NothingToUndo : (PySem.W.clsIn K ANothingToUndo).isSome = true)
  (zP_NothingToUndo : (P.main.scope.names.lookup ("super" : Str)).isSome = false)
  (zk_NothingToUndo : PySem.W.keepIn K (.ref ANothingToUndo) = true)
  (zga_NothingToUndo : PySem.W.findIn K (.ref ANothingToUndo) "__getattribute__" = some (some (.builtin "BaseException.__getattribute__")))
  (zgg_NothingToUndo : PySem.W.findIn K (.ref ANothingToUndo) "__getattr__" = some none)
  (zcc_NothingToUndo : PySem.W.findIn K (.ref ANothingToUndo) "__class__" = some (some (.builtin "object.__class__")))
  (zcg_NothingToUndo : PySem.W.specialIn K (.builtin "object.__class__") "__get__" = some (some (.builtin "getset_descriptor.__get__")))
  (zct_NothingToUndo : PySem.W.takesIn K (.builtin "object.__class__") = some true)
  (zmo_NothingToUndo : PySem.W.mroIn K ANothingToUndo (.type "object") = some true)
  (zz_uAll : (([AInvalidValue, AInvalidNumbers, AInvalidKey, AInvalidIndex, AInvalidBrand, AInvalidTakes, AInvalidVersion, AInvalidStream, AInvalidLabel, AInvalidReduction, AInvalidMade, AInvalidRow, AInvalidName, AInvalidEdit, AInvalidText, ARefused, ANotCanonical, ATooDeep, ATooLong, ASelfArgument, AKeyTaken, ABrandTaken, AFull, AUnknownBrand, ANoEntry, ANoName, ANothingToUndo] : List Addr).zipIdx.all fun p => ([AInvalidValue, AInvalidNumbers, AInvalidKey, AInvalidIndex, AInvalidBrand, AInvalidTakes, AInvalidVersion, AInvalidStream, AInvalidLabel, AInvalidReduction, AInvalidMade, AInvalidRow, AInvalidName, AInvalidEdit, AInvalidText, ARefused, ANotCanonical, ATooDeep, ATooLong, ASelfArgument, AKeyTaken, ABrandTaken, AFull, AUnknownBrand, ANoEntry, ANoName, ANothingToUndo] : List Addr).zipIdx.all fun q => PySem.W.kitOne K (.ref p.1) (.ref q.1) == some (p.2 == q.2)) = true)
  (zz_fJarError : (([AInvalidValue, AInvalidNumbers, AInvalidKey, AInvalidIndex, AInvalidBrand, AInvalidTakes, AInvalidVersion, AInvalidStream, AInvalidLabel, AInvalidReduction, AInvalidMade, AInvalidRow, AInvalidName, AInvalidEdit, AInvalidText, ARefused, ANotCanonical, ATooDeep, ATooLong, ASelfArgument, AKeyTaken, ABrandTaken, AFull, AUnknownBrand, ANoEntry, ANoName, ANothingToUndo] : List Addr).zipIdx.all fun p => PySem.W.kitOne K (.ref p.1) (.ref AJarError) == some (decide (p.2 < 17))) = true)
  (zz_fStateError : (([AInvalidValue, AInvalidNumbers, AInvalidKey, AInvalidIndex, AInvalidBrand, AInvalidTakes, AInvalidVersion, AInvalidStream, AInvalidLabel, AInvalidReduction, AInvalidMade, AInvalidRow, AInvalidName, AInvalidEdit, AInvalidText, ARefused, ANotCanonical, ATooDeep, ATooLong, ASelfArgument, AKeyTaken, ABrandTaken, AFull, AUnknownBrand, ANoEntry, ANoName, ANothingToUndo] : List Addr).zipIdx.all fun p => PySem.W.kitOne K (.ref p.1) (.ref AStateError) == some (decide (17 ≤ p.2) && decide (p.2 < 23))) = true)
  (zz_fMissingError : (([AInvalidValue, AInvalidNumbers, AInvalidKey, AInvalidIndex, AInvalidBrand, AInvalidTakes, AInvalidVersion, AInvalidStream, AInvalidLabel, AInvalidReduction, AInvalidMade, AInvalidRow, AInvalidName, AInvalidEdit, AInvalidText, ARefused, ANotCanonical, ATooDeep, ATooLong, ASelfArgument, AKeyTaken, ABrandTaken, AFull, AUnknownBrand, ANoEntry, ANoName, ANothingToUndo] : List Addr).zipIdx.all fun p => PySem.W.kitOne K (.ref p.1) (.ref AMissingError) == some (decide (23 ≤ p.2))) = true)
  (zz_fValueError : (([AInvalidValue, AInvalidNumbers, AInvalidKey, AInvalidIndex, AInvalidBrand, AInvalidTakes, AInvalidVersion, AInvalidStream, AInvalidLabel, AInvalidReduction, AInvalidMade, AInvalidRow, AInvalidName, AInvalidEdit, AInvalidText, ARefused, ANotCanonical, ATooDeep, ATooLong, ASelfArgument, AKeyTaken, ABrandTaken, AFull, AUnknownBrand, ANoEntry, ANoName, ANothingToUndo] : List Addr).zipIdx.all fun p => PySem.W.kitOne K (.ref p.1) (.type "ValueError") == some (decide (p.2 < 17))) = true)
  (zz_fRuntimeError : (([AInvalidValue, AInvalidNumbers, AInvalidKey, AInvalidIndex, AInvalidBrand, AInvalidTakes, AInvalidVersion, AInvalidStream, AInvalidLabel, AInvalidReduction, AInvalidMade, AInvalidRow, AInvalidName, AInvalidEdit, AInvalidText, ARefused, ANotCanonical, ATooDeep, ATooLong, ASelfArgument, AKeyTaken, ABrandTaken, AFull, AUnknownBrand, ANoEntry, ANoName, ANothingToUndo] : List Addr).zipIdx.all fun p => PySem.W.kitOne K (.ref p.1) (.type "RuntimeError") == some (decide (17 ≤ p.2) && decide (p.2 < 23))) = true)
  (zz_fLookupError : (([AInvalidValue, AInvalidNumbers, AInvalidKey, AInvalidIndex, AInvalidBrand, AInvalidTakes, AInvalidVersion, AInvalidStream, AInvalidLabel, AInvalidReduction, AInvalidMade, AInvalidRow, AInvalidName, AInvalidEdit, AInvalidText, ARefused, ANotCanonical, ATooDeep, ATooLong, ASelfArgument, AKeyTaken, ABrandTaken, AFull, AUnknownBrand, ANoEntry, ANoName, ANothingToUndo] : List Addr).zipIdx.all fun p => PySem.W.kitOne K (.ref p.1) (.type "LookupError") == some (decide (23 ≤ p.2))) = true)
  (zz_fKeyError : (([AInvalidValue, AInvalidNumbers, AInvalidKey, AInvalidIndex, AInvalidBrand, AInvalidTakes, AInvalidVersion, AInvalidStream, AInvalidLabel, AInvalidReduction, AInvalidMade, AInvalidRow, AInvalidName, AInvalidEdit, AInvalidText, ARefused, ANotCanonical, ATooDeep, ATooLong, ASelfArgument, AKeyTaken, ABrandTaken, AFull, AUnknownBrand, ANoEntry, ANoName, ANothingToUndo] : List Addr).zipIdx.all fun p => PySem.W.kitOne K (.ref p.1) (.type "KeyError") == some (false)) = true)
  (zz_fIndexError : (([AInvalidValue, AInvalidNumbers, AInvalidKey, AInvalidIndex, AInvalidBrand, AInvalidTakes, AInvalidVersion, AInvalidStream, AInvalidLabel, AInvalidReduction, AInvalidMade, AInvalidRow, AInvalidName, AInvalidEdit, AInvalidText, ARefused, ANotCanonical, ATooDeep, ATooLong, ASelfArgument, AKeyTaken, ABrandTaken, AFull, AUnknownBrand, ANoEntry, ANoName, ANothingToUndo] : List Addr).zipIdx.all fun p => PySem.W.kitOne K (.ref p.1) (.type "IndexError") == some (false)) = true)
  (zz_fNotImplementedError : (([AInvalidValue, AInvalidNumbers, AInvalidKey, AInvalidIndex, AInvalidBrand, AInvalidTakes, AInvalidVersion, AInvalidStream, AInvalidLabel, AInvalidReduction, AInvalidMade, AInvalidRow, AInvalidName, AInvalidEdit, AInvalidText, ARefused, ANotCanonical, ATooDeep, ATooLong, ASelfArgument, AKeyTaken, ABrandTaken, AFull, AUnknownBrand, ANoEntry, ANoName, ANothingToUndo] : List Addr).zipIdx.all fun p => PySem.W.kitOne K (.ref p.1) (.type "NotImplementedError") == some (false)) = true) : Txt P K mg ⟨A_law_begin, A_law_mixed, A_law_next, A_law_made, A_law_kinds, A_law_families_right, A_law_fields, A_law_named, Alaw, AJarError, AInvalidValue, AInvalidNumbers, AInvalidKey, AInvalidIndex, AInvalidBrand, AInvalidTakes, AInvalidVersion, AInvalidStream, AInvalidLabel, AInvalidReduction, AInvalidMade, AInvalidRow, AInvalidName, AInvalidEdit, AInvalidText, ARefused, ANotCanonical, AStateError, ATooDeep, ATooLong, ASelfArgument, AKeyTaken, ABrandTaken, AFull, AMissingError, AUnknownBrand, ANoEntry, ANoName, ANothingToUndo, AInvalidValue_i, AInvalidValue_c, AInvalidValue_d, AInvalidNumbers_i, AInvalidNumbers_c, AInvalidNumbers_d, AInvalidKey_i, AInvalidKey_c, AInvalidKey_d, AInvalidIndex_i, AInvalidIndex_c, AInvalidIndex_d, AInvalidBrand_i, AInvalidBrand_c, AInvalidBrand_d, AInvalidTakes_i, AInvalidTakes_c, AInvalidTakes_d, AInvalidVersion_i, AInvalidVersion_c, AInvalidVersion_d, AInvalidStream_i, AInvalidStream_c, AInvalidStream_d, AInvalidLabel_i, AInvalidLabel_c, AInvalidLabel_d, AInvalidReduction_i, AInvalidReduction_c, AInvalidReduction_d, AInvalidMade_i, AInvalidMade_c, AInvalidMade_d, AInvalidRow_i, AInvalidRow_c, AInvalidRow_d, AInvalidName_i, AInvalidName_c, AInvalidName_d, AInvalidEdit_i, AInvalidEdit_c, AInvalidEdit_d, AInvalidText_i, AInvalidText_c, AInvalidText_d, ARefused_i, ARefused_c, ARefused_d, ANotCanonical_i, ANotCanonical_c, ANotCanonical_d, ATooDeep_i, ATooDeep_c, ATooDeep_d, ATooLong_i, ATooLong_c, ATooLong_d, ASelfArgument_i, ASelfArgument_c, ASelfArgument_d, AKeyTaken_i, AKeyTaken_c, AKeyTaken_d, ABrandTaken_i, ABrandTaken_c, ABrandTaken_d, AFull_i, AFull_c, AFull_d, AUnknownBrand_i, AUnknownBrand_c, AUnknownBrand_d, ANoEntry_i, ANoEntry_c, ANoEntry_d, ANoName_i, ANoName_c, ANoName_d, ANothingToUndo_i, ANothingToUndo_c, ANothingToUndo_d⟩ := {
  b_IndexError := PySem.W.mg_none_of X G zb_IndexError,
  b_KeyError := PySem.W.mg_none_of X G zb_KeyError,
  b_LookupError := PySem.W.mg_none_of X G zb_LookupError,
  b_NotImplementedError := PySem.W.mg_none_of X G zb_NotImplementedError,
  b_RuntimeError := PySem.W.mg_none_of X G zb_RuntimeError,
  b_ValueError := PySem.W.mg_none_of X G zb_ValueError,
  b_enumerate := PySem.W.mg_none_of X G zb_enumerate,
  b_isinstance := PySem.W.mg_none_of X G zb_isinstance,
  b_len := PySem.W.mg_none_of X G zb_len,
  b_min := PySem.W.mg_none_of X G zb_min,
  b_range := PySem.W.mg_none_of X G zb_range,
  b_repr := PySem.W.mg_none_of X G zb_repr,
  b_super := PySem.W.mg_none_of X G zb_super,
  g__law_begin := PySem.W.mg_of X G za__law_begin,
  k__law_begin := zk__law_begin,
  d__law_begin := ⟨_, fun_mk (st := s__law_begin) zl__law_begin zd__law_begin zk__law_begin, (fun_mk (st := s__law_begin) zl__law_begin zd__law_begin zk__law_begin).binds (ps := ["script"]) fun _ _ _ _ _ _ us hl => match us, hl with | [_], _ => rfl⟩,
  g__law_mixed := PySem.W.mg_of X G za__law_mixed,
  k__law_mixed := zk__law_mixed,
  d__law_mixed := ⟨_, fun_mk (st := s__law_mixed) zl__law_mixed zd__law_mixed zk__law_mixed, (fun_mk (st := s__law_mixed) zl__law_mixed zd__law_mixed zk__law_mixed).binds (ps := ["cell", "k"]) fun _ _ _ _ _ _ us hl => match us, hl with | [_, _], _ => rfl⟩,
  g__law_next := PySem.W.mg_of X G za__law_next,
  k__law_next := zk__law_next,
  d__law_next := ⟨_, fun_mk (st := s__law_next) zl__law_next zd__law_next zk__law_next, (fun_mk (st := s__law_next) zl__law_next zd__law_next zk__law_next).binds (ps := ["draw", "bound"]) fun _ _ _ _ _ _ us hl => match us, hl with | [_, _], _ => rfl⟩,
  g__law_made := PySem.W.mg_of X G za__law_made,
  k__law_made := zk__law_made,
  d__law_made := ⟨_, fun_mk (st := s__law_made) zl__law_made zd__law_made zk__law_made, (fun_mk (st := s__law_made) zl__law_made zd__law_made zk__law_made).binds (ps := ["what"]) fun _ _ _ _ _ _ us hl => match us, hl with | [_], _ => rfl⟩,
  g__law_kinds := PySem.W.mg_of X G za__law_kinds,
  k__law_kinds := zk__law_kinds,
  d__law_kinds := ⟨_, fun_mk (st := s__law_kinds) zl__law_kinds zd__law_kinds zk__law_kinds, (fun_mk (st := s__law_kinds) zl__law_kinds zd__law_kinds zk__law_kinds).binds (ps := ["e"]) fun _ _ _ _ _ _ us hl => match us, hl with | [_], _ => rfl⟩,
  g__law_families_right := PySem.W.mg_of X G za__law_families_right,
  k__law_families_right := zk__law_families_right,
  d__law_families_right := ⟨_, fun_mk (st := s__law_families_right) zl__law_families_right zd__law_families_right zk__law_families_right, (fun_mk (st := s__law_families_right) zl__law_families_right zd__law_families_right zk__law_families_right).binds (ps := ["made"]) fun _ _ _ _ _ _ us hl => match us, hl with | [_], _ => rfl⟩,
  g__law_fields := PySem.W.mg_of X G za__law_fields,
  k__law_fields := zk__law_fields,
  d__law_fields := ⟨_, fun_mk (st := s__law_fields) zl__law_fields zd__law_fields zk__law_fields, (fun_mk (st := s__law_fields) zl__law_fields zd__law_fields zk__law_fields).binds (ps := ["made"]) fun _ _ _ _ _ _ us hl => match us, hl with | [_], _ => rfl⟩,
  g__law_named := PySem.W.mg_of X G za__law_named,
  k__law_named := zk__law_named,
  d__law_named := ⟨_, fun_mk (st := s__law_named) zl__law_named zd__law_named zk__law_named, (fun_mk (st := s__law_named) zl__law_named zd__law_named zk__law_named).binds (ps := ["what"]) fun _ _ _ _ _ _ us hl => match us, hl with | [_], _ => rfl⟩,
  g_law := PySem.W.mg_of X G za_law,
  k_law := zk_law,
  d_law := ⟨_, fun_mk (st := s_law) zl_law zd_law zk_law, (fun_mk (st := s_law) zl_law zd_law zk_law).binds (ps := ["script"]) fun _ _ _ _ _ _ us hl => match us, hl with | [_], _ => rfl⟩,
  g_JarError := PySem.W.mg_of X G za_JarError,
  x_JarError := zx_JarError,
  t_JarError := zt_JarError,
  h_JarError := zh_JarError,
  g_InvalidValue := PySem.W.mg_of X G za_InvalidValue,
  x_InvalidValue := zx_InvalidValue,
  t_InvalidValue := zt_InvalidValue,
  h_InvalidValue := zh_InvalidValue,
  n_InvalidValue_value := zn_InvalidValue_value,
  k_InvalidValue := zk_InvalidValue,
  e_InvalidValue := ⟨famV, PySem.W.mg_of X G za_InvalidValue, zi_InvalidValue, zo_InvalidValue, zh_InvalidValue, zI_InvalidValue, zf_InvalidValue, zs_InvalidValue, zB_InvalidValue, zST_InvalidValue, PySem.W.mg_none_of X G zb_super, zA_InvalidValue, (by intro f hf; rcases List.mem_cons.mp hf with rfl | hf; exact zT_InvalidValue_value; cases hf), ⟨_, _, _, zC_InvalidValue⟩, ⟨_, _, _, _, _, zD_InvalidValue, zE_InvalidValue⟩, zM_InvalidValue, Option.isSome_iff_exists.mp zN_InvalidValue, zP_InvalidValue⟩,
  i_InvalidValue := ⟨⟨_, _, _, _, _, _, _, _, _, ⟨6, 17, 6, 21⟩, [⟨6, 23, 6, 28⟩], _, _, _, _, _, [("value", ⟨8, 8, 8, 12⟩, ⟨8, 8, 8, 18⟩, ⟨8, 21, 8, 26⟩, ⟨8, 8, 8, 26⟩)], zl_InvalidValue, rfl, rfl, rfl⟩, zq_InvalidValue, (by decide +kernel), by decide +kernel, ⟨(fun z => nomatch z), by decide⟩, (by rintro fd ⟨oc, od, osl, h⟩ u us hl; have q := h.symm.trans zl_InvalidValue; cases q; exact match us, hl with | [_], _ => rfl)⟩,
  j_InvalidValue := ⟨rfl, (by rintro fd ⟨oc, od, osl, h⟩ u us hl; have q := h.symm.trans zl_InvalidValue; cases q; exact match us, hl with | [_], _ => rfl)⟩,
  R_InvalidValue := ⟨zN_InvalidValue, zga_InvalidValue, zgg_InvalidValue, zx_InvalidValue, zcc_InvalidValue, zcg_InvalidValue, zct_InvalidValue, zmo_InvalidValue, zh_InvalidValue⟩,
  g_InvalidNumbers := PySem.W.mg_of X G za_InvalidNumbers,
  x_InvalidNumbers := zx_InvalidNumbers,
  t_InvalidNumbers := zt_InvalidNumbers,
  h_InvalidNumbers := zh_InvalidNumbers,
  n_InvalidNumbers_value := zn_InvalidNumbers_value,
  k_InvalidNumbers := zk_InvalidNumbers,
  e_InvalidNumbers := ⟨famV, PySem.W.mg_of X G za_InvalidNumbers, zi_InvalidNumbers, zo_InvalidNumbers, zh_InvalidNumbers, zI_InvalidNumbers, zf_InvalidNumbers, zs_InvalidNumbers, zB_InvalidNumbers, zST_InvalidNumbers, PySem.W.mg_none_of X G zb_super, zA_InvalidNumbers, (by intro f hf; rcases List.mem_cons.mp hf with rfl | hf; exact zT_InvalidNumbers_value; cases hf), ⟨_, _, _, zC_InvalidNumbers⟩, ⟨_, _, _, _, _, zD_InvalidNumbers, zE_InvalidNumbers⟩, zM_InvalidNumbers, Option.isSome_iff_exists.mp zN_InvalidNumbers, zP_InvalidNumbers⟩,
  i_InvalidNumbers := ⟨⟨_, _, _, _, _, _, _, _, _, ⟨11, 17, 11, 21⟩, [⟨11, 23, 11, 28⟩], _, _, _, _, _, [("value", ⟨13, 8, 13, 12⟩, ⟨13, 8, 13, 18⟩, ⟨13, 21, 13, 26⟩, ⟨13, 8, 13, 26⟩)], zl_InvalidNumbers, rfl, rfl, rfl⟩, zq_InvalidNumbers, (by decide +kernel), by decide +kernel, ⟨(fun z => nomatch z), by decide⟩, (by rintro fd ⟨oc, od, osl, h⟩ u us hl; have q := h.symm.trans zl_InvalidNumbers; cases q; exact match us, hl with | [_], _ => rfl)⟩,
  j_InvalidNumbers := ⟨rfl, (by rintro fd ⟨oc, od, osl, h⟩ u us hl; have q := h.symm.trans zl_InvalidNumbers; cases q; exact match us, hl with | [_], _ => rfl)⟩,
  R_InvalidNumbers := ⟨zN_InvalidNumbers, zga_InvalidNumbers, zgg_InvalidNumbers, zx_InvalidNumbers, zcc_InvalidNumbers, zcg_InvalidNumbers, zct_InvalidNumbers, zmo_InvalidNumbers, zh_InvalidNumbers⟩,
  g_InvalidKey := PySem.W.mg_of X G za_InvalidKey,
  x_InvalidKey := zx_InvalidKey,
  t_InvalidKey := zt_InvalidKey,
  h_InvalidKey := zh_InvalidKey,
  n_InvalidKey_key := zn_InvalidKey_key,
  k_InvalidKey := zk_InvalidKey,
  e_InvalidKey := ⟨famV, PySem.W.mg_of X G za_InvalidKey, zi_InvalidKey, zo_InvalidKey, zh_InvalidKey, zI_InvalidKey, zf_InvalidKey, zs_InvalidKey, zB_InvalidKey, zST_InvalidKey, PySem.W.mg_none_of X G zb_super, zA_InvalidKey, (by intro f hf; rcases List.mem_cons.mp hf with rfl | hf; exact zT_InvalidKey_key; cases hf), ⟨_, _, _, zC_InvalidKey⟩, ⟨_, _, _, _, _, zD_InvalidKey, zE_InvalidKey⟩, zM_InvalidKey, Option.isSome_iff_exists.mp zN_InvalidKey, zP_InvalidKey⟩,
  i_InvalidKey := ⟨⟨_, _, _, _, _, _, _, _, _, ⟨16, 17, 16, 21⟩, [⟨16, 23, 16, 26⟩], _, _, _, _, _, [("key", ⟨18, 8, 18, 12⟩, ⟨18, 8, 18, 16⟩, ⟨18, 19, 18, 22⟩, ⟨18, 8, 18, 22⟩)], zl_InvalidKey, rfl, rfl, rfl⟩, zq_InvalidKey, (by decide +kernel), by decide +kernel, ⟨(fun z => nomatch z), by decide⟩, (by rintro fd ⟨oc, od, osl, h⟩ u us hl; have q := h.symm.trans zl_InvalidKey; cases q; exact match us, hl with | [_], _ => rfl)⟩,
  j_InvalidKey := ⟨rfl, (by rintro fd ⟨oc, od, osl, h⟩ u us hl; have q := h.symm.trans zl_InvalidKey; cases q; exact match us, hl with | [_], _ => rfl)⟩,
  R_InvalidKey := ⟨zN_InvalidKey, zga_InvalidKey, zgg_InvalidKey, zx_InvalidKey, zcc_InvalidKey, zcg_InvalidKey, zct_InvalidKey, zmo_InvalidKey, zh_InvalidKey⟩,
  g_InvalidIndex := PySem.W.mg_of X G za_InvalidIndex,
  x_InvalidIndex := zx_InvalidIndex,
  t_InvalidIndex := zt_InvalidIndex,
  h_InvalidIndex := zh_InvalidIndex,
  n_InvalidIndex_index := zn_InvalidIndex_index,
  k_InvalidIndex := zk_InvalidIndex,
  e_InvalidIndex := ⟨famV, PySem.W.mg_of X G za_InvalidIndex, zi_InvalidIndex, zo_InvalidIndex, zh_InvalidIndex, zI_InvalidIndex, zf_InvalidIndex, zs_InvalidIndex, zB_InvalidIndex, zST_InvalidIndex, PySem.W.mg_none_of X G zb_super, zA_InvalidIndex, (by intro f hf; rcases List.mem_cons.mp hf with rfl | hf; exact zT_InvalidIndex_index; cases hf), ⟨_, _, _, zC_InvalidIndex⟩, ⟨_, _, _, _, _, zD_InvalidIndex, zE_InvalidIndex⟩, zM_InvalidIndex, Option.isSome_iff_exists.mp zN_InvalidIndex, zP_InvalidIndex⟩,
  i_InvalidIndex := ⟨⟨_, _, _, _, _, _, _, _, _, ⟨21, 17, 21, 21⟩, [⟨21, 23, 21, 28⟩], _, _, _, _, _, [("index", ⟨23, 8, 23, 12⟩, ⟨23, 8, 23, 18⟩, ⟨23, 21, 23, 26⟩, ⟨23, 8, 23, 26⟩)], zl_InvalidIndex, rfl, rfl, rfl⟩, zq_InvalidIndex, (by decide +kernel), by decide +kernel, ⟨(fun z => nomatch z), by decide⟩, (by rintro fd ⟨oc, od, osl, h⟩ u us hl; have q := h.symm.trans zl_InvalidIndex; cases q; exact match us, hl with | [_], _ => rfl)⟩,
  j_InvalidIndex := ⟨rfl, (by rintro fd ⟨oc, od, osl, h⟩ u us hl; have q := h.symm.trans zl_InvalidIndex; cases q; exact match us, hl with | [_], _ => rfl)⟩,
  R_InvalidIndex := ⟨zN_InvalidIndex, zga_InvalidIndex, zgg_InvalidIndex, zx_InvalidIndex, zcc_InvalidIndex, zcg_InvalidIndex, zct_InvalidIndex, zmo_InvalidIndex, zh_InvalidIndex⟩,
  g_InvalidBrand := PySem.W.mg_of X G za_InvalidBrand,
  x_InvalidBrand := zx_InvalidBrand,
  t_InvalidBrand := zt_InvalidBrand,
  h_InvalidBrand := zh_InvalidBrand,
  n_InvalidBrand_given := zn_InvalidBrand_given,
  k_InvalidBrand := zk_InvalidBrand,
  e_InvalidBrand := ⟨famV, PySem.W.mg_of X G za_InvalidBrand, zi_InvalidBrand, zo_InvalidBrand, zh_InvalidBrand, zI_InvalidBrand, zf_InvalidBrand, zs_InvalidBrand, zB_InvalidBrand, zST_InvalidBrand, PySem.W.mg_none_of X G zb_super, zA_InvalidBrand, (by intro f hf; rcases List.mem_cons.mp hf with rfl | hf; exact zT_InvalidBrand_given; cases hf), ⟨_, _, _, zC_InvalidBrand⟩, ⟨_, _, _, _, _, zD_InvalidBrand, zE_InvalidBrand⟩, zM_InvalidBrand, Option.isSome_iff_exists.mp zN_InvalidBrand, zP_InvalidBrand⟩,
  i_InvalidBrand := ⟨⟨_, _, _, _, _, _, _, _, _, ⟨26, 17, 26, 21⟩, [⟨26, 23, 26, 28⟩], _, _, _, _, _, [("given", ⟨28, 8, 28, 12⟩, ⟨28, 8, 28, 18⟩, ⟨28, 21, 28, 26⟩, ⟨28, 8, 28, 26⟩)], zl_InvalidBrand, rfl, rfl, rfl⟩, zq_InvalidBrand, (by decide +kernel), by decide +kernel, ⟨(fun z => nomatch z), by decide⟩, (by rintro fd ⟨oc, od, osl, h⟩ u us hl; have q := h.symm.trans zl_InvalidBrand; cases q; exact match us, hl with | [_], _ => rfl)⟩,
  j_InvalidBrand := ⟨rfl, (by rintro fd ⟨oc, od, osl, h⟩ u us hl; have q := h.symm.trans zl_InvalidBrand; cases q; exact match us, hl with | [_], _ => rfl)⟩,
  R_InvalidBrand := ⟨zN_InvalidBrand, zga_InvalidBrand, zgg_InvalidBrand, zx_InvalidBrand, zcc_InvalidBrand, zcg_InvalidBrand, zct_InvalidBrand, zmo_InvalidBrand, zh_InvalidBrand⟩,
  g_InvalidTakes := PySem.W.mg_of X G za_InvalidTakes,
  x_InvalidTakes := zx_InvalidTakes,
  t_InvalidTakes := zt_InvalidTakes,
  h_InvalidTakes := zh_InvalidTakes,
  n_InvalidTakes_value := zn_InvalidTakes_value,
  k_InvalidTakes := zk_InvalidTakes,
  e_InvalidTakes := ⟨famV, PySem.W.mg_of X G za_InvalidTakes, zi_InvalidTakes, zo_InvalidTakes, zh_InvalidTakes, zI_InvalidTakes, zf_InvalidTakes, zs_InvalidTakes, zB_InvalidTakes, zST_InvalidTakes, PySem.W.mg_none_of X G zb_super, zA_InvalidTakes, (by intro f hf; rcases List.mem_cons.mp hf with rfl | hf; exact zT_InvalidTakes_value; cases hf), ⟨_, _, _, zC_InvalidTakes⟩, ⟨_, _, _, _, _, zD_InvalidTakes, zE_InvalidTakes⟩, zM_InvalidTakes, Option.isSome_iff_exists.mp zN_InvalidTakes, zP_InvalidTakes⟩,
  i_InvalidTakes := ⟨⟨_, _, _, _, _, _, _, _, _, ⟨31, 17, 31, 21⟩, [⟨31, 23, 31, 28⟩], _, _, _, _, _, [("value", ⟨33, 8, 33, 12⟩, ⟨33, 8, 33, 18⟩, ⟨33, 21, 33, 26⟩, ⟨33, 8, 33, 26⟩)], zl_InvalidTakes, rfl, rfl, rfl⟩, zq_InvalidTakes, (by decide +kernel), by decide +kernel, ⟨(fun z => nomatch z), by decide⟩, (by rintro fd ⟨oc, od, osl, h⟩ u us hl; have q := h.symm.trans zl_InvalidTakes; cases q; exact match us, hl with | [_], _ => rfl)⟩,
  j_InvalidTakes := ⟨rfl, (by rintro fd ⟨oc, od, osl, h⟩ u us hl; have q := h.symm.trans zl_InvalidTakes; cases q; exact match us, hl with | [_], _ => rfl)⟩,
  R_InvalidTakes := ⟨zN_InvalidTakes, zga_InvalidTakes, zgg_InvalidTakes, zx_InvalidTakes, zcc_InvalidTakes, zcg_InvalidTakes, zct_InvalidTakes, zmo_InvalidTakes, zh_InvalidTakes⟩,
  g_InvalidVersion := PySem.W.mg_of X G za_InvalidVersion,
  x_InvalidVersion := zx_InvalidVersion,
  t_InvalidVersion := zt_InvalidVersion,
  h_InvalidVersion := zh_InvalidVersion,
  n_InvalidVersion_value := zn_InvalidVersion_value,
  k_InvalidVersion := zk_InvalidVersion,
  e_InvalidVersion := ⟨famV, PySem.W.mg_of X G za_InvalidVersion, zi_InvalidVersion, zo_InvalidVersion, zh_InvalidVersion, zI_InvalidVersion, zf_InvalidVersion, zs_InvalidVersion, zB_InvalidVersion, zST_InvalidVersion, PySem.W.mg_none_of X G zb_super, zA_InvalidVersion, (by intro f hf; rcases List.mem_cons.mp hf with rfl | hf; exact zT_InvalidVersion_value; cases hf), ⟨_, _, _, zC_InvalidVersion⟩, ⟨_, _, _, _, _, zD_InvalidVersion, zE_InvalidVersion⟩, zM_InvalidVersion, Option.isSome_iff_exists.mp zN_InvalidVersion, zP_InvalidVersion⟩,
  i_InvalidVersion := ⟨⟨_, _, _, _, _, _, _, _, _, ⟨36, 17, 36, 21⟩, [⟨36, 23, 36, 28⟩], _, _, _, _, _, [("value", ⟨38, 8, 38, 12⟩, ⟨38, 8, 38, 18⟩, ⟨38, 21, 38, 26⟩, ⟨38, 8, 38, 26⟩)], zl_InvalidVersion, rfl, rfl, rfl⟩, zq_InvalidVersion, (by decide +kernel), by decide +kernel, ⟨(fun z => nomatch z), by decide⟩, (by rintro fd ⟨oc, od, osl, h⟩ u us hl; have q := h.symm.trans zl_InvalidVersion; cases q; exact match us, hl with | [_], _ => rfl)⟩,
  j_InvalidVersion := ⟨rfl, (by rintro fd ⟨oc, od, osl, h⟩ u us hl; have q := h.symm.trans zl_InvalidVersion; cases q; exact match us, hl with | [_], _ => rfl)⟩,
  R_InvalidVersion := ⟨zN_InvalidVersion, zga_InvalidVersion, zgg_InvalidVersion, zx_InvalidVersion, zcc_InvalidVersion, zcg_InvalidVersion, zct_InvalidVersion, zmo_InvalidVersion, zh_InvalidVersion⟩,
  g_InvalidStream := PySem.W.mg_of X G za_InvalidStream,
  x_InvalidStream := zx_InvalidStream,
  t_InvalidStream := zt_InvalidStream,
  h_InvalidStream := zh_InvalidStream,
  n_InvalidStream_value := zn_InvalidStream_value,
  k_InvalidStream := zk_InvalidStream,
  e_InvalidStream := ⟨famV, PySem.W.mg_of X G za_InvalidStream, zi_InvalidStream, zo_InvalidStream, zh_InvalidStream, zI_InvalidStream, zf_InvalidStream, zs_InvalidStream, zB_InvalidStream, zST_InvalidStream, PySem.W.mg_none_of X G zb_super, zA_InvalidStream, (by intro f hf; rcases List.mem_cons.mp hf with rfl | hf; exact zT_InvalidStream_value; cases hf), ⟨_, _, _, zC_InvalidStream⟩, ⟨_, _, _, _, _, zD_InvalidStream, zE_InvalidStream⟩, zM_InvalidStream, Option.isSome_iff_exists.mp zN_InvalidStream, zP_InvalidStream⟩,
  i_InvalidStream := ⟨⟨_, _, _, _, _, _, _, _, _, ⟨41, 17, 41, 21⟩, [⟨41, 23, 41, 28⟩], _, _, _, _, _, [("value", ⟨43, 8, 43, 12⟩, ⟨43, 8, 43, 18⟩, ⟨43, 21, 43, 26⟩, ⟨43, 8, 43, 26⟩)], zl_InvalidStream, rfl, rfl, rfl⟩, zq_InvalidStream, (by decide +kernel), by decide +kernel, ⟨(fun z => nomatch z), by decide⟩, (by rintro fd ⟨oc, od, osl, h⟩ u us hl; have q := h.symm.trans zl_InvalidStream; cases q; exact match us, hl with | [_], _ => rfl)⟩,
  j_InvalidStream := ⟨rfl, (by rintro fd ⟨oc, od, osl, h⟩ u us hl; have q := h.symm.trans zl_InvalidStream; cases q; exact match us, hl with | [_], _ => rfl)⟩,
  R_InvalidStream := ⟨zN_InvalidStream, zga_InvalidStream, zgg_InvalidStream, zx_InvalidStream, zcc_InvalidStream, zcg_InvalidStream, zct_InvalidStream, zmo_InvalidStream, zh_InvalidStream⟩,
  g_InvalidLabel := PySem.W.mg_of X G za_InvalidLabel,
  x_InvalidLabel := zx_InvalidLabel,
  t_InvalidLabel := zt_InvalidLabel,
  h_InvalidLabel := zh_InvalidLabel,
  n_InvalidLabel_value := zn_InvalidLabel_value,
  k_InvalidLabel := zk_InvalidLabel,
  e_InvalidLabel := ⟨famV, PySem.W.mg_of X G za_InvalidLabel, zi_InvalidLabel, zo_InvalidLabel, zh_InvalidLabel, zI_InvalidLabel, zf_InvalidLabel, zs_InvalidLabel, zB_InvalidLabel, zST_InvalidLabel, PySem.W.mg_none_of X G zb_super, zA_InvalidLabel, (by intro f hf; rcases List.mem_cons.mp hf with rfl | hf; exact zT_InvalidLabel_value; cases hf), ⟨_, _, _, zC_InvalidLabel⟩, ⟨_, _, _, _, _, zD_InvalidLabel, zE_InvalidLabel⟩, zM_InvalidLabel, Option.isSome_iff_exists.mp zN_InvalidLabel, zP_InvalidLabel⟩,
  i_InvalidLabel := ⟨⟨_, _, _, _, _, _, _, _, _, ⟨46, 17, 46, 21⟩, [⟨46, 23, 46, 28⟩], _, _, _, _, _, [("value", ⟨48, 8, 48, 12⟩, ⟨48, 8, 48, 18⟩, ⟨48, 21, 48, 26⟩, ⟨48, 8, 48, 26⟩)], zl_InvalidLabel, rfl, rfl, rfl⟩, zq_InvalidLabel, (by decide +kernel), by decide +kernel, ⟨(fun z => nomatch z), by decide⟩, (by rintro fd ⟨oc, od, osl, h⟩ u us hl; have q := h.symm.trans zl_InvalidLabel; cases q; exact match us, hl with | [_], _ => rfl)⟩,
  j_InvalidLabel := ⟨rfl, (by rintro fd ⟨oc, od, osl, h⟩ u us hl; have q := h.symm.trans zl_InvalidLabel; cases q; exact match us, hl with | [_], _ => rfl)⟩,
  R_InvalidLabel := ⟨zN_InvalidLabel, zga_InvalidLabel, zgg_InvalidLabel, zx_InvalidLabel, zcc_InvalidLabel, zcg_InvalidLabel, zct_InvalidLabel, zmo_InvalidLabel, zh_InvalidLabel⟩,
  g_InvalidReduction := PySem.W.mg_of X G za_InvalidReduction,
  x_InvalidReduction := zx_InvalidReduction,
  t_InvalidReduction := zt_InvalidReduction,
  h_InvalidReduction := zh_InvalidReduction,
  n_InvalidReduction_given := zn_InvalidReduction_given,
  k_InvalidReduction := zk_InvalidReduction,
  e_InvalidReduction := ⟨famV, PySem.W.mg_of X G za_InvalidReduction, zi_InvalidReduction, zo_InvalidReduction, zh_InvalidReduction, zI_InvalidReduction, zf_InvalidReduction, zs_InvalidReduction, zB_InvalidReduction, zST_InvalidReduction, PySem.W.mg_none_of X G zb_super, zA_InvalidReduction, (by intro f hf; rcases List.mem_cons.mp hf with rfl | hf; exact zT_InvalidReduction_given; cases hf), ⟨_, _, _, zC_InvalidReduction⟩, ⟨_, _, _, _, _, zD_InvalidReduction, zE_InvalidReduction⟩, zM_InvalidReduction, Option.isSome_iff_exists.mp zN_InvalidReduction, zP_InvalidReduction⟩,
  i_InvalidReduction := ⟨⟨_, _, _, _, _, _, _, _, _, ⟨51, 17, 51, 21⟩, [⟨51, 23, 51, 28⟩], _, _, _, _, _, [("given", ⟨53, 8, 53, 12⟩, ⟨53, 8, 53, 18⟩, ⟨53, 21, 53, 26⟩, ⟨53, 8, 53, 26⟩)], zl_InvalidReduction, rfl, rfl, rfl⟩, zq_InvalidReduction, (by decide +kernel), by decide +kernel, ⟨(fun z => nomatch z), by decide⟩, (by rintro fd ⟨oc, od, osl, h⟩ u us hl; have q := h.symm.trans zl_InvalidReduction; cases q; exact match us, hl with | [_], _ => rfl)⟩,
  j_InvalidReduction := ⟨rfl, (by rintro fd ⟨oc, od, osl, h⟩ u us hl; have q := h.symm.trans zl_InvalidReduction; cases q; exact match us, hl with | [_], _ => rfl)⟩,
  R_InvalidReduction := ⟨zN_InvalidReduction, zga_InvalidReduction, zgg_InvalidReduction, zx_InvalidReduction, zcc_InvalidReduction, zcg_InvalidReduction, zct_InvalidReduction, zmo_InvalidReduction, zh_InvalidReduction⟩,
  g_InvalidMade := PySem.W.mg_of X G za_InvalidMade,
  x_InvalidMade := zx_InvalidMade,
  t_InvalidMade := zt_InvalidMade,
  h_InvalidMade := zh_InvalidMade,
  n_InvalidMade_given := zn_InvalidMade_given,
  k_InvalidMade := zk_InvalidMade,
  e_InvalidMade := ⟨famV, PySem.W.mg_of X G za_InvalidMade, zi_InvalidMade, zo_InvalidMade, zh_InvalidMade, zI_InvalidMade, zf_InvalidMade, zs_InvalidMade, zB_InvalidMade, zST_InvalidMade, PySem.W.mg_none_of X G zb_super, zA_InvalidMade, (by intro f hf; rcases List.mem_cons.mp hf with rfl | hf; exact zT_InvalidMade_given; cases hf), ⟨_, _, _, zC_InvalidMade⟩, ⟨_, _, _, _, _, zD_InvalidMade, zE_InvalidMade⟩, zM_InvalidMade, Option.isSome_iff_exists.mp zN_InvalidMade, zP_InvalidMade⟩,
  i_InvalidMade := ⟨⟨_, _, _, _, _, _, _, _, _, ⟨56, 17, 56, 21⟩, [⟨56, 23, 56, 28⟩], _, _, _, _, _, [("given", ⟨58, 8, 58, 12⟩, ⟨58, 8, 58, 18⟩, ⟨58, 21, 58, 26⟩, ⟨58, 8, 58, 26⟩)], zl_InvalidMade, rfl, rfl, rfl⟩, zq_InvalidMade, (by decide +kernel), by decide +kernel, ⟨(fun z => nomatch z), by decide⟩, (by rintro fd ⟨oc, od, osl, h⟩ u us hl; have q := h.symm.trans zl_InvalidMade; cases q; exact match us, hl with | [_], _ => rfl)⟩,
  j_InvalidMade := ⟨rfl, (by rintro fd ⟨oc, od, osl, h⟩ u us hl; have q := h.symm.trans zl_InvalidMade; cases q; exact match us, hl with | [_], _ => rfl)⟩,
  R_InvalidMade := ⟨zN_InvalidMade, zga_InvalidMade, zgg_InvalidMade, zx_InvalidMade, zcc_InvalidMade, zcg_InvalidMade, zct_InvalidMade, zmo_InvalidMade, zh_InvalidMade⟩,
  g_InvalidRow := PySem.W.mg_of X G za_InvalidRow,
  x_InvalidRow := zx_InvalidRow,
  t_InvalidRow := zt_InvalidRow,
  h_InvalidRow := zh_InvalidRow,
  n_InvalidRow_position := zn_InvalidRow_position,
  k_InvalidRow := zk_InvalidRow,
  e_InvalidRow := ⟨famV, PySem.W.mg_of X G za_InvalidRow, zi_InvalidRow, zo_InvalidRow, zh_InvalidRow, zI_InvalidRow, zf_InvalidRow, zs_InvalidRow, zB_InvalidRow, zST_InvalidRow, PySem.W.mg_none_of X G zb_super, zA_InvalidRow, (by intro f hf; rcases List.mem_cons.mp hf with rfl | hf; exact zT_InvalidRow_position; cases hf), ⟨_, _, _, zC_InvalidRow⟩, ⟨_, _, _, _, _, zD_InvalidRow, zE_InvalidRow⟩, zM_InvalidRow, Option.isSome_iff_exists.mp zN_InvalidRow, zP_InvalidRow⟩,
  i_InvalidRow := ⟨⟨_, _, _, _, _, _, _, _, _, ⟨61, 17, 61, 21⟩, [⟨61, 23, 61, 31⟩], _, _, _, _, _, [("position", ⟨63, 8, 63, 12⟩, ⟨63, 8, 63, 21⟩, ⟨63, 24, 63, 32⟩, ⟨63, 8, 63, 32⟩)], zl_InvalidRow, rfl, rfl, rfl⟩, zq_InvalidRow, (by decide +kernel), by decide +kernel, ⟨(fun z => nomatch z), by decide⟩, (by rintro fd ⟨oc, od, osl, h⟩ u us hl; have q := h.symm.trans zl_InvalidRow; cases q; exact match us, hl with | [_], _ => rfl)⟩,
  j_InvalidRow := ⟨rfl, (by rintro fd ⟨oc, od, osl, h⟩ u us hl; have q := h.symm.trans zl_InvalidRow; cases q; exact match us, hl with | [_], _ => rfl)⟩,
  R_InvalidRow := ⟨zN_InvalidRow, zga_InvalidRow, zgg_InvalidRow, zx_InvalidRow, zcc_InvalidRow, zcg_InvalidRow, zct_InvalidRow, zmo_InvalidRow, zh_InvalidRow⟩,
  g_InvalidName := PySem.W.mg_of X G za_InvalidName,
  x_InvalidName := zx_InvalidName,
  t_InvalidName := zt_InvalidName,
  h_InvalidName := zh_InvalidName,
  n_InvalidName_given := zn_InvalidName_given,
  k_InvalidName := zk_InvalidName,
  e_InvalidName := ⟨famV, PySem.W.mg_of X G za_InvalidName, zi_InvalidName, zo_InvalidName, zh_InvalidName, zI_InvalidName, zf_InvalidName, zs_InvalidName, zB_InvalidName, zST_InvalidName, PySem.W.mg_none_of X G zb_super, zA_InvalidName, (by intro f hf; rcases List.mem_cons.mp hf with rfl | hf; exact zT_InvalidName_given; cases hf), ⟨_, _, _, zC_InvalidName⟩, ⟨_, _, _, _, _, zD_InvalidName, zE_InvalidName⟩, zM_InvalidName, Option.isSome_iff_exists.mp zN_InvalidName, zP_InvalidName⟩,
  i_InvalidName := ⟨⟨_, _, _, _, _, _, _, _, _, ⟨66, 17, 66, 21⟩, [⟨66, 23, 66, 28⟩], _, _, _, _, _, [("given", ⟨68, 8, 68, 12⟩, ⟨68, 8, 68, 18⟩, ⟨68, 21, 68, 26⟩, ⟨68, 8, 68, 26⟩)], zl_InvalidName, rfl, rfl, rfl⟩, zq_InvalidName, (by decide +kernel), by decide +kernel, ⟨(fun z => nomatch z), by decide⟩, (by rintro fd ⟨oc, od, osl, h⟩ u us hl; have q := h.symm.trans zl_InvalidName; cases q; exact match us, hl with | [_], _ => rfl)⟩,
  j_InvalidName := ⟨rfl, (by rintro fd ⟨oc, od, osl, h⟩ u us hl; have q := h.symm.trans zl_InvalidName; cases q; exact match us, hl with | [_], _ => rfl)⟩,
  R_InvalidName := ⟨zN_InvalidName, zga_InvalidName, zgg_InvalidName, zx_InvalidName, zcc_InvalidName, zcg_InvalidName, zct_InvalidName, zmo_InvalidName, zh_InvalidName⟩,
  g_InvalidEdit := PySem.W.mg_of X G za_InvalidEdit,
  x_InvalidEdit := zx_InvalidEdit,
  t_InvalidEdit := zt_InvalidEdit,
  h_InvalidEdit := zh_InvalidEdit,
  n_InvalidEdit_position := zn_InvalidEdit_position,
  k_InvalidEdit := zk_InvalidEdit,
  e_InvalidEdit := ⟨famV, PySem.W.mg_of X G za_InvalidEdit, zi_InvalidEdit, zo_InvalidEdit, zh_InvalidEdit, zI_InvalidEdit, zf_InvalidEdit, zs_InvalidEdit, zB_InvalidEdit, zST_InvalidEdit, PySem.W.mg_none_of X G zb_super, zA_InvalidEdit, (by intro f hf; rcases List.mem_cons.mp hf with rfl | hf; exact zT_InvalidEdit_position; cases hf), ⟨_, _, _, zC_InvalidEdit⟩, ⟨_, _, _, _, _, zD_InvalidEdit, zE_InvalidEdit⟩, zM_InvalidEdit, Option.isSome_iff_exists.mp zN_InvalidEdit, zP_InvalidEdit⟩,
  i_InvalidEdit := ⟨⟨_, _, _, _, _, _, _, _, _, ⟨71, 17, 71, 21⟩, [⟨71, 23, 71, 31⟩], _, _, _, _, _, [("position", ⟨73, 8, 73, 12⟩, ⟨73, 8, 73, 21⟩, ⟨73, 24, 73, 32⟩, ⟨73, 8, 73, 32⟩)], zl_InvalidEdit, rfl, rfl, rfl⟩, zq_InvalidEdit, (by decide +kernel), by decide +kernel, ⟨(fun z => nomatch z), by decide⟩, (by rintro fd ⟨oc, od, osl, h⟩ u us hl; have q := h.symm.trans zl_InvalidEdit; cases q; exact match us, hl with | [_], _ => rfl)⟩,
  j_InvalidEdit := ⟨rfl, (by rintro fd ⟨oc, od, osl, h⟩ u us hl; have q := h.symm.trans zl_InvalidEdit; cases q; exact match us, hl with | [_], _ => rfl)⟩,
  R_InvalidEdit := ⟨zN_InvalidEdit, zga_InvalidEdit, zgg_InvalidEdit, zx_InvalidEdit, zcc_InvalidEdit, zcg_InvalidEdit, zct_InvalidEdit, zmo_InvalidEdit, zh_InvalidEdit⟩,
  g_InvalidText := PySem.W.mg_of X G za_InvalidText,
  x_InvalidText := zx_InvalidText,
  t_InvalidText := zt_InvalidText,
  h_InvalidText := zh_InvalidText,
  n_InvalidText_offset := zn_InvalidText_offset,
  k_InvalidText := zk_InvalidText,
  e_InvalidText := ⟨famV, PySem.W.mg_of X G za_InvalidText, zi_InvalidText, zo_InvalidText, zh_InvalidText, zI_InvalidText, zf_InvalidText, zs_InvalidText, zB_InvalidText, zST_InvalidText, PySem.W.mg_none_of X G zb_super, zA_InvalidText, (by intro f hf; rcases List.mem_cons.mp hf with rfl | hf; exact zT_InvalidText_offset; cases hf), ⟨_, _, _, zC_InvalidText⟩, ⟨_, _, _, _, _, zD_InvalidText, zE_InvalidText⟩, zM_InvalidText, Option.isSome_iff_exists.mp zN_InvalidText, zP_InvalidText⟩,
  i_InvalidText := ⟨⟨_, _, _, _, _, _, _, _, _, ⟨76, 17, 76, 21⟩, [⟨76, 23, 76, 29⟩], _, _, _, _, _, [("offset", ⟨78, 8, 78, 12⟩, ⟨78, 8, 78, 19⟩, ⟨78, 22, 78, 28⟩, ⟨78, 8, 78, 28⟩)], zl_InvalidText, rfl, rfl, rfl⟩, zq_InvalidText, (by decide +kernel), by decide +kernel, ⟨(fun z => nomatch z), by decide⟩, (by rintro fd ⟨oc, od, osl, h⟩ u us hl; have q := h.symm.trans zl_InvalidText; cases q; exact match us, hl with | [_], _ => rfl)⟩,
  j_InvalidText := ⟨rfl, (by rintro fd ⟨oc, od, osl, h⟩ u us hl; have q := h.symm.trans zl_InvalidText; cases q; exact match us, hl with | [_], _ => rfl)⟩,
  R_InvalidText := ⟨zN_InvalidText, zga_InvalidText, zgg_InvalidText, zx_InvalidText, zcc_InvalidText, zcg_InvalidText, zct_InvalidText, zmo_InvalidText, zh_InvalidText⟩,
  g_Refused := PySem.W.mg_of X G za_Refused,
  x_Refused := zx_Refused,
  t_Refused := zt_Refused,
  h_Refused := zh_Refused,
  n_Refused_offset := zn_Refused_offset,
  n_Refused_reason := zn_Refused_reason,
  k_Refused := zk_Refused,
  e_Refused := ⟨famV, PySem.W.mg_of X G za_Refused, zi_Refused, zo_Refused, zh_Refused, zI_Refused, zf_Refused, zs_Refused, zB_Refused, zST_Refused, PySem.W.mg_none_of X G zb_super, zA_Refused, (by intro f hf; rcases List.mem_cons.mp hf with rfl | hf; exact zT_Refused_offset; rcases List.mem_cons.mp hf with rfl | hf; exact zT_Refused_reason; cases hf), ⟨_, _, _, zC_Refused⟩, ⟨_, _, _, _, _, zD_Refused, zE_Refused⟩, zM_Refused, Option.isSome_iff_exists.mp zN_Refused, zP_Refused⟩,
  i_Refused := ⟨⟨_, _, _, _, _, _, _, _, _, ⟨81, 17, 81, 21⟩, [⟨81, 23, 81, 29⟩, ⟨81, 31, 81, 37⟩], _, _, _, _, _, [("offset", ⟨83, 8, 83, 12⟩, ⟨83, 8, 83, 19⟩, ⟨83, 22, 83, 28⟩, ⟨83, 8, 83, 28⟩), ("reason", ⟨84, 8, 84, 12⟩, ⟨84, 8, 84, 19⟩, ⟨84, 22, 84, 28⟩, ⟨84, 8, 84, 28⟩)], zl_Refused, rfl, rfl, rfl⟩, zq_Refused, (by decide +kernel), by decide +kernel, ⟨(fun z => nomatch z), by decide⟩, (by rintro fd ⟨oc, od, osl, h⟩ u us hl; have q := h.symm.trans zl_Refused; cases q; exact match us, hl with | [_, _], _ => rfl)⟩,
  j_Refused := ⟨rfl, (by rintro fd ⟨oc, od, osl, h⟩ u us hl; have q := h.symm.trans zl_Refused; cases q; exact match us, hl with | [_, _], _ => rfl)⟩,
  R_Refused := ⟨zN_Refused, zga_Refused, zgg_Refused, zx_Refused, zcc_Refused, zcg_Refused, zct_Refused, zmo_Refused, zh_Refused⟩,
  g_NotCanonical := PySem.W.mg_of X G za_NotCanonical,
  x_NotCanonical := zx_NotCanonical,
  t_NotCanonical := zt_NotCanonical,
  h_NotCanonical := zh_NotCanonical,
  n_NotCanonical_offset := zn_NotCanonical_offset,
  k_NotCanonical := zk_NotCanonical,
  e_NotCanonical := ⟨famV, PySem.W.mg_of X G za_NotCanonical, zi_NotCanonical, zo_NotCanonical, zh_NotCanonical, zI_NotCanonical, zf_NotCanonical, zs_NotCanonical, zB_NotCanonical, zST_NotCanonical, PySem.W.mg_none_of X G zb_super, zA_NotCanonical, (by intro f hf; rcases List.mem_cons.mp hf with rfl | hf; exact zT_NotCanonical_offset; cases hf), ⟨_, _, _, zC_NotCanonical⟩, ⟨_, _, _, _, _, zD_NotCanonical, zE_NotCanonical⟩, zM_NotCanonical, Option.isSome_iff_exists.mp zN_NotCanonical, zP_NotCanonical⟩,
  i_NotCanonical := ⟨⟨_, _, _, _, _, _, _, _, _, ⟨87, 17, 87, 21⟩, [⟨87, 23, 87, 29⟩], _, _, _, _, _, [("offset", ⟨89, 8, 89, 12⟩, ⟨89, 8, 89, 19⟩, ⟨89, 22, 89, 28⟩, ⟨89, 8, 89, 28⟩)], zl_NotCanonical, rfl, rfl, rfl⟩, zq_NotCanonical, (by decide +kernel), by decide +kernel, ⟨(fun z => nomatch z), by decide⟩, (by rintro fd ⟨oc, od, osl, h⟩ u us hl; have q := h.symm.trans zl_NotCanonical; cases q; exact match us, hl with | [_], _ => rfl)⟩,
  j_NotCanonical := ⟨rfl, (by rintro fd ⟨oc, od, osl, h⟩ u us hl; have q := h.symm.trans zl_NotCanonical; cases q; exact match us, hl with | [_], _ => rfl)⟩,
  R_NotCanonical := ⟨zN_NotCanonical, zga_NotCanonical, zgg_NotCanonical, zx_NotCanonical, zcc_NotCanonical, zcg_NotCanonical, zct_NotCanonical, zmo_NotCanonical, zh_NotCanonical⟩,
  g_StateError := PySem.W.mg_of X G za_StateError,
  x_StateError := zx_StateError,
  t_StateError := zt_StateError,
  h_StateError := zh_StateError,
  g_TooDeep := PySem.W.mg_of X G za_TooDeep,
  x_TooDeep := zx_TooDeep,
  t_TooDeep := zt_TooDeep,
  h_TooDeep := zh_TooDeep,
  n_TooDeep_limit := zn_TooDeep_limit,
  k_TooDeep := zk_TooDeep,
  e_TooDeep := ⟨famR, PySem.W.mg_of X G za_TooDeep, zi_TooDeep, zo_TooDeep, zh_TooDeep, zI_TooDeep, zf_TooDeep, zs_TooDeep, zB_TooDeep, zST_TooDeep, PySem.W.mg_none_of X G zb_super, zA_TooDeep, (by intro f hf; rcases List.mem_cons.mp hf with rfl | hf; exact zT_TooDeep_limit; cases hf), ⟨_, _, _, zC_TooDeep⟩, ⟨_, _, _, _, _, zD_TooDeep, zE_TooDeep⟩, zM_TooDeep, Option.isSome_iff_exists.mp zN_TooDeep, zP_TooDeep⟩,
  i_TooDeep := ⟨⟨_, _, _, _, _, _, _, _, _, ⟨94, 17, 94, 21⟩, [⟨94, 23, 94, 28⟩], _, _, _, _, _, [("limit", ⟨96, 8, 96, 12⟩, ⟨96, 8, 96, 18⟩, ⟨96, 21, 96, 26⟩, ⟨96, 8, 96, 26⟩)], zl_TooDeep, rfl, rfl, rfl⟩, zq_TooDeep, (by decide +kernel), by decide +kernel, ⟨(fun z => nomatch z), by decide⟩, (by rintro fd ⟨oc, od, osl, h⟩ u us hl; have q := h.symm.trans zl_TooDeep; cases q; exact match us, hl with | [_], _ => rfl)⟩,
  j_TooDeep := ⟨rfl, (by rintro fd ⟨oc, od, osl, h⟩ u us hl; have q := h.symm.trans zl_TooDeep; cases q; exact match us, hl with | [_], _ => rfl)⟩,
  R_TooDeep := ⟨zN_TooDeep, zga_TooDeep, zgg_TooDeep, zx_TooDeep, zcc_TooDeep, zcg_TooDeep, zct_TooDeep, zmo_TooDeep, zh_TooDeep⟩,
  g_TooLong := PySem.W.mg_of X G za_TooLong,
  x_TooLong := zx_TooLong,
  t_TooLong := zt_TooLong,
  h_TooLong := zh_TooLong,
  n_TooLong_limit := zn_TooLong_limit,
  k_TooLong := zk_TooLong,
  e_TooLong := ⟨famR, PySem.W.mg_of X G za_TooLong, zi_TooLong, zo_TooLong, zh_TooLong, zI_TooLong, zf_TooLong, zs_TooLong, zB_TooLong, zST_TooLong, PySem.W.mg_none_of X G zb_super, zA_TooLong, (by intro f hf; rcases List.mem_cons.mp hf with rfl | hf; exact zT_TooLong_limit; cases hf), ⟨_, _, _, zC_TooLong⟩, ⟨_, _, _, _, _, zD_TooLong, zE_TooLong⟩, zM_TooLong, Option.isSome_iff_exists.mp zN_TooLong, zP_TooLong⟩,
  i_TooLong := ⟨⟨_, _, _, _, _, _, _, _, _, ⟨99, 17, 99, 21⟩, [⟨99, 23, 99, 28⟩], _, _, _, _, _, [("limit", ⟨101, 8, 101, 12⟩, ⟨101, 8, 101, 18⟩, ⟨101, 21, 101, 26⟩, ⟨101, 8, 101, 26⟩)], zl_TooLong, rfl, rfl, rfl⟩, zq_TooLong, (by decide +kernel), by decide +kernel, ⟨(fun z => nomatch z), by decide⟩, (by rintro fd ⟨oc, od, osl, h⟩ u us hl; have q := h.symm.trans zl_TooLong; cases q; exact match us, hl with | [_], _ => rfl)⟩,
  j_TooLong := ⟨rfl, (by rintro fd ⟨oc, od, osl, h⟩ u us hl; have q := h.symm.trans zl_TooLong; cases q; exact match us, hl with | [_], _ => rfl)⟩,
  R_TooLong := ⟨zN_TooLong, zga_TooLong, zgg_TooLong, zx_TooLong, zcc_TooLong, zcg_TooLong, zct_TooLong, zmo_TooLong, zh_TooLong⟩,
  g_SelfArgument := PySem.W.mg_of X G za_SelfArgument,
  x_SelfArgument := zx_SelfArgument,
  t_SelfArgument := zt_SelfArgument,
  h_SelfArgument := zh_SelfArgument,
  n_SelfArgument_given := zn_SelfArgument_given,
  k_SelfArgument := zk_SelfArgument,
  e_SelfArgument := ⟨famR, PySem.W.mg_of X G za_SelfArgument, zi_SelfArgument, zo_SelfArgument, zh_SelfArgument, zI_SelfArgument, zf_SelfArgument, zs_SelfArgument, zB_SelfArgument, zST_SelfArgument, PySem.W.mg_none_of X G zb_super, zA_SelfArgument, (by intro f hf; rcases List.mem_cons.mp hf with rfl | hf; exact zT_SelfArgument_given; cases hf), ⟨_, _, _, zC_SelfArgument⟩, ⟨_, _, _, _, _, zD_SelfArgument, zE_SelfArgument⟩, zM_SelfArgument, Option.isSome_iff_exists.mp zN_SelfArgument, zP_SelfArgument⟩,
  i_SelfArgument := ⟨⟨_, _, _, _, _, _, _, _, _, ⟨104, 17, 104, 21⟩, [⟨104, 23, 104, 28⟩], _, _, _, _, _, [("given", ⟨106, 8, 106, 12⟩, ⟨106, 8, 106, 18⟩, ⟨106, 21, 106, 26⟩, ⟨106, 8, 106, 26⟩)], zl_SelfArgument, rfl, rfl, rfl⟩, zq_SelfArgument, (by decide +kernel), by decide +kernel, ⟨(fun z => nomatch z), by decide⟩, (by rintro fd ⟨oc, od, osl, h⟩ u us hl; have q := h.symm.trans zl_SelfArgument; cases q; exact match us, hl with | [_], _ => rfl)⟩,
  j_SelfArgument := ⟨rfl, (by rintro fd ⟨oc, od, osl, h⟩ u us hl; have q := h.symm.trans zl_SelfArgument; cases q; exact match us, hl with | [_], _ => rfl)⟩,
  R_SelfArgument := ⟨zN_SelfArgument, zga_SelfArgument, zgg_SelfArgument, zx_SelfArgument, zcc_SelfArgument, zcg_SelfArgument, zct_SelfArgument, zmo_SelfArgument, zh_SelfArgument⟩,
  g_KeyTaken := PySem.W.mg_of X G za_KeyTaken,
  x_KeyTaken := zx_KeyTaken,
  t_KeyTaken := zt_KeyTaken,
  h_KeyTaken := zh_KeyTaken,
  n_KeyTaken_key := zn_KeyTaken_key,
  k_KeyTaken := zk_KeyTaken,
  e_KeyTaken := ⟨famR, PySem.W.mg_of X G za_KeyTaken, zi_KeyTaken, zo_KeyTaken, zh_KeyTaken, zI_KeyTaken, zf_KeyTaken, zs_KeyTaken, zB_KeyTaken, zST_KeyTaken, PySem.W.mg_none_of X G zb_super, zA_KeyTaken, (by intro f hf; rcases List.mem_cons.mp hf with rfl | hf; exact zT_KeyTaken_key; cases hf), ⟨_, _, _, zC_KeyTaken⟩, ⟨_, _, _, _, _, zD_KeyTaken, zE_KeyTaken⟩, zM_KeyTaken, Option.isSome_iff_exists.mp zN_KeyTaken, zP_KeyTaken⟩,
  i_KeyTaken := ⟨⟨_, _, _, _, _, _, _, _, _, ⟨109, 17, 109, 21⟩, [⟨109, 23, 109, 26⟩], _, _, _, _, _, [("key", ⟨111, 8, 111, 12⟩, ⟨111, 8, 111, 16⟩, ⟨111, 19, 111, 22⟩, ⟨111, 8, 111, 22⟩)], zl_KeyTaken, rfl, rfl, rfl⟩, zq_KeyTaken, (by decide +kernel), by decide +kernel, ⟨(fun z => nomatch z), by decide⟩, (by rintro fd ⟨oc, od, osl, h⟩ u us hl; have q := h.symm.trans zl_KeyTaken; cases q; exact match us, hl with | [_], _ => rfl)⟩,
  j_KeyTaken := ⟨rfl, (by rintro fd ⟨oc, od, osl, h⟩ u us hl; have q := h.symm.trans zl_KeyTaken; cases q; exact match us, hl with | [_], _ => rfl)⟩,
  R_KeyTaken := ⟨zN_KeyTaken, zga_KeyTaken, zgg_KeyTaken, zx_KeyTaken, zcc_KeyTaken, zcg_KeyTaken, zct_KeyTaken, zmo_KeyTaken, zh_KeyTaken⟩,
  g_BrandTaken := PySem.W.mg_of X G za_BrandTaken,
  x_BrandTaken := zx_BrandTaken,
  t_BrandTaken := zt_BrandTaken,
  h_BrandTaken := zh_BrandTaken,
  n_BrandTaken_given := zn_BrandTaken_given,
  k_BrandTaken := zk_BrandTaken,
  e_BrandTaken := ⟨famR, PySem.W.mg_of X G za_BrandTaken, zi_BrandTaken, zo_BrandTaken, zh_BrandTaken, zI_BrandTaken, zf_BrandTaken, zs_BrandTaken, zB_BrandTaken, zST_BrandTaken, PySem.W.mg_none_of X G zb_super, zA_BrandTaken, (by intro f hf; rcases List.mem_cons.mp hf with rfl | hf; exact zT_BrandTaken_given; cases hf), ⟨_, _, _, zC_BrandTaken⟩, ⟨_, _, _, _, _, zD_BrandTaken, zE_BrandTaken⟩, zM_BrandTaken, Option.isSome_iff_exists.mp zN_BrandTaken, zP_BrandTaken⟩,
  i_BrandTaken := ⟨⟨_, _, _, _, _, _, _, _, _, ⟨114, 17, 114, 21⟩, [⟨114, 23, 114, 28⟩], _, _, _, _, _, [("given", ⟨116, 8, 116, 12⟩, ⟨116, 8, 116, 18⟩, ⟨116, 21, 116, 26⟩, ⟨116, 8, 116, 26⟩)], zl_BrandTaken, rfl, rfl, rfl⟩, zq_BrandTaken, (by decide +kernel), by decide +kernel, ⟨(fun z => nomatch z), by decide⟩, (by rintro fd ⟨oc, od, osl, h⟩ u us hl; have q := h.symm.trans zl_BrandTaken; cases q; exact match us, hl with | [_], _ => rfl)⟩,
  j_BrandTaken := ⟨rfl, (by rintro fd ⟨oc, od, osl, h⟩ u us hl; have q := h.symm.trans zl_BrandTaken; cases q; exact match us, hl with | [_], _ => rfl)⟩,
  R_BrandTaken := ⟨zN_BrandTaken, zga_BrandTaken, zgg_BrandTaken, zx_BrandTaken, zcc_BrandTaken, zcg_BrandTaken, zct_BrandTaken, zmo_BrandTaken, zh_BrandTaken⟩,
  g_Full := PySem.W.mg_of X G za_Full,
  x_Full := zx_Full,
  t_Full := zt_Full,
  h_Full := zh_Full,
  n_Full_limit := zn_Full_limit,
  k_Full := zk_Full,
  e_Full := ⟨famR, PySem.W.mg_of X G za_Full, zi_Full, zo_Full, zh_Full, zI_Full, zf_Full, zs_Full, zB_Full, zST_Full, PySem.W.mg_none_of X G zb_super, zA_Full, (by intro f hf; rcases List.mem_cons.mp hf with rfl | hf; exact zT_Full_limit; cases hf), ⟨_, _, _, zC_Full⟩, ⟨_, _, _, _, _, zD_Full, zE_Full⟩, zM_Full, Option.isSome_iff_exists.mp zN_Full, zP_Full⟩,
  i_Full := ⟨⟨_, _, _, _, _, _, _, _, _, ⟨119, 17, 119, 21⟩, [⟨119, 23, 119, 28⟩], _, _, _, _, _, [("limit", ⟨121, 8, 121, 12⟩, ⟨121, 8, 121, 18⟩, ⟨121, 21, 121, 26⟩, ⟨121, 8, 121, 26⟩)], zl_Full, rfl, rfl, rfl⟩, zq_Full, (by decide +kernel), by decide +kernel, ⟨(fun z => nomatch z), by decide⟩, (by rintro fd ⟨oc, od, osl, h⟩ u us hl; have q := h.symm.trans zl_Full; cases q; exact match us, hl with | [_], _ => rfl)⟩,
  j_Full := ⟨rfl, (by rintro fd ⟨oc, od, osl, h⟩ u us hl; have q := h.symm.trans zl_Full; cases q; exact match us, hl with | [_], _ => rfl)⟩,
  R_Full := ⟨zN_Full, zga_Full, zgg_Full, zx_Full, zcc_Full, zcg_Full, zct_Full, zmo_Full, zh_Full⟩,
  g_MissingError := PySem.W.mg_of X G za_MissingError,
  x_MissingError := zx_MissingError,
  t_MissingError := zt_MissingError,
  h_MissingError := zh_MissingError,
  g_UnknownBrand := PySem.W.mg_of X G za_UnknownBrand,
  x_UnknownBrand := zx_UnknownBrand,
  t_UnknownBrand := zt_UnknownBrand,
  h_UnknownBrand := zh_UnknownBrand,
  n_UnknownBrand_given := zn_UnknownBrand_given,
  k_UnknownBrand := zk_UnknownBrand,
  e_UnknownBrand := ⟨famL, PySem.W.mg_of X G za_UnknownBrand, zi_UnknownBrand, zo_UnknownBrand, zh_UnknownBrand, zI_UnknownBrand, zf_UnknownBrand, zs_UnknownBrand, zB_UnknownBrand, zST_UnknownBrand, PySem.W.mg_none_of X G zb_super, zA_UnknownBrand, (by intro f hf; rcases List.mem_cons.mp hf with rfl | hf; exact zT_UnknownBrand_given; cases hf), ⟨_, _, _, zC_UnknownBrand⟩, ⟨_, _, _, _, _, zD_UnknownBrand, zE_UnknownBrand⟩, zM_UnknownBrand, Option.isSome_iff_exists.mp zN_UnknownBrand, zP_UnknownBrand⟩,
  i_UnknownBrand := ⟨⟨_, _, _, _, _, _, _, _, _, ⟨126, 17, 126, 21⟩, [⟨126, 23, 126, 28⟩], _, _, _, _, _, [("given", ⟨128, 8, 128, 12⟩, ⟨128, 8, 128, 18⟩, ⟨128, 21, 128, 26⟩, ⟨128, 8, 128, 26⟩)], zl_UnknownBrand, rfl, rfl, rfl⟩, zq_UnknownBrand, (by decide +kernel), by decide +kernel, ⟨(fun z => nomatch z), by decide⟩, (by rintro fd ⟨oc, od, osl, h⟩ u us hl; have q := h.symm.trans zl_UnknownBrand; cases q; exact match us, hl with | [_], _ => rfl)⟩,
  j_UnknownBrand := ⟨rfl, (by rintro fd ⟨oc, od, osl, h⟩ u us hl; have q := h.symm.trans zl_UnknownBrand; cases q; exact match us, hl with | [_], _ => rfl)⟩,
  R_UnknownBrand := ⟨zN_UnknownBrand, zga_UnknownBrand, zgg_UnknownBrand, zx_UnknownBrand, zcc_UnknownBrand, zcg_UnknownBrand, zct_UnknownBrand, zmo_UnknownBrand, zh_UnknownBrand⟩,
  g_NoEntry := PySem.W.mg_of X G za_NoEntry,
  x_NoEntry := zx_NoEntry,
  t_NoEntry := zt_NoEntry,
  h_NoEntry := zh_NoEntry,
  n_NoEntry_key := zn_NoEntry_key,
  k_NoEntry := zk_NoEntry,
  e_NoEntry := ⟨famL, PySem.W.mg_of X G za_NoEntry, zi_NoEntry, zo_NoEntry, zh_NoEntry, zI_NoEntry, zf_NoEntry, zs_NoEntry, zB_NoEntry, zST_NoEntry, PySem.W.mg_none_of X G zb_super, zA_NoEntry, (by intro f hf; rcases List.mem_cons.mp hf with rfl | hf; exact zT_NoEntry_key; cases hf), ⟨_, _, _, zC_NoEntry⟩, ⟨_, _, _, _, _, zD_NoEntry, zE_NoEntry⟩, zM_NoEntry, Option.isSome_iff_exists.mp zN_NoEntry, zP_NoEntry⟩,
  i_NoEntry := ⟨⟨_, _, _, _, _, _, _, _, _, ⟨131, 17, 131, 21⟩, [⟨131, 23, 131, 26⟩], _, _, _, _, _, [("key", ⟨133, 8, 133, 12⟩, ⟨133, 8, 133, 16⟩, ⟨133, 19, 133, 22⟩, ⟨133, 8, 133, 22⟩)], zl_NoEntry, rfl, rfl, rfl⟩, zq_NoEntry, (by decide +kernel), by decide +kernel, ⟨(fun z => nomatch z), by decide⟩, (by rintro fd ⟨oc, od, osl, h⟩ u us hl; have q := h.symm.trans zl_NoEntry; cases q; exact match us, hl with | [_], _ => rfl)⟩,
  j_NoEntry := ⟨rfl, (by rintro fd ⟨oc, od, osl, h⟩ u us hl; have q := h.symm.trans zl_NoEntry; cases q; exact match us, hl with | [_], _ => rfl)⟩,
  R_NoEntry := ⟨zN_NoEntry, zga_NoEntry, zgg_NoEntry, zx_NoEntry, zcc_NoEntry, zcg_NoEntry, zct_NoEntry, zmo_NoEntry, zh_NoEntry⟩,
  g_NoName := PySem.W.mg_of X G za_NoName,
  x_NoName := zx_NoName,
  t_NoName := zt_NoName,
  h_NoName := zh_NoName,
  n_NoName_given := zn_NoName_given,
  k_NoName := zk_NoName,
  e_NoName := ⟨famL, PySem.W.mg_of X G za_NoName, zi_NoName, zo_NoName, zh_NoName, zI_NoName, zf_NoName, zs_NoName, zB_NoName, zST_NoName, PySem.W.mg_none_of X G zb_super, zA_NoName, (by intro f hf; rcases List.mem_cons.mp hf with rfl | hf; exact zT_NoName_given; cases hf), ⟨_, _, _, zC_NoName⟩, ⟨_, _, _, _, _, zD_NoName, zE_NoName⟩, zM_NoName, Option.isSome_iff_exists.mp zN_NoName, zP_NoName⟩,
  i_NoName := ⟨⟨_, _, _, _, _, _, _, _, _, ⟨136, 17, 136, 21⟩, [⟨136, 23, 136, 28⟩], _, _, _, _, _, [("given", ⟨138, 8, 138, 12⟩, ⟨138, 8, 138, 18⟩, ⟨138, 21, 138, 26⟩, ⟨138, 8, 138, 26⟩)], zl_NoName, rfl, rfl, rfl⟩, zq_NoName, (by decide +kernel), by decide +kernel, ⟨(fun z => nomatch z), by decide⟩, (by rintro fd ⟨oc, od, osl, h⟩ u us hl; have q := h.symm.trans zl_NoName; cases q; exact match us, hl with | [_], _ => rfl)⟩,
  j_NoName := ⟨rfl, (by rintro fd ⟨oc, od, osl, h⟩ u us hl; have q := h.symm.trans zl_NoName; cases q; exact match us, hl with | [_], _ => rfl)⟩,
  R_NoName := ⟨zN_NoName, zga_NoName, zgg_NoName, zx_NoName, zcc_NoName, zcg_NoName, zct_NoName, zmo_NoName, zh_NoName⟩,
  g_NothingToUndo := PySem.W.mg_of X G za_NothingToUndo,
  x_NothingToUndo := zx_NothingToUndo,
  t_NothingToUndo := zt_NothingToUndo,
  h_NothingToUndo := zh_NothingToUndo,
  n_NothingToUndo_count := zn_NothingToUndo_count,
  k_NothingToUndo := zk_NothingToUndo,
  e_NothingToUndo := ⟨famL, PySem.W.mg_of X G za_NothingToUndo, zi_NothingToUndo, zo_NothingToUndo, zh_NothingToUndo, zI_NothingToUndo, zf_NothingToUndo, zs_NothingToUndo, zB_NothingToUndo, zST_NothingToUndo, PySem.W.mg_none_of X G zb_super, zA_NothingToUndo, (by intro f hf; rcases List.mem_cons.mp hf with rfl | hf; exact zT_NothingToUndo_count; cases hf), ⟨_, _, _, zC_NothingToUndo⟩, ⟨_, _, _, _, _, zD_NothingToUndo, zE_NothingToUndo⟩, zM_NothingToUndo, Option.isSome_iff_exists.mp zN_NothingToUndo, zP_NothingToUndo⟩,
  i_NothingToUndo := ⟨⟨_, _, _, _, _, _, _, _, _, ⟨141, 17, 141, 21⟩, [⟨141, 23, 141, 28⟩], _, _, _, _, _, [("count", ⟨143, 8, 143, 12⟩, ⟨143, 8, 143, 18⟩, ⟨143, 21, 143, 26⟩, ⟨143, 8, 143, 26⟩)], zl_NothingToUndo, rfl, rfl, rfl⟩, zq_NothingToUndo, (by decide +kernel), by decide +kernel, ⟨(fun z => nomatch z), by decide⟩, (by rintro fd ⟨oc, od, osl, h⟩ u us hl; have q := h.symm.trans zl_NothingToUndo; cases q; exact match us, hl with | [_], _ => rfl)⟩,
  j_NothingToUndo := ⟨rfl, (by rintro fd ⟨oc, od, osl, h⟩ u us hl; have q := h.symm.trans zl_NothingToUndo; cases q; exact match us, hl with | [_], _ => rfl)⟩,
  R_NothingToUndo := ⟨zN_NothingToUndo, zga_NothingToUndo, zgg_NothingToUndo, zx_NothingToUndo, zcc_NothingToUndo, zcg_NothingToUndo, zct_NothingToUndo, zmo_NothingToUndo, zh_NothingToUndo⟩,
  uAll := zz_uAll,
  fJarError := zz_fJarError,
  fStateError := zz_fStateError,
  fMissingError := zz_fMissingError,
  fValueError := zz_fValueError,
  fRuntimeError := zz_fRuntimeError,
  fLookupError := zz_fLookupError,
  fKeyError := zz_fKeyError,
  fIndexError := zz_fIndexError,
  fNotImplementedError := zz_fNotImplementedError }
theorem law_use {P : Program} {w : World} {K : PySem.W.Frag} {mg : Str → Option Value} {base : Heap} {a : Adr} {fa : Addr} (T : Txt P K mg a) (h : mg "law" = some (.ref fa)) : CallP P w K mg base 30 (.ref fa) (sp_law K) := by
  have q := T.g_law.symm.trans h
  cases q
  exact (ok_law T).mono (by decide)
end BJL
open PySem PySem.W PyProof.Rows
local macro_rules | `(tactic| walk_at "fact") => `(tactic| first | k_is | ks_is | (first | rfl | kernel_rfl | decide +kernel))
set_option maxHeartbeats 0 in
theorem PySem.Challenge.cw_brinejar_k01_error_classes_holds : PySem.Challenge.rw_brinejar_k01_error_classes.Holds := by
  w_on; o_law; k_head; (case hw => w_witness2)
  k_fill
  refine BJ.walkG (l := PySem.Challenge.rw_brinejar_k01_error_classes) (n := 63) (k := 30) (sp := fun w => BJL.sp_law _) rfl (by decide) rfl ⟨rfl, by decide, by decide⟩ (fun w h Y => PySem.W.kIn_of Y) ?F BJL.law_start
  case F =>
    intro w mg fa h KX G hmg base KB GB
    refine BJL.law_use (a := ?adr) ?txt hmg
    case txt =>
    refine' BJL.all_mk KX G ?zb_IndexError ?zb_KeyError ?zb_LookupError ?zb_NotImplementedError ?zb_RuntimeError ?zb_ValueError ?zb_enumerate ?zb_isinstance ?zb_len ?zb_min ?zb_range ?zb_repr ?zb_super ?za__law_begin ?zl__law_begin ?zd__law_begin ?zk__law_begin ?za__law_mixed ?zl__law_mixed ?zd__law_mixed ?zk__law_mixed ?za__law_next ?zl__law_next ?zd__law_next ?zk__law_next ?za__law_made ?zl__law_made ?zd__law_made ?zk__law_made ?za__law_kinds ?zl__law_kinds ?zd__law_kinds ?zk__law_kinds ?za__law_families_right ?zl__law_families_right ?zd__law_families_right ?zk__law_families_right ?za__law_fields ?zl__law_fields ?zd__law_fields ?zk__law_fields ?za__law_named ?zl__law_named ?zd__law_named ?zk__law_named ?za_law ?zl_law ?zd_law ?zk_law ?za_JarError ?zt_JarError ?zx_JarError ?zh_JarError ?za_InvalidValue ?zt_InvalidValue ?zx_InvalidValue ?zh_InvalidValue ?zi_InvalidValue ?zo_InvalidValue ?zI_InvalidValue ?zf_InvalidValue ?zl_InvalidValue ?zq_InvalidValue ?zs_InvalidValue ?zB_InvalidValue ?zST_InvalidValue ?zA_InvalidValue ?zT_InvalidValue_value ?zn_InvalidValue_value ?zC_InvalidValue ?zD_InvalidValue ?zE_InvalidValue ?zM_InvalidValue ?zN_InvalidValue ?zP_InvalidValue ?zk_InvalidValue ?zga_InvalidValue ?zgg_InvalidValue ?zcc_InvalidValue ?zcg_InvalidValue ?zct_InvalidValue ?zmo_InvalidValue ?za_InvalidNumbers ?zt_InvalidNumbers ?zx_InvalidNumbers ?zh_InvalidNumbers ?zi_InvalidNumbers ?zo_InvalidNumbers ?zI_InvalidNumbers ?zf_InvalidNumbers ?zl_InvalidNumbers ?zq_InvalidNumbers ?zs_InvalidNumbers ?zB_InvalidNumbers ?zST_InvalidNumbers ?zA_InvalidNumbers ?zT_InvalidNumbers_value ?zn_InvalidNumbers_value ?zC_InvalidNumbers ?zD_InvalidNumbers ?zE_InvalidNumbers ?zM_InvalidNumbers ?zN_InvalidNumbers ?zP_InvalidNumbers ?zk_InvalidNumbers ?zga_InvalidNumbers ?zgg_InvalidNumbers ?zcc_InvalidNumbers ?zcg_InvalidNumbers ?zct_InvalidNumbers ?zmo_InvalidNumbers ?za_InvalidKey ?zt_InvalidKey ?zx_InvalidKey ?zh_InvalidKey ?zi_InvalidKey ?zo_InvalidKey ?zI_InvalidKey ?zf_InvalidKey ?zl_InvalidKey ?zq_InvalidKey ?zs_InvalidKey ?zB_InvalidKey ?zST_InvalidKey ?zA_InvalidKey ?zT_InvalidKey_key ?zn_InvalidKey_key ?zC_InvalidKey ?zD_InvalidKey ?zE_InvalidKey ?zM_InvalidKey ?zN_InvalidKey ?zP_InvalidKey ?zk_InvalidKey ?zga_InvalidKey ?zgg_InvalidKey ?zcc_InvalidKey ?zcg_InvalidKey ?zct_InvalidKey ?zmo_InvalidKey ?za_InvalidIndex ?zt_InvalidIndex ?zx_InvalidIndex ?zh_InvalidIndex ?zi_InvalidIndex ?zo_InvalidIndex ?zI_InvalidIndex ?zf_InvalidIndex ?zl_InvalidIndex ?zq_InvalidIndex ?zs_InvalidIndex ?zB_InvalidIndex ?zST_InvalidIndex ?zA_InvalidIndex ?zT_InvalidIndex_index ?zn_InvalidIndex_index ?zC_InvalidIndex ?zD_InvalidIndex ?zE_InvalidIndex ?zM_InvalidIndex ?zN_InvalidIndex ?zP_InvalidIndex ?zk_InvalidIndex ?zga_InvalidIndex ?zgg_InvalidIndex ?zcc_InvalidIndex ?zcg_InvalidIndex ?zct_InvalidIndex ?zmo_InvalidIndex ?za_InvalidBrand ?zt_InvalidBrand ?zx_InvalidBrand ?zh_InvalidBrand ?zi_InvalidBrand ?zo_InvalidBrand ?zI_InvalidBrand ?zf_InvalidBrand ?zl_InvalidBrand ?zq_InvalidBrand ?zs_InvalidBrand ?zB_InvalidBrand ?zST_InvalidBrand ?zA_InvalidBrand ?zT_InvalidBrand_given ?zn_InvalidBrand_given ?zC_InvalidBrand ?zD_InvalidBrand ?zE_InvalidBrand ?zM_InvalidBrand ?zN_InvalidBrand ?zP_InvalidBrand ?zk_InvalidBrand ?zga_InvalidBrand ?zgg_InvalidBrand ?zcc_InvalidBrand ?zcg_InvalidBrand ?zct_InvalidBrand ?zmo_InvalidBrand ?za_InvalidTakes ?zt_InvalidTakes ?zx_InvalidTakes ?zh_InvalidTakes ?zi_InvalidTakes ?zo_InvalidTakes ?zI_InvalidTakes ?zf_InvalidTakes ?zl_InvalidTakes ?zq_InvalidTakes ?zs_InvalidTakes ?zB_InvalidTakes ?zST_InvalidTakes ?zA_InvalidTakes ?zT_InvalidTakes_value ?zn_InvalidTakes_value ?zC_InvalidTakes ?zD_InvalidTakes ?zE_InvalidTakes ?zM_InvalidTakes ?zN_InvalidTakes ?zP_InvalidTakes ?zk_InvalidTakes ?zga_InvalidTakes ?zgg_InvalidTakes ?zcc_InvalidTakes ?zcg_InvalidTakes ?zct_InvalidTakes ?zmo_InvalidTakes ?za_InvalidVersion ?zt_InvalidVersion ?zx_InvalidVersion ?zh_InvalidVersion ?zi_InvalidVersion ?zo_InvalidVersion ?zI_InvalidVersion ?zf_InvalidVersion ?zl_InvalidVersion ?zq_InvalidVersion ?zs_InvalidVersion ?zB_InvalidVersion ?zST_InvalidVersion ?zA_InvalidVersion ?zT_InvalidVersion_value ?zn_InvalidVersion_value ?zC_InvalidVersion ?zD_InvalidVersion ?zE_InvalidVersion ?zM_InvalidVersion ?zN_InvalidVersion ?zP_InvalidVersion ?zk_InvalidVersion ?zga_InvalidVersion ?zgg_InvalidVersion ?zcc_InvalidVersion ?zcg_InvalidVersion ?zct_InvalidVersion ?zmo_InvalidVersion ?za_InvalidStream ?zt_InvalidStream ?zx_InvalidStream ?zh_InvalidStream ?zi_InvalidStream ?zo_InvalidStream ?zI_InvalidStream ?zf_InvalidStream ?zl_InvalidStream ?zq_InvalidStream ?zs_InvalidStream ?zB_InvalidStream ?zST_InvalidStream ?zA_InvalidStream ?zT_InvalidStream_value ?zn_InvalidStream_value ?zC_InvalidStream ?zD_InvalidStream ?zE_InvalidStream ?zM_InvalidStream ?zN_InvalidStream ?zP_InvalidStream ?zk_InvalidStream ?zga_InvalidStream ?zgg_InvalidStream ?zcc_InvalidStream ?zcg_InvalidStream ?zct_InvalidStream ?zmo_InvalidStream ?za_InvalidLabel ?zt_InvalidLabel ?zx_InvalidLabel ?zh_InvalidLabel ?zi_InvalidLabel ?zo_InvalidLabel ?zI_InvalidLabel ?zf_InvalidLabel ?zl_InvalidLabel ?zq_InvalidLabel ?zs_InvalidLabel ?zB_InvalidLabel ?zST_InvalidLabel ?zA_InvalidLabel ?zT_InvalidLabel_value ?zn_InvalidLabel_value ?zC_InvalidLabel ?zD_InvalidLabel ?zE_InvalidLabel ?zM_InvalidLabel ?zN_InvalidLabel ?zP_InvalidLabel ?zk_InvalidLabel ?zga_InvalidLabel ?zgg_InvalidLabel ?zcc_InvalidLabel ?zcg_InvalidLabel ?zct_InvalidLabel ?zmo_InvalidLabel ?za_InvalidReduction ?zt_InvalidReduction ?zx_InvalidReduction ?zh_InvalidReduction ?zi_InvalidReduction ?zo_InvalidReduction ?zI_InvalidReduction ?zf_InvalidReduction ?zl_InvalidReduction ?zq_InvalidReduction ?zs_InvalidReduction ?zB_InvalidReduction ?zST_InvalidReduction ?zA_InvalidReduction ?zT_InvalidReduction_given ?zn_InvalidReduction_given ?zC_InvalidReduction ?zD_InvalidReduction ?zE_InvalidReduction ?zM_InvalidReduction ?zN_InvalidReduction ?zP_InvalidReduction ?zk_InvalidReduction ?zga_InvalidReduction ?zgg_InvalidReduction ?zcc_InvalidReduction ?zcg_InvalidReduction ?zct_InvalidReduction ?zmo_InvalidReduction ?za_InvalidMade ?zt_InvalidMade ?zx_InvalidMade ?zh_InvalidMade ?zi_InvalidMade ?zo_InvalidMade ?zI_InvalidMade ?zf_InvalidMade ?zl_InvalidMade ?zq_InvalidMade ?zs_InvalidMade ?zB_InvalidMade ?zST_InvalidMade ?zA_InvalidMade ?zT_InvalidMade_given ?zn_InvalidMade_given ?zC_InvalidMade ?zD_InvalidMade ?zE_InvalidMade ?zM_InvalidMade ?zN_InvalidMade ?zP_InvalidMade ?zk_InvalidMade ?zga_InvalidMade ?zgg_InvalidMade ?zcc_InvalidMade ?zcg_InvalidMade ?zct_InvalidMade ?zmo_InvalidMade ?za_InvalidRow ?zt_InvalidRow ?zx_InvalidRow ?zh_InvalidRow ?zi_InvalidRow ?zo_InvalidRow ?zI_InvalidRow ?zf_InvalidRow ?zl_InvalidRow ?zq_InvalidRow ?zs_InvalidRow ?zB_InvalidRow ?zST_InvalidRow ?zA_InvalidRow ?zT_InvalidRow_position ?zn_InvalidRow_position ?zC_InvalidRow ?zD_InvalidRow ?zE_InvalidRow ?zM_InvalidRow ?zN_InvalidRow ?zP_InvalidRow ?zk_InvalidRow ?zga_InvalidRow ?zgg_InvalidRow ?zcc_InvalidRow ?zcg_InvalidRow ?zct_InvalidRow ?zmo_InvalidRow ?za_InvalidName ?zt_InvalidName ?zx_InvalidName ?zh_InvalidName ?zi_InvalidName ?zo_InvalidName ?zI_InvalidName ?zf_InvalidName ?zl_InvalidName ?zq_InvalidName ?zs_InvalidName ?zB_InvalidName ?zST_InvalidName ?zA_InvalidName ?zT_InvalidName_given ?zn_InvalidName_given ?zC_InvalidName ?zD_InvalidName ?zE_InvalidName ?zM_InvalidName ?zN_InvalidName ?zP_InvalidName ?zk_InvalidName ?zga_InvalidName ?zgg_InvalidName ?zcc_InvalidName ?zcg_InvalidName ?zct_InvalidName ?zmo_InvalidName ?za_InvalidEdit ?zt_InvalidEdit ?zx_InvalidEdit ?zh_InvalidEdit ?zi_InvalidEdit ?zo_InvalidEdit ?zI_InvalidEdit ?zf_InvalidEdit ?zl_InvalidEdit ?zq_InvalidEdit ?zs_InvalidEdit ?zB_InvalidEdit ?zST_InvalidEdit ?zA_InvalidEdit ?zT_InvalidEdit_position ?zn_InvalidEdit_position ?zC_InvalidEdit ?zD_InvalidEdit ?zE_InvalidEdit ?zM_InvalidEdit ?zN_InvalidEdit ?zP_InvalidEdit ?zk_InvalidEdit ?zga_InvalidEdit ?zgg_InvalidEdit ?zcc_InvalidEdit ?zcg_InvalidEdit ?zct_InvalidEdit ?zmo_InvalidEdit ?za_InvalidText ?zt_InvalidText ?zx_InvalidText ?zh_InvalidText ?zi_InvalidText ?zo_InvalidText ?zI_InvalidText ?zf_InvalidText ?zl_InvalidText ?zq_InvalidText ?zs_InvalidText ?zB_InvalidText ?zST_InvalidText ?zA_InvalidText ?zT_InvalidText_offset ?zn_InvalidText_offset ?zC_InvalidText ?zD_InvalidText ?zE_InvalidText ?zM_InvalidText ?zN_InvalidText ?zP_InvalidText ?zk_InvalidText ?zga_InvalidText ?zgg_InvalidText ?zcc_InvalidText ?zcg_InvalidText ?zct_InvalidText ?zmo_InvalidText ?za_Refused ?zt_Refused ?zx_Refused ?zh_Refused ?zi_Refused ?zo_Refused ?zI_Refused ?zf_Refused ?zl_Refused ?zq_Refused ?zs_Refused ?zB_Refused ?zST_Refused ?zA_Refused ?zT_Refused_offset ?zn_Refused_offset ?zT_Refused_reason ?zn_Refused_reason ?zC_Refused ?zD_Refused ?zE_Refused ?zM_Refused ?zN_Refused ?zP_Refused ?zk_Refused ?zga_Refused ?zgg_Refused ?zcc_Refused ?zcg_Refused ?zct_Refused ?zmo_Refused ?za_NotCanonical ?zt_NotCanonical ?zx_NotCanonical ?zh_NotCanonical ?zi_NotCanonical ?zo_NotCanonical ?zI_NotCanonical ?zf_NotCanonical ?zl_NotCanonical ?zq_NotCanonical ?zs_NotCanonical ?zB_NotCanonical ?zST_NotCanonical ?zA_NotCanonical ?zT_NotCanonical_offset ?zn_NotCanonical_offset ?zC_NotCanonical ?zD_NotCanonical ?zE_NotCanonical ?zM_NotCanonical ?zN_NotCanonical ?zP_NotCanonical ?zk_NotCanonical ?zga_NotCanonical ?zgg_NotCanonical ?zcc_NotCanonical ?zcg_NotCanonical ?zct_NotCanonical ?zmo_NotCanonical ?za_StateError ?zt_StateError ?zx_StateError ?zh_StateError ?za_TooDeep ?zt_TooDeep ?zx_TooDeep ?zh_TooDeep ?zi_TooDeep ?zo_TooDeep ?zI_TooDeep ?zf_TooDeep ?zl_TooDeep ?zq_TooDeep ?zs_TooDeep ?zB_TooDeep ?zST_TooDeep ?zA_TooDeep ?zT_TooDeep_limit ?zn_TooDeep_limit ?zC_TooDeep ?zD_TooDeep ?zE_TooDeep ?zM_TooDeep ?zN_TooDeep ?zP_TooDeep ?zk_TooDeep ?zga_TooDeep ?zgg_TooDeep ?zcc_TooDeep ?zcg_TooDeep ?zct_TooDeep ?zmo_TooDeep ?za_TooLong ?zt_TooLong ?zx_TooLong ?zh_TooLong ?zi_TooLong ?zo_TooLong ?zI_TooLong ?zf_TooLong ?zl_TooLong ?zq_TooLong ?zs_TooLong ?zB_TooLong ?zST_TooLong ?zA_TooLong ?zT_TooLong_limit ?zn_TooLong_limit ?zC_TooLong ?zD_TooLong ?zE_TooLong ?zM_TooLong ?zN_TooLong ?zP_TooLong ?zk_TooLong ?zga_TooLong ?zgg_TooLong ?zcc_TooLong ?zcg_TooLong ?zct_TooLong ?zmo_TooLong ?za_SelfArgument ?zt_SelfArgument ?zx_SelfArgument ?zh_SelfArgument ?zi_SelfArgument ?zo_SelfArgument ?zI_SelfArgument ?zf_SelfArgument ?zl_SelfArgument ?zq_SelfArgument ?zs_SelfArgument ?zB_SelfArgument ?zST_SelfArgument ?zA_SelfArgument ?zT_SelfArgument_given ?zn_SelfArgument_given ?zC_SelfArgument ?zD_SelfArgument ?zE_SelfArgument ?zM_SelfArgument ?zN_SelfArgument ?zP_SelfArgument ?zk_SelfArgument ?zga_SelfArgument ?zgg_SelfArgument ?zcc_SelfArgument ?zcg_SelfArgument ?zct_SelfArgument ?zmo_SelfArgument ?za_KeyTaken ?zt_KeyTaken ?zx_KeyTaken ?zh_KeyTaken ?zi_KeyTaken ?zo_KeyTaken ?zI_KeyTaken ?zf_KeyTaken ?zl_KeyTaken ?zq_KeyTaken ?zs_KeyTaken ?zB_KeyTaken ?zST_KeyTaken ?zA_KeyTaken ?zT_KeyTaken_key ?zn_KeyTaken_key ?zC_KeyTaken ?zD_KeyTaken ?zE_KeyTaken ?zM_KeyTaken ?zN_KeyTaken ?zP_KeyTaken ?zk_KeyTaken ?zga_KeyTaken ?zgg_KeyTaken ?zcc_KeyTaken ?zcg_KeyTaken ?zct_KeyTaken ?zmo_KeyTaken ?za_BrandTaken ?zt_BrandTaken ?zx_BrandTaken ?zh_BrandTaken ?zi_BrandTaken ?zo_BrandTaken ?zI_BrandTaken ?zf_BrandTaken ?zl_BrandTaken ?zq_BrandTaken ?zs_BrandTaken ?zB_BrandTaken ?zST_BrandTaken ?zA_BrandTaken ?zT_BrandTaken_given ?zn_BrandTaken_given ?zC_BrandTaken ?zD_BrandTaken ?zE_BrandTaken ?zM_BrandTaken ?zN_BrandTaken ?zP_BrandTaken ?zk_BrandTaken ?zga_BrandTaken ?zgg_BrandTaken ?zcc_BrandTaken ?zcg_BrandTaken ?zct_BrandTaken ?zmo_BrandTaken ?za_Full ?zt_Full ?zx_Full ?zh_Full ?zi_Full ?zo_Full ?zI_Full ?zf_Full ?zl_Full ?zq_Full ?zs_Full ?zB_Full ?zST_Full ?zA_Full ?zT_Full_limit ?zn_Full_limit ?zC_Full ?zD_Full ?zE_Full ?zM_Full ?zN_Full ?zP_Full ?zk_Full ?zga_Full ?zgg_Full ?zcc_Full ?zcg_Full ?zct_Full ?zmo_Full ?za_MissingError ?zt_MissingError ?zx_MissingError ?zh_MissingError ?za_UnknownBrand ?zt_UnknownBrand ?zx_UnknownBrand ?zh_UnknownBrand ?zi_UnknownBrand ?zo_UnknownBrand ?zI_UnknownBrand ?zf_UnknownBrand ?zl_UnknownBrand ?zq_UnknownBrand ?zs_UnknownBrand ?zB_UnknownBrand ?zST_UnknownBrand ?zA_UnknownBrand ?zT_UnknownBrand_given ?zn_UnknownBrand_given ?zC_UnknownBrand ?zD_UnknownBrand ?zE_UnknownBrand ?zM_UnknownBrand ?zN_UnknownBrand ?zP_UnknownBrand ?zk_UnknownBrand ?zga_UnknownBrand ?zgg_UnknownBrand ?zcc_UnknownBrand ?zcg_UnknownBrand ?zct_UnknownBrand ?zmo_UnknownBrand ?za_NoEntry ?zt_NoEntry ?zx_NoEntry ?zh_NoEntry ?zi_NoEntry ?zo_NoEntry ?zI_NoEntry ?zf_NoEntry ?zl_NoEntry ?zq_NoEntry ?zs_NoEntry ?zB_NoEntry ?zST_NoEntry ?zA_NoEntry ?zT_NoEntry_key ?zn_NoEntry_key ?zC_NoEntry ?zD_NoEntry ?zE_NoEntry ?zM_NoEntry ?zN_NoEntry ?zP_NoEntry ?zk_NoEntry ?zga_NoEntry ?zgg_NoEntry ?zcc_NoEntry ?zcg_NoEntry ?zct_NoEntry ?zmo_NoEntry ?za_NoName ?zt_NoName ?zx_NoName ?zh_NoName ?zi_NoName ?zo_NoName ?zI_NoName ?zf_NoName ?zl_NoName ?zq_NoName ?zs_NoName ?zB_NoName ?zST_NoName ?zA_NoName ?zT_NoName_given ?zn_NoName_given ?zC_NoName ?zD_NoName ?zE_NoName ?zM_NoName ?zN_NoName ?zP_NoName ?zk_NoName ?zga_NoName ?zgg_NoName ?zcc_NoName ?zcg_NoName ?zct_NoName ?zmo_NoName ?za_NothingToUndo ?zt_NothingToUndo ?zx_NothingToUndo ?zh_NothingToUndo ?zi_NothingToUndo ?zo_NothingToUndo ?zI_NothingToUndo ?zf_NothingToUndo ?zl_NothingToUndo ?zq_NothingToUndo ?zs_NothingToUndo ?zB_NothingToUndo ?zST_NothingToUndo ?zA_NothingToUndo ?zT_NothingToUndo_count ?zn_NothingToUndo_count ?zC_NothingToUndo ?zD_NothingToUndo ?zE_NothingToUndo ?zM_NothingToUndo ?zN_NothingToUndo ?zP_NothingToUndo ?zk_NothingToUndo ?zga_NothingToUndo ?zgg_NothingToUndo ?zcc_NothingToUndo ?zcg_NothingToUndo ?zct_NothingToUndo ?zmo_NothingToUndo ?zz_uAll ?zz_fJarError ?zz_fStateError ?zz_fMissingError ?zz_fValueError ?zz_fRuntimeError ?zz_fLookupError ?zz_fKeyError ?zz_fIndexError ?zz_fNotImplementedError
    (case zb_IndexError => walk_at "fact")
    (case zb_KeyError => walk_at "fact")
    (case zb_LookupError => walk_at "fact")
    (case zb_NotImplementedError => walk_at "fact")
    (case zb_RuntimeError => walk_at "fact")
    (case zb_ValueError => walk_at "fact")
    (case zb_enumerate => walk_at "fact")
    (case zb_isinstance => walk_at "fact")
    (case zb_len => walk_at "fact")
    (case zb_min => walk_at "fact")
    (case zb_range => walk_at "fact")
    (case zb_repr => walk_at "fact")
    (case zb_super => walk_at "fact")
    (case za__law_begin => walk_at "fact")
    (case zl__law_begin => walk_at "fact")
    (case zd__law_begin => walk_at "fact")
    (case zk__law_begin => walk_at "fact")
    (case za__law_mixed => walk_at "fact")
    (case zl__law_mixed => walk_at "fact")
    (case zd__law_mixed => walk_at "fact")
    (case zk__law_mixed => walk_at "fact")
    (case za__law_next => walk_at "fact")
    (case zl__law_next => walk_at "fact")
    (case zd__law_next => walk_at "fact")
    (case zk__law_next => walk_at "fact")
    (case za__law_made => walk_at "fact")
    (case zl__law_made => walk_at "fact")
    (case zd__law_made => walk_at "fact")
    (case zk__law_made => walk_at "fact")
    (case za__law_kinds => walk_at "fact")
    (case zl__law_kinds => walk_at "fact")
    (case zd__law_kinds => walk_at "fact")
    (case zk__law_kinds => walk_at "fact")
    (case za__law_families_right => walk_at "fact")
    (case zl__law_families_right => walk_at "fact")
    (case zd__law_families_right => walk_at "fact")
    (case zk__law_families_right => walk_at "fact")
    (case za__law_fields => walk_at "fact")
    (case zl__law_fields => walk_at "fact")
    (case zd__law_fields => walk_at "fact")
    (case zk__law_fields => walk_at "fact")
    (case za__law_named => walk_at "fact")
    (case zl__law_named => walk_at "fact")
    (case zd__law_named => walk_at "fact")
    (case zk__law_named => walk_at "fact")
    (case za_law => walk_at "fact")
    (case zl_law => walk_at "fact")
    (case zd_law => walk_at "fact")
    (case zk_law => walk_at "fact")
    (case za_JarError => walk_at "fact")
    (case zt_JarError => walk_at "fact")
    (case zx_JarError => walk_at "fact")
    (case zh_JarError => walk_at "fact")
    (case za_InvalidValue => walk_at "fact")
    (case zt_InvalidValue => walk_at "fact")
    (case zx_InvalidValue => walk_at "fact")
    (case zh_InvalidValue => walk_at "fact")
    (case zi_InvalidValue => walk_at "fact")
    (case zo_InvalidValue => walk_at "fact")
    (case zI_InvalidValue => walk_at "fact")
    (case zf_InvalidValue => walk_at "fact")
    (case zl_InvalidValue => walk_at "fact")
    (case zq_InvalidValue => walk_at "fact")
    (case zs_InvalidValue => walk_at "fact")
    (case zB_InvalidValue => walk_at "fact")
    (case zST_InvalidValue => walk_at "fact")
    (case zA_InvalidValue => walk_at "fact")
    (case zT_InvalidValue_value => walk_at "fact")
    (case zn_InvalidValue_value => walk_at "fact")
    (case zC_InvalidValue => walk_at "fact")
    (case zD_InvalidValue => walk_at "fact")
    (case zE_InvalidValue => walk_at "fact")
    (case zM_InvalidValue => walk_at "fact")
    (case zN_InvalidValue => walk_at "fact")
    (case zP_InvalidValue => walk_at "fact")
    (case zk_InvalidValue => walk_at "fact")
    (case zga_InvalidValue => walk_at "fact")
    (case zgg_InvalidValue => walk_at "fact")
    (case zcc_InvalidValue => walk_at "fact")
    (case zcg_InvalidValue => walk_at "fact")
    (case zct_InvalidValue => walk_at "fact")
    (case zmo_InvalidValue => walk_at "fact")
    (case za_InvalidNumbers => walk_at "fact")
    (case zt_InvalidNumbers => walk_at "fact")
    (case zx_InvalidNumbers => walk_at "fact")
    (case zh_InvalidNumbers => walk_at "fact")
    (case zi_InvalidNumbers => walk_at "fact")
    (case zo_InvalidNumbers => walk_at "fact")
    (case zI_InvalidNumbers => walk_at "fact")
    (case zf_InvalidNumbers => walk_at "fact")
    (case zl_InvalidNumbers => walk_at "fact")
    (case zq_InvalidNumbers => walk_at "fact")
    (case zs_InvalidNumbers => walk_at "fact")
    (case zB_InvalidNumbers => walk_at "fact")
    (case zST_InvalidNumbers => walk_at "fact")
    (case zA_InvalidNumbers => walk_at "fact")
    (case zT_InvalidNumbers_value => walk_at "fact")
    (case zn_InvalidNumbers_value => walk_at "fact")
    (case zC_InvalidNumbers => walk_at "fact")
    (case zD_InvalidNumbers => walk_at "fact")
    (case zE_InvalidNumbers => walk_at "fact")
    (case zM_InvalidNumbers => walk_at "fact")
    (case zN_InvalidNumbers => walk_at "fact")
    (case zP_InvalidNumbers => walk_at "fact")
    (case zk_InvalidNumbers => walk_at "fact")
    (case zga_InvalidNumbers => walk_at "fact")
    (case zgg_InvalidNumbers => walk_at "fact")
    (case zcc_InvalidNumbers => walk_at "fact")
    (case zcg_InvalidNumbers => walk_at "fact")
    (case zct_InvalidNumbers => walk_at "fact")
    (case zmo_InvalidNumbers => walk_at "fact")
    (case za_InvalidKey => walk_at "fact")
    (case zt_InvalidKey => walk_at "fact")
    (case zx_InvalidKey => walk_at "fact")
    (case zh_InvalidKey => walk_at "fact")
    (case zi_InvalidKey => walk_at "fact")
    (case zo_InvalidKey => walk_at "fact")
    (case zI_InvalidKey => walk_at "fact")
    (case zf_InvalidKey => walk_at "fact")
    (case zl_InvalidKey => walk_at "fact")
    (case zq_InvalidKey => walk_at "fact")
    (case zs_InvalidKey => walk_at "fact")
    (case zB_InvalidKey => walk_at "fact")
    (case zST_InvalidKey => walk_at "fact")
    (case zA_InvalidKey => walk_at "fact")
    (case zT_InvalidKey_key => walk_at "fact")
    (case zn_InvalidKey_key => walk_at "fact")
    (case zC_InvalidKey => walk_at "fact")
    (case zD_InvalidKey => walk_at "fact")
    (case zE_InvalidKey => walk_at "fact")
    (case zM_InvalidKey => walk_at "fact")
    (case zN_InvalidKey => walk_at "fact")
    (case zP_InvalidKey => walk_at "fact")
    (case zk_InvalidKey => walk_at "fact")
    (case zga_InvalidKey => walk_at "fact")
    (case zgg_InvalidKey => walk_at "fact")
    (case zcc_InvalidKey => walk_at "fact")
    (case zcg_InvalidKey => walk_at "fact")
    (case zct_InvalidKey => walk_at "fact")
    (case zmo_InvalidKey => walk_at "fact")
    (case za_InvalidIndex => walk_at "fact")
    (case zt_InvalidIndex => walk_at "fact")
    (case zx_InvalidIndex => walk_at "fact")
    (case zh_InvalidIndex => walk_at "fact")
    (case zi_InvalidIndex => walk_at "fact")
    (case zo_InvalidIndex => walk_at "fact")
    (case zI_InvalidIndex => walk_at "fact")
    (case zf_InvalidIndex => walk_at "fact")
    (case zl_InvalidIndex => walk_at "fact")
    (case zq_InvalidIndex => walk_at "fact")
    (case zs_InvalidIndex => walk_at "fact")
    (case zB_InvalidIndex => walk_at "fact")
    (case zST_InvalidIndex => walk_at "fact")
    (case zA_InvalidIndex => walk_at "fact")
    (case zT_InvalidIndex_index => walk_at "fact")
    (case zn_InvalidIndex_index => walk_at "fact")
    (case zC_InvalidIndex => walk_at "fact")
    (case zD_InvalidIndex => walk_at "fact")
    (case zE_InvalidIndex => walk_at "fact")
    (case zM_InvalidIndex => walk_at "fact")
    (case zN_InvalidIndex => walk_at "fact")
    (case zP_InvalidIndex => walk_at "fact")
    (case zk_InvalidIndex => walk_at "fact")
    (case zga_InvalidIndex => walk_at "fact")
    (case zgg_InvalidIndex => walk_at "fact")
    (case zcc_InvalidIndex => walk_at "fact")
    (case zcg_InvalidIndex => walk_at "fact")
    (case zct_InvalidIndex => walk_at "fact")
    (case zmo_InvalidIndex => walk_at "fact")
    (case za_InvalidBrand => walk_at "fact")
    (case zt_InvalidBrand => walk_at "fact")
    (case zx_InvalidBrand => walk_at "fact")
    (case zh_InvalidBrand => walk_at "fact")
    (case zi_InvalidBrand => walk_at "fact")
    (case zo_InvalidBrand => walk_at "fact")
    (case zI_InvalidBrand => walk_at "fact")
    (case zf_InvalidBrand => walk_at "fact")
    (case zl_InvalidBrand => walk_at "fact")
    (case zq_InvalidBrand => walk_at "fact")
    (case zs_InvalidBrand => walk_at "fact")
    (case zB_InvalidBrand => walk_at "fact")
    (case zST_InvalidBrand => walk_at "fact")
    (case zA_InvalidBrand => walk_at "fact")
    (case zT_InvalidBrand_given => walk_at "fact")
    (case zn_InvalidBrand_given => walk_at "fact")
    (case zC_InvalidBrand => walk_at "fact")
    (case zD_InvalidBrand => walk_at "fact")
    (case zE_InvalidBrand => walk_at "fact")
    (case zM_InvalidBrand => walk_at "fact")
    (case zN_InvalidBrand => walk_at "fact")
    (case zP_InvalidBrand => walk_at "fact")
    (case zk_InvalidBrand => walk_at "fact")
    (case zga_InvalidBrand => walk_at "fact")
    (case zgg_InvalidBrand => walk_at "fact")
    (case zcc_InvalidBrand => walk_at "fact")
    (case zcg_InvalidBrand => walk_at "fact")
    (case zct_InvalidBrand => walk_at "fact")
    (case zmo_InvalidBrand => walk_at "fact")
    (case za_InvalidTakes => walk_at "fact")
    (case zt_InvalidTakes => walk_at "fact")
    (case zx_InvalidTakes => walk_at "fact")
    (case zh_InvalidTakes => walk_at "fact")
    (case zi_InvalidTakes => walk_at "fact")
    (case zo_InvalidTakes => walk_at "fact")
    (case zI_InvalidTakes => walk_at "fact")
    (case zf_InvalidTakes => walk_at "fact")
    (case zl_InvalidTakes => walk_at "fact")
    (case zq_InvalidTakes => walk_at "fact")
    (case zs_InvalidTakes => walk_at "fact")
    (case zB_InvalidTakes => walk_at "fact")
    (case zST_InvalidTakes => walk_at "fact")
    (case zA_InvalidTakes => walk_at "fact")
    (case zT_InvalidTakes_value => walk_at "fact")
    (case zn_InvalidTakes_value => walk_at "fact")
    (case zC_InvalidTakes => walk_at "fact")
    (case zD_InvalidTakes => walk_at "fact")
    (case zE_InvalidTakes => walk_at "fact")
    (case zM_InvalidTakes => walk_at "fact")
    (case zN_InvalidTakes => walk_at "fact")
    (case zP_InvalidTakes => walk_at "fact")
    (case zk_InvalidTakes => walk_at "fact")
    (case zga_InvalidTakes => walk_at "fact")
    (case zgg_InvalidTakes => walk_at "fact")
    (case zcc_InvalidTakes => walk_at "fact")
    (case zcg_InvalidTakes => walk_at "fact")
    (case zct_InvalidTakes => walk_at "fact")
    (case zmo_InvalidTakes => walk_at "fact")
    (case za_InvalidVersion => walk_at "fact")
    (case zt_InvalidVersion => walk_at "fact")
    (case zx_InvalidVersion => walk_at "fact")
    (case zh_InvalidVersion => walk_at "fact")
    (case zi_InvalidVersion => walk_at "fact")
    (case zo_InvalidVersion => walk_at "fact")
    (case zI_InvalidVersion => walk_at "fact")
    (case zf_InvalidVersion => walk_at "fact")
    (case zl_InvalidVersion => walk_at "fact")
    (case zq_InvalidVersion => walk_at "fact")
    (case zs_InvalidVersion => walk_at "fact")
    (case zB_InvalidVersion => walk_at "fact")
    (case zST_InvalidVersion => walk_at "fact")
    (case zA_InvalidVersion => walk_at "fact")
    (case zT_InvalidVersion_value => walk_at "fact")
    (case zn_InvalidVersion_value => walk_at "fact")
    (case zC_InvalidVersion => walk_at "fact")
    (case zD_InvalidVersion => walk_at "fact")
    (case zE_InvalidVersion => walk_at "fact")
    (case zM_InvalidVersion => walk_at "fact")
    (case zN_InvalidVersion => walk_at "fact")
    (case zP_InvalidVersion => walk_at "fact")
    (case zk_InvalidVersion => walk_at "fact")
    (case zga_InvalidVersion => walk_at "fact")
    (case zgg_InvalidVersion => walk_at "fact")
    (case zcc_InvalidVersion => walk_at "fact")
    (case zcg_InvalidVersion => walk_at "fact")
    (case zct_InvalidVersion => walk_at "fact")
    (case zmo_InvalidVersion => walk_at "fact")
    (case za_InvalidStream => walk_at "fact")
    (case zt_InvalidStream => walk_at "fact")
    (case zx_InvalidStream => walk_at "fact")
    (case zh_InvalidStream => walk_at "fact")
    (case zi_InvalidStream => walk_at "fact")
    (case zo_InvalidStream => walk_at "fact")
    (case zI_InvalidStream => walk_at "fact")
    (case zf_InvalidStream => walk_at "fact")
    (case zl_InvalidStream => walk_at "fact")
    (case zq_InvalidStream => walk_at "fact")
    (case zs_InvalidStream => walk_at "fact")
    (case zB_InvalidStream => walk_at "fact")
    (case zST_InvalidStream => walk_at "fact")
    (case zA_InvalidStream => walk_at "fact")
    (case zT_InvalidStream_value => walk_at "fact")
    (case zn_InvalidStream_value => walk_at "fact")
    (case zC_InvalidStream => walk_at "fact")
    (case zD_InvalidStream => walk_at "fact")
    (case zE_InvalidStream => walk_at "fact")
    (case zM_InvalidStream => walk_at "fact")
    (case zN_InvalidStream => walk_at "fact")
    (case zP_InvalidStream => walk_at "fact")
    (case zk_InvalidStream => walk_at "fact")
    (case zga_InvalidStream => walk_at "fact")
    (case zgg_InvalidStream => walk_at "fact")
    (case zcc_InvalidStream => walk_at "fact")
    (case zcg_InvalidStream => walk_at "fact")
    (case zct_InvalidStream => walk_at "fact")
    (case zmo_InvalidStream => walk_at "fact")
    (case za_InvalidLabel => walk_at "fact")
    (case zt_InvalidLabel => walk_at "fact")
    (case zx_InvalidLabel => walk_at "fact")
    (case zh_InvalidLabel => walk_at "fact")
    (case zi_InvalidLabel => walk_at "fact")
    (case zo_InvalidLabel => walk_at "fact")
    (case zI_InvalidLabel => walk_at "fact")
    (case zf_InvalidLabel => walk_at "fact")
    (case zl_InvalidLabel => walk_at "fact")
    (case zq_InvalidLabel => walk_at "fact")
    (case zs_InvalidLabel => walk_at "fact")
    (case zB_InvalidLabel => walk_at "fact")
    (case zST_InvalidLabel => walk_at "fact")
    (case zA_InvalidLabel => walk_at "fact")
    (case zT_InvalidLabel_value => walk_at "fact")
    (case zn_InvalidLabel_value => walk_at "fact")
    (case zC_InvalidLabel => walk_at "fact")
    (case zD_InvalidLabel => walk_at "fact")
    (case zE_InvalidLabel => walk_at "fact")
    (case zM_InvalidLabel => walk_at "fact")
    (case zN_InvalidLabel => walk_at "fact")
    (case zP_InvalidLabel => walk_at "fact")
    (case zk_InvalidLabel => walk_at "fact")
    (case zga_InvalidLabel => walk_at "fact")
    (case zgg_InvalidLabel => walk_at "fact")
    (case zcc_InvalidLabel => walk_at "fact")
    (case zcg_InvalidLabel => walk_at "fact")
    (case zct_InvalidLabel => walk_at "fact")
    (case zmo_InvalidLabel => walk_at "fact")
    (case za_InvalidReduction => walk_at "fact")
    (case zt_InvalidReduction => walk_at "fact")
    (case zx_InvalidReduction => walk_at "fact")
    (case zh_InvalidReduction => walk_at "fact")
    (case zi_InvalidReduction => walk_at "fact")
    (case zo_InvalidReduction => walk_at "fact")
    (case zI_InvalidReduction => walk_at "fact")
    (case zf_InvalidReduction => walk_at "fact")
    (case zl_InvalidReduction => walk_at "fact")
    (case zq_InvalidReduction => walk_at "fact")
    (case zs_InvalidReduction => walk_at "fact")
    (case zB_InvalidReduction => walk_at "fact")
    (case zST_InvalidReduction => walk_at "fact")
    (case zA_InvalidReduction => walk_at "fact")
    (case zT_InvalidReduction_given => walk_at "fact")
    (case zn_InvalidReduction_given => walk_at "fact")
    (case zC_InvalidReduction => walk_at "fact")
    (case zD_InvalidReduction => walk_at "fact")
    (case zE_InvalidReduction => walk_at "fact")
    (case zM_InvalidReduction => walk_at "fact")
    (case zN_InvalidReduction => walk_at "fact")
    (case zP_InvalidReduction => walk_at "fact")
    (case zk_InvalidReduction => walk_at "fact")
    (case zga_InvalidReduction => walk_at "fact")
    (case zgg_InvalidReduction => walk_at "fact")
    (case zcc_InvalidReduction => walk_at "fact")
    (case zcg_InvalidReduction => walk_at "fact")
    (case zct_InvalidReduction => walk_at "fact")
    (case zmo_InvalidReduction => walk_at "fact")
    (case za_InvalidMade => walk_at "fact")
    (case zt_InvalidMade => walk_at "fact")
    (case zx_InvalidMade => walk_at "fact")
    (case zh_InvalidMade => walk_at "fact")
    (case zi_InvalidMade => walk_at "fact")
    (case zo_InvalidMade => walk_at "fact")
    (case zI_InvalidMade => walk_at "fact")
    (case zf_InvalidMade => walk_at "fact")
    (case zl_InvalidMade => walk_at "fact")
    (case zq_InvalidMade => walk_at "fact")
    (case zs_InvalidMade => walk_at "fact")
    (case zB_InvalidMade => walk_at "fact")
    (case zST_InvalidMade => walk_at "fact")
    (case zA_InvalidMade => walk_at "fact")
    (case zT_InvalidMade_given => walk_at "fact")
    (case zn_InvalidMade_given => walk_at "fact")
    (case zC_InvalidMade => walk_at "fact")
    (case zD_InvalidMade => walk_at "fact")
    (case zE_InvalidMade => walk_at "fact")
    (case zM_InvalidMade => walk_at "fact")
    (case zN_InvalidMade => walk_at "fact")
    (case zP_InvalidMade => walk_at "fact")
    (case zk_InvalidMade => walk_at "fact")
    (case zga_InvalidMade => walk_at "fact")
    (case zgg_InvalidMade => walk_at "fact")
    (case zcc_InvalidMade => walk_at "fact")
    (case zcg_InvalidMade => walk_at "fact")
    (case zct_InvalidMade => walk_at "fact")
    (case zmo_InvalidMade => walk_at "fact")
    (case za_InvalidRow => walk_at "fact")
    (case zt_InvalidRow => walk_at "fact")
    (case zx_InvalidRow => walk_at "fact")
    (case zh_InvalidRow => walk_at "fact")
    (case zi_InvalidRow => walk_at "fact")
    (case zo_InvalidRow => walk_at "fact")
    (case zI_InvalidRow => walk_at "fact")
    (case zf_InvalidRow => walk_at "fact")
    (case zl_InvalidRow => walk_at "fact")
    (case zq_InvalidRow => walk_at "fact")
    (case zs_InvalidRow => walk_at "fact")
    (case zB_InvalidRow => walk_at "fact")
    (case zST_InvalidRow => walk_at "fact")
    (case zA_InvalidRow => walk_at "fact")
    (case zT_InvalidRow_position => walk_at "fact")
    (case zn_InvalidRow_position => walk_at "fact")
    (case zC_InvalidRow => walk_at "fact")
    (case zD_InvalidRow => walk_at "fact")
    (case zE_InvalidRow => walk_at "fact")
    (case zM_InvalidRow => walk_at "fact")
    (case zN_InvalidRow => walk_at "fact")
    (case zP_InvalidRow => walk_at "fact")
    (case zk_InvalidRow => walk_at "fact")
    (case zga_InvalidRow => walk_at "fact")
    (case zgg_InvalidRow => walk_at "fact")
    (case zcc_InvalidRow => walk_at "fact")
    (case zcg_InvalidRow => walk_at "fact")
    (case zct_InvalidRow => walk_at "fact")
    (case zmo_InvalidRow => walk_at "fact")
    (case za_InvalidName => walk_at "fact")
    (case zt_InvalidName => walk_at "fact")
    (case zx_InvalidName => walk_at "fact")
    (case zh_InvalidName => walk_at "fact")
    (case zi_InvalidName => walk_at "fact")
    (case zo_InvalidName => walk_at "fact")
    (case zI_InvalidName => walk_at "fact")
    (case zf_InvalidName => walk_at "fact")
    (case zl_InvalidName => walk_at "fact")
    (case zq_InvalidName => walk_at "fact")
    (case zs_InvalidName => walk_at "fact")
    (case zB_InvalidName => walk_at "fact")
    (case zST_InvalidName => walk_at "fact")
    (case zA_InvalidName => walk_at "fact")
    (case zT_InvalidName_given => walk_at "fact")
    (case zn_InvalidName_given => walk_at "fact")
    (case zC_InvalidName => walk_at "fact")
    (case zD_InvalidName => walk_at "fact")
    (case zE_InvalidName => walk_at "fact")
    (case zM_InvalidName => walk_at "fact")
    (case zN_InvalidName => walk_at "fact")
    (case zP_InvalidName => walk_at "fact")
    (case zk_InvalidName => walk_at "fact")
    (case zga_InvalidName => walk_at "fact")
    (case zgg_InvalidName => walk_at "fact")
    (case zcc_InvalidName => walk_at "fact")
    (case zcg_InvalidName => walk_at "fact")
    (case zct_InvalidName => walk_at "fact")
    (case zmo_InvalidName => walk_at "fact")
    (case za_InvalidEdit => walk_at "fact")
    (case zt_InvalidEdit => walk_at "fact")
    (case zx_InvalidEdit => walk_at "fact")
    (case zh_InvalidEdit => walk_at "fact")
    (case zi_InvalidEdit => walk_at "fact")
    (case zo_InvalidEdit => walk_at "fact")
    (case zI_InvalidEdit => walk_at "fact")
    (case zf_InvalidEdit => walk_at "fact")
    (case zl_InvalidEdit => walk_at "fact")
    (case zq_InvalidEdit => walk_at "fact")
    (case zs_InvalidEdit => walk_at "fact")
    (case zB_InvalidEdit => walk_at "fact")
    (case zST_InvalidEdit => walk_at "fact")
    (case zA_InvalidEdit => walk_at "fact")
    (case zT_InvalidEdit_position => walk_at "fact")
    (case zn_InvalidEdit_position => walk_at "fact")
    (case zC_InvalidEdit => walk_at "fact")
    (case zD_InvalidEdit => walk_at "fact")
    (case zE_InvalidEdit => walk_at "fact")
    (case zM_InvalidEdit => walk_at "fact")
    (case zN_InvalidEdit => walk_at "fact")
    (case zP_InvalidEdit => walk_at "fact")
    (case zk_InvalidEdit => walk_at "fact")
    (case zga_InvalidEdit => walk_at "fact")
    (case zgg_InvalidEdit => walk_at "fact")
    (case zcc_InvalidEdit => walk_at "fact")
    (case zcg_InvalidEdit => walk_at "fact")
    (case zct_InvalidEdit => walk_at "fact")
    (case zmo_InvalidEdit => walk_at "fact")
    (case za_InvalidText => walk_at "fact")
    (case zt_InvalidText => walk_at "fact")
    (case zx_InvalidText => walk_at "fact")
    (case zh_InvalidText => walk_at "fact")
    (case zi_InvalidText => walk_at "fact")
    (case zo_InvalidText => walk_at "fact")
    (case zI_InvalidText => walk_at "fact")
    (case zf_InvalidText => walk_at "fact")
    (case zl_InvalidText => walk_at "fact")
    (case zq_InvalidText => walk_at "fact")
    (case zs_InvalidText => walk_at "fact")
    (case zB_InvalidText => walk_at "fact")
    (case zST_InvalidText => walk_at "fact")
    (case zA_InvalidText => walk_at "fact")
    (case zT_InvalidText_offset => walk_at "fact")
    (case zn_InvalidText_offset => walk_at "fact")
    (case zC_InvalidText => walk_at "fact")
    (case zD_InvalidText => walk_at "fact")
    (case zE_InvalidText => walk_at "fact")
    (case zM_InvalidText => walk_at "fact")
    (case zN_InvalidText => walk_at "fact")
    (case zP_InvalidText => walk_at "fact")
    (case zk_InvalidText => walk_at "fact")
    (case zga_InvalidText => walk_at "fact")
    (case zgg_InvalidText => walk_at "fact")
    (case zcc_InvalidText => walk_at "fact")
    (case zcg_InvalidText => walk_at "fact")
    (case zct_InvalidText => walk_at "fact")
    (case zmo_InvalidText => walk_at "fact")
    (case za_Refused => walk_at "fact")
    (case zt_Refused => walk_at "fact")
    (case zx_Refused => walk_at "fact")
    (case zh_Refused => walk_at "fact")
    (case zi_Refused => walk_at "fact")
    (case zo_Refused => walk_at "fact")
    (case zI_Refused => walk_at "fact")
    (case zf_Refused => walk_at "fact")
    (case zl_Refused => walk_at "fact")
    (case zq_Refused => walk_at "fact")
    (case zs_Refused => walk_at "fact")
    (case zB_Refused => walk_at "fact")
    (case zST_Refused => walk_at "fact")
    (case zA_Refused => walk_at "fact")
    (case zT_Refused_offset => walk_at "fact")
    (case zn_Refused_offset => walk_at "fact")
    (case zT_Refused_reason => walk_at "fact")
    (case zn_Refused_reason => walk_at "fact")
    (case zC_Refused => walk_at "fact")
    (case zD_Refused => walk_at "fact")
    (case zE_Refused => walk_at "fact")
    (case zM_Refused => walk_at "fact")
    (case zN_Refused => walk_at "fact")
    (case zP_Refused => walk_at "fact")
    (case zk_Refused => walk_at "fact")
    (case zga_Refused => walk_at "fact")
    (case zgg_Refused => walk_at "fact")
    (case zcc_Refused => walk_at "fact")
    (case zcg_Refused => walk_at "fact")
    (case zct_Refused => walk_at "fact")
    (case zmo_Refused => walk_at "fact")
    (case za_NotCanonical => walk_at "fact")
    (case zt_NotCanonical => walk_at "fact")
    (case zx_NotCanonical => walk_at "fact")
    (case zh_NotCanonical => walk_at "fact")
    (case zi_NotCanonical => walk_at "fact")
    (case zo_NotCanonical => walk_at "fact")
    (case zI_NotCanonical => walk_at "fact")
    (case zf_NotCanonical => walk_at "fact")
    (case zl_NotCanonical => walk_at "fact")
    (case zq_NotCanonical => walk_at "fact")
    (case zs_NotCanonical => walk_at "fact")
    (case zB_NotCanonical => walk_at "fact")
    (case zST_NotCanonical => walk_at "fact")
    (case zA_NotCanonical => walk_at "fact")
    (case zT_NotCanonical_offset => walk_at "fact")
    (case zn_NotCanonical_offset => walk_at "fact")
    (case zC_NotCanonical => walk_at "fact")
    (case zD_NotCanonical => walk_at "fact")
    (case zE_NotCanonical => walk_at "fact")
    (case zM_NotCanonical => walk_at "fact")
    (case zN_NotCanonical => walk_at "fact")
    (case zP_NotCanonical => walk_at "fact")
    (case zk_NotCanonical => walk_at "fact")
    (case zga_NotCanonical => walk_at "fact")
    (case zgg_NotCanonical => walk_at "fact")
    (case zcc_NotCanonical => walk_at "fact")
    (case zcg_NotCanonical => walk_at "fact")
    (case zct_NotCanonical => walk_at "fact")
    (case zmo_NotCanonical => walk_at "fact")
    (case za_StateError => walk_at "fact")
    (case zt_StateError => walk_at "fact")
    (case zx_StateError => walk_at "fact")
    (case zh_StateError => walk_at "fact")
    (case za_TooDeep => walk_at "fact")
    (case zt_TooDeep => walk_at "fact")
    (case zx_TooDeep => walk_at "fact")
    (case zh_TooDeep => walk_at "fact")
    (case zi_TooDeep => walk_at "fact")
    (case zo_TooDeep => walk_at "fact")
    (case zI_TooDeep => walk_at "fact")
    (case zf_TooDeep => walk_at "fact")
    (case zl_TooDeep => walk_at "fact")
    (case zq_TooDeep => walk_at "fact")
    (case zs_TooDeep => walk_at "fact")
    (case zB_TooDeep => walk_at "fact")
    (case zST_TooDeep => walk_at "fact")
    (case zA_TooDeep => walk_at "fact")
    (case zT_TooDeep_limit => walk_at "fact")
    (case zn_TooDeep_limit => walk_at "fact")
    (case zC_TooDeep => walk_at "fact")
    (case zD_TooDeep => walk_at "fact")
    (case zE_TooDeep => walk_at "fact")
    (case zM_TooDeep => walk_at "fact")
    (case zN_TooDeep => walk_at "fact")
    (case zP_TooDeep => walk_at "fact")
    (case zk_TooDeep => walk_at "fact")
    (case zga_TooDeep => walk_at "fact")
    (case zgg_TooDeep => walk_at "fact")
    (case zcc_TooDeep => walk_at "fact")
    (case zcg_TooDeep => walk_at "fact")
    (case zct_TooDeep => walk_at "fact")
    (case zmo_TooDeep => walk_at "fact")
    (case za_TooLong => walk_at "fact")
    (case zt_TooLong => walk_at "fact")
    (case zx_TooLong => walk_at "fact")
    (case zh_TooLong => walk_at "fact")
    (case zi_TooLong => walk_at "fact")
    (case zo_TooLong => walk_at "fact")
    (case zI_TooLong => walk_at "fact")
    (case zf_TooLong => walk_at "fact")
    (case zl_TooLong => walk_at "fact")
    (case zq_TooLong => walk_at "fact")
    (case zs_TooLong => walk_at "fact")
    (case zB_TooLong => walk_at "fact")
    (case zST_TooLong => walk_at "fact")
    (case zA_TooLong => walk_at "fact")
    (case zT_TooLong_limit => walk_at "fact")
    (case zn_TooLong_limit => walk_at "fact")
    (case zC_TooLong => walk_at "fact")
    (case zD_TooLong => walk_at "fact")
    (case zE_TooLong => walk_at "fact")
    (case zM_TooLong => walk_at "fact")
    (case zN_TooLong => walk_at "fact")
    (case zP_TooLong => walk_at "fact")
    (case zk_TooLong => walk_at "fact")
    (case zga_TooLong => walk_at "fact")
    (case zgg_TooLong => walk_at "fact")
    (case zcc_TooLong => walk_at "fact")
    (case zcg_TooLong => walk_at "fact")
    (case zct_TooLong => walk_at "fact")
    (case zmo_TooLong => walk_at "fact")
    (case za_SelfArgument => walk_at "fact")
    (case zt_SelfArgument => walk_at "fact")
    (case zx_SelfArgument => walk_at "fact")
    (case zh_SelfArgument => walk_at "fact")
    (case zi_SelfArgument => walk_at "fact")
    (case zo_SelfArgument => walk_at "fact")
    (case zI_SelfArgument => walk_at "fact")
    (case zf_SelfArgument => walk_at "fact")
    (case zl_SelfArgument => walk_at "fact")
    (case zq_SelfArgument => walk_at "fact")
    (case zs_SelfArgument => walk_at "fact")
    (case zB_SelfArgument => walk_at "fact")
    (case zST_SelfArgument => walk_at "fact")
    (case zA_SelfArgument => walk_at "fact")
    (case zT_SelfArgument_given => walk_at "fact")
    (case zn_SelfArgument_given => walk_at "fact")
    (case zC_SelfArgument => walk_at "fact")
    (case zD_SelfArgument => walk_at "fact")
    (case zE_SelfArgument => walk_at "fact")
    (case zM_SelfArgument => walk_at "fact")
    (case zN_SelfArgument => walk_at "fact")
    (case zP_SelfArgument => walk_at "fact")
    (case zk_SelfArgument => walk_at "fact")
    (case zga_SelfArgument => walk_at "fact")
    (case zgg_SelfArgument => walk_at "fact")
    (case zcc_SelfArgument => walk_at "fact")
    (case zcg_SelfArgument => walk_at "fact")
    (case zct_SelfArgument => walk_at "fact")
    (case zmo_SelfArgument => walk_at "fact")
    (case za_KeyTaken => walk_at "fact")
    (case zt_KeyTaken => walk_at "fact")
    (case zx_KeyTaken => walk_at "fact")
    (case zh_KeyTaken => walk_at "fact")
    (case zi_KeyTaken => walk_at "fact")
    (case zo_KeyTaken => walk_at "fact")
    (case zI_KeyTaken => walk_at "fact")
    (case zf_KeyTaken => walk_at "fact")
    (case zl_KeyTaken => walk_at "fact")
    (case zq_KeyTaken => walk_at "fact")
    (case zs_KeyTaken => walk_at "fact")
    (case zB_KeyTaken => walk_at "fact")
    (case zST_KeyTaken => walk_at "fact")
    (case zA_KeyTaken => walk_at "fact")
    (case zT_KeyTaken_key => walk_at "fact")
    (case zn_KeyTaken_key => walk_at "fact")
    (case zC_KeyTaken => walk_at "fact")
    (case zD_KeyTaken => walk_at "fact")
    (case zE_KeyTaken => walk_at "fact")
    (case zM_KeyTaken => walk_at "fact")
    (case zN_KeyTaken => walk_at "fact")
    (case zP_KeyTaken => walk_at "fact")
    (case zk_KeyTaken => walk_at "fact")
    (case zga_KeyTaken => walk_at "fact")
    (case zgg_KeyTaken => walk_at "fact")
    (case zcc_KeyTaken => walk_at "fact")
    (case zcg_KeyTaken => walk_at "fact")
    (case zct_KeyTaken => walk_at "fact")
    (case zmo_KeyTaken => walk_at "fact")
    (case za_BrandTaken => walk_at "fact")
    (case zt_BrandTaken => walk_at "fact")
    (case zx_BrandTaken => walk_at "fact")
    (case zh_BrandTaken => walk_at "fact")
    (case zi_BrandTaken => walk_at "fact")
    (case zo_BrandTaken => walk_at "fact")
    (case zI_BrandTaken => walk_at "fact")
    (case zf_BrandTaken => walk_at "fact")
    (case zl_BrandTaken => walk_at "fact")
    (case zq_BrandTaken => walk_at "fact")
    (case zs_BrandTaken => walk_at "fact")
    (case zB_BrandTaken => walk_at "fact")
    (case zST_BrandTaken => walk_at "fact")
    (case zA_BrandTaken => walk_at "fact")
    (case zT_BrandTaken_given => walk_at "fact")
    (case zn_BrandTaken_given => walk_at "fact")
    (case zC_BrandTaken => walk_at "fact")
    (case zD_BrandTaken => walk_at "fact")
    (case zE_BrandTaken => walk_at "fact")
    (case zM_BrandTaken => walk_at "fact")
    (case zN_BrandTaken => walk_at "fact")
    (case zP_BrandTaken => walk_at "fact")
    (case zk_BrandTaken => walk_at "fact")
    (case zga_BrandTaken => walk_at "fact")
    (case zgg_BrandTaken => walk_at "fact")
    (case zcc_BrandTaken => walk_at "fact")
    (case zcg_BrandTaken => walk_at "fact")
    (case zct_BrandTaken => walk_at "fact")
    (case zmo_BrandTaken => walk_at "fact")
    (case za_Full => walk_at "fact")
    (case zt_Full => walk_at "fact")
    (case zx_Full => walk_at "fact")
    (case zh_Full => walk_at "fact")
    (case zi_Full => walk_at "fact")
    (case zo_Full => walk_at "fact")
    (case zI_Full => walk_at "fact")
    (case zf_Full => walk_at "fact")
    (case zl_Full => walk_at "fact")
    (case zq_Full => walk_at "fact")
    (case zs_Full => walk_at "fact")
    (case zB_Full => walk_at "fact")
    (case zST_Full => walk_at "fact")
    (case zA_Full => walk_at "fact")
    (case zT_Full_limit => walk_at "fact")
    (case zn_Full_limit => walk_at "fact")
    (case zC_Full => walk_at "fact")
    (case zD_Full => walk_at "fact")
    (case zE_Full => walk_at "fact")
    (case zM_Full => walk_at "fact")
    (case zN_Full => walk_at "fact")
    (case zP_Full => walk_at "fact")
    (case zk_Full => walk_at "fact")
    (case zga_Full => walk_at "fact")
    (case zgg_Full => walk_at "fact")
    (case zcc_Full => walk_at "fact")
    (case zcg_Full => walk_at "fact")
    (case zct_Full => walk_at "fact")
    (case zmo_Full => walk_at "fact")
    (case za_MissingError => walk_at "fact")
    (case zt_MissingError => walk_at "fact")
    (case zx_MissingError => walk_at "fact")
    (case zh_MissingError => walk_at "fact")
    (case za_UnknownBrand => walk_at "fact")
    (case zt_UnknownBrand => walk_at "fact")
    (case zx_UnknownBrand => walk_at "fact")
    (case zh_UnknownBrand => walk_at "fact")
    (case zi_UnknownBrand => walk_at "fact")
    (case zo_UnknownBrand => walk_at "fact")
    (case zI_UnknownBrand => walk_at "fact")
    (case zf_UnknownBrand => walk_at "fact")
    (case zl_UnknownBrand => walk_at "fact")
    (case zq_UnknownBrand => walk_at "fact")
    (case zs_UnknownBrand => walk_at "fact")
    (case zB_UnknownBrand => walk_at "fact")
    (case zST_UnknownBrand => walk_at "fact")
    (case zA_UnknownBrand => walk_at "fact")
    (case zT_UnknownBrand_given => walk_at "fact")
    (case zn_UnknownBrand_given => walk_at "fact")
    (case zC_UnknownBrand => walk_at "fact")
    (case zD_UnknownBrand => walk_at "fact")
    (case zE_UnknownBrand => walk_at "fact")
    (case zM_UnknownBrand => walk_at "fact")
    (case zN_UnknownBrand => walk_at "fact")
    (case zP_UnknownBrand => walk_at "fact")
    (case zk_UnknownBrand => walk_at "fact")
    (case zga_UnknownBrand => walk_at "fact")
    (case zgg_UnknownBrand => walk_at "fact")
    (case zcc_UnknownBrand => walk_at "fact")
    (case zcg_UnknownBrand => walk_at "fact")
    (case zct_UnknownBrand => walk_at "fact")
    (case zmo_UnknownBrand => walk_at "fact")
    (case za_NoEntry => walk_at "fact")
    (case zt_NoEntry => walk_at "fact")
    (case zx_NoEntry => walk_at "fact")
    (case zh_NoEntry => walk_at "fact")
    (case zi_NoEntry => walk_at "fact")
    (case zo_NoEntry => walk_at "fact")
    (case zI_NoEntry => walk_at "fact")
    (case zf_NoEntry => walk_at "fact")
    (case zl_NoEntry => walk_at "fact")
    (case zq_NoEntry => walk_at "fact")
    (case zs_NoEntry => walk_at "fact")
    (case zB_NoEntry => walk_at "fact")
    (case zST_NoEntry => walk_at "fact")
    (case zA_NoEntry => walk_at "fact")
    (case zT_NoEntry_key => walk_at "fact")
    (case zn_NoEntry_key => walk_at "fact")
    (case zC_NoEntry => walk_at "fact")
    (case zD_NoEntry => walk_at "fact")
    (case zE_NoEntry => walk_at "fact")
    (case zM_NoEntry => walk_at "fact")
    (case zN_NoEntry => walk_at "fact")
    (case zP_NoEntry => walk_at "fact")
    (case zk_NoEntry => walk_at "fact")
    (case zga_NoEntry => walk_at "fact")
    (case zgg_NoEntry => walk_at "fact")
    (case zcc_NoEntry => walk_at "fact")
    (case zcg_NoEntry => walk_at "fact")
    (case zct_NoEntry => walk_at "fact")
    (case zmo_NoEntry => walk_at "fact")
    (case za_NoName => walk_at "fact")
    (case zt_NoName => walk_at "fact")
    (case zx_NoName => walk_at "fact")
    (case zh_NoName => walk_at "fact")
    (case zi_NoName => walk_at "fact")
    (case zo_NoName => walk_at "fact")
    (case zI_NoName => walk_at "fact")
    (case zf_NoName => walk_at "fact")
    (case zl_NoName => walk_at "fact")
    (case zq_NoName => walk_at "fact")
    (case zs_NoName => walk_at "fact")
    (case zB_NoName => walk_at "fact")
    (case zST_NoName => walk_at "fact")
    (case zA_NoName => walk_at "fact")
    (case zT_NoName_given => walk_at "fact")
    (case zn_NoName_given => walk_at "fact")
    (case zC_NoName => walk_at "fact")
    (case zD_NoName => walk_at "fact")
    (case zE_NoName => walk_at "fact")
    (case zM_NoName => walk_at "fact")
    (case zN_NoName => walk_at "fact")
    (case zP_NoName => walk_at "fact")
    (case zk_NoName => walk_at "fact")
    (case zga_NoName => walk_at "fact")
    (case zgg_NoName => walk_at "fact")
    (case zcc_NoName => walk_at "fact")
    (case zcg_NoName => walk_at "fact")
    (case zct_NoName => walk_at "fact")
    (case zmo_NoName => walk_at "fact")
    (case za_NothingToUndo => walk_at "fact")
    (case zt_NothingToUndo => walk_at "fact")
    (case zx_NothingToUndo => walk_at "fact")
    (case zh_NothingToUndo => walk_at "fact")
    (case zi_NothingToUndo => walk_at "fact")
    (case zo_NothingToUndo => walk_at "fact")
    (case zI_NothingToUndo => walk_at "fact")
    (case zf_NothingToUndo => walk_at "fact")
    (case zl_NothingToUndo => walk_at "fact")
    (case zq_NothingToUndo => walk_at "fact")
    (case zs_NothingToUndo => walk_at "fact")
    (case zB_NothingToUndo => walk_at "fact")
    (case zST_NothingToUndo => walk_at "fact")
    (case zA_NothingToUndo => walk_at "fact")
    (case zT_NothingToUndo_count => walk_at "fact")
    (case zn_NothingToUndo_count => walk_at "fact")
    (case zC_NothingToUndo => walk_at "fact")
    (case zD_NothingToUndo => walk_at "fact")
    (case zE_NothingToUndo => walk_at "fact")
    (case zM_NothingToUndo => walk_at "fact")
    (case zN_NothingToUndo => walk_at "fact")
    (case zP_NothingToUndo => walk_at "fact")
    (case zk_NothingToUndo => walk_at "fact")
    (case zga_NothingToUndo => walk_at "fact")
    (case zgg_NothingToUndo => walk_at "fact")
    (case zcc_NothingToUndo => walk_at "fact")
    (case zcg_NothingToUndo => walk_at "fact")
    (case zct_NothingToUndo => walk_at "fact")
    (case zmo_NothingToUndo => walk_at "fact")
    (case zz_uAll => walk_at "fact")
    (case zz_fJarError => walk_at "fact")
    (case zz_fStateError => walk_at "fact")
    (case zz_fMissingError => walk_at "fact")
    (case zz_fValueError => walk_at "fact")
    (case zz_fRuntimeError => walk_at "fact")
    (case zz_fLookupError => walk_at "fact")
    (case zz_fKeyError => walk_at "fact")
    (case zz_fIndexError => walk_at "fact")
    (case zz_fNotImplementedError => walk_at "fact")
