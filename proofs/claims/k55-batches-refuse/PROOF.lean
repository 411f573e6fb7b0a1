import PyProof.Rows.All
import Wide.All
import OpenK.AllK
import Wide.FinOn
import HandS.ForMost
import HandS.Exc
import HandS.ExcOwn
import KE.KExcSuper
import HandS.ExcInit
import KE.KTryMore
import KE.KExcHand
import HandS.TryOnly
import KE.KExcIs
import HandS.IsInst
import PyProof.ReprRoads
import PyProof.CallFns
import HandS.TupMul
import KE.GoesMore
import KE.GoesEnum
import HandS.AnyAll
import HandS.EndBits
import HandS.Evl
import HandS.Walk
import HandS.Zip
import PyProof.ReprBulk
import HandS.Replace
import HandS.ExcValue
import HandS.SetFor
import HandS.Style
import HandS.Lambda
import HandS.EndTab
import HandS.WordsExc
import HandS.WrittenGet
import HandS.ReplaceLit
import HandS.ReplaceDef
import HandS.Conv
import HandS.Star
import HandS.ClsMeth
import HandS.Property
import HandS.Defaults
import HandS.MethStar
import HandS.GenList
import HandS.GenYield
import HandS.OwnEq
import HandS.SortInts
import HandS.TupAny
import HandS.DictComp
import HandS.DeepEq
import HandS.GenCall
import HandS.ListItems
import KE.KDictMeth
import HandS.Strs
import KE.OsRunLaw
import HandS.Head2
import KE.KNestM
import KE.KWithOwn
import HandS.Zip0
import PyProof.Draws
import PyProof.EnumMake
import KE.OsRunLaw
import PySem.Challenge.RW_brinejar_k55_batches_refuse
set_option Elab.async false
set_option linter.all false
set_option maxRecDepth 100000
set_option maxHeartbeats 4000000
/-! calls whose Around has no guards (no repr is running): promises, the rule for a def, the rules for calls -/
namespace BJ
open PySem PySem.Spec PyProof.Rows L2

/-- the promise of a def, for callers that no repr surrounds -/
structure FnG (P : Program) (w : World) (K : PySem.W.Frag) (mg : Str → Option Value) (base : Heap)
    (k : Nat) (f : Addr) (fd : FuncData) (ps : List Str) (sp : Sp) : Prop where
  len : ∀ vs H Q E, sp vs H Q E → vs.length = ps.length
  run : ∀ (A : Around) (outer : List Env) (s : Shared) (H : Hp) (args : Args) (us : List Value) (vs : List V) (Q : VK) (E : XK),
    Room k A → A.guards = some [] → Env0 P w K mg base A outer s H → BindsTo s fd args (ps.zip us) → Vals vs us →
    sp vs H Q E → codeAny (model P w) A (.call (.ref f) args) (CR (L2.CX P w) outer P w H s Q E) s

section
variable {P : Program} {w : World} {K : PySem.W.Frag} {mg : Str → Option Value} {base : Heap}
theorem FnG.mono {j k : Nat} {f : Addr} {fd : FuncData} {ps : List Str} {sp : Sp}
    (F : FnG P w K mg base j f fd ps sp) (h : j ≤ k) : FnG P w K mg base k f fd ps sp :=
  ⟨F.len, fun A o s H a us vs Q E hr => F.run A o s H a us vs Q E (hr.mono h)⟩

/-- the rule for a def -/
theorem fnG_of {k : Nat} {f : Addr} {name qual : Str} {params : Arguments} {body : List Stmt} {scope : Scope}
    {dV kV doc pm cdv ct oc : Value} {an od : Option Addr} {osl : Array (Option Value)} {N ps : List Str} {sp : Sp}
    (lk : K.lookup f = some ⟨oc, od, .func (PySem.W.fnOf name qual params body scope dV kV doc pm an cdv ct), osl⟩)
    (hcd : PySem.W.codeIn K cdv qual = true) (S : FnScope N ps scope)
    (len : ∀ vs H Q E, sp vs H Q E → vs.length = ps.length)
    (hbody : ∀ (A : Around) (outer : List Env) (s : Shared) (H : Hp) (vs : List V) (Q : VK) (E : XK),
      Room k (A.deeper (envOfC qual scope s.heap.objs.size f cdv)) → A.guards = some [] → sp vs H Q E →
      ∃ t, PSs (cxOf (L2.CX P w) P w K mg base N qual scope f cdv A outer s H E) body t ∧
        t { nx := fun _ H' => Q .non H', rt := Q } (start N vs) H) :
    FnG P w K mg base (k + 1) f (PySem.W.fnOf name qual params body scope dV kV doc pm an cdv ct) ps sp where
  len := len
  run := by
    intro A outer s H args us vs Q E room hg e0 bnd rel prom
    have KX : K.In s.heap := e0.mod.kin.keeps fun b o e => (e0.bs b o e).1
    have nl : s.heap.NoLimit := e0.mod.nolimit.keeps fun b o e => (e0.bs b o e).1
    have kinds : ∀ y ∈ ps.zip us, scope.names.lookup y.1 = some .local ∨
        (scope.names.lookup y.1 = some .cell ∧ ((cellsFrom (s.heap.objs.size + 1) scope.names []).lookup y.1).isSome = true) := by
      rintro ⟨n, v⟩ hy
      rcases S.par n (List.of_mem_zip hy).1 with q | q
      · exact .inl q
      · exact .inr ⟨q, PySem.W.cellsFrom_some _ _ _ (.inl q)⟩
    refine codeAny_call_function room.depth (KX _ _ lk) rfl S.co S.gen rfl (PySem.W.codeRec_of KX hcd) (bnd _ _ _ _ ?_)
    refine wpAny_newFunctionEnv_cells S.kind kinds fun env he s1 x => ?_
    subst he
    obtain ⟨t, ht, hq⟩ := hbody A outer s H vs Q E (room.deeper _) hg prom
    have I := inv_start (CX := L2.CX P w) (E := E) (cd := cdv) (f := f) (qual := qual) S room.hd e0 (len _ _ _ _ prom) rel x
    refine ⟨nl.keeps x.toInCall.keep, codeAny_func (wpAny_mono (ht.run [] s1 _ H _ I hq) (fun fl s' hs => ?_) fun e s' hs => hs)⟩
    match fl, hs with
    | .ret u, ⟨v, σ', H', J, rv, q⟩ => exact ⟨v, H', J.os, J.bare, J.base, J.hok, rv, q⟩
    | .next, ⟨σ', H', J, q⟩ => exact ⟨V.non, H', J.os, J.bare, J.base, J.hok, rfl, q⟩
    | .brk, ⟨_, _, _, q⟩ => exact q.elim
    | .cont, ⟨_, _, _, q⟩ => exact q.elim
end

/-- a value that may be called with positional values and the keywords ks: u (a def, a class) -/
def CallG (P : Program) (w : World) (K : PySem.W.Frag) (mg : Str → Option Value) (base : Heap) (k : Nat) (u : Value)
    (ks : List Str) (sp : List V → List V → Hp → VK → XK → Prop) : Prop :=
  ∀ (A : Around) (outer : List Env) (s : Shared) (H : Hp) (us ws : List Value) (vs zs : List V) (Q : VK) (E : XK),
    Room k A → A.guards = some [] → Env0 P w K mg base A outer s H → Vals vs us → Vals zs ws → sp vs zs H Q E →
    codeAny (model P w) A (.call u ⟨us, ks.zip ws⟩) (CR (L2.CX P w) outer P w H s Q E) s
/-- .. no keywords -/
abbrev CallP (P : Program) (w : World) (K : PySem.W.Frag) (mg : Str → Option Value) (base : Heap) (k : Nat) (u : Value) (sp : Sp) : Prop :=
  CallG P w K mg base k u [] fun vs zs H Q E => zs = [] ∧ sp vs H Q E

section
variable {P : Program} {w : World} {K : PySem.W.Frag} {mg : Str → Option Value} {base : Heap}
theorem CallG.mono {j k : Nat} {u : Value} {ks : List Str} {sp : List V → List V → Hp → VK → XK → Prop}
    (F : CallG P w K mg base j u ks sp) (h : j ≤ k) : CallG P w K mg base k u ks sp :=
  fun A o s H us ws vs zs Q E hr => F A o s H us ws vs zs Q E (hr.mono h)
/-- a def, positional values (the defaults ds behind them) -/
theorem FnG.callP {k : Nat} {f : Addr} {fd : FuncData} {ps : List Str} {sp : Sp} {ds : List Value} {dvs : List V}
    (F : FnG P w K mg base k f fd ps sp) (hb : Binds K fd ps ds) (hd : Vals dvs ds) :
    CallP P w K mg base k (.ref f) fun vs H Q E => sp (vs ++ dvs) H Q E := by
  rintro A outer s H us ws vs zs Q E room hg e0 rel relz ⟨rfl, prom⟩
  cases relz
  have r2 : Vals (vs ++ dvs) (us ++ ds) := rel.append hd
  have hl : (us ++ ds).length = ps.length := r2.length.symm.trans (F.len _ _ _ _ prom)
  have KX : K.In s.heap := e0.mod.kin.keeps fun b o e => (e0.bs b o e).1
  exact F.run A outer s H ⟨us, []⟩ (us ++ ds) (vs ++ dvs) Q E room hg e0 (hb s us KX hl) r2 prom
/-- .. with keywords -/
theorem FnG.callK {k : Nat} {f : Addr} {fd : FuncData} {ps ks : List Str} {sp : Sp}
    {g : List Value → List Value → List Value} {gV : List V → List V → List V} (F : FnG P w K mg base k f fd ps sp)
    (hb : KBinds K fd ps ks g gV) : CallG P w K mg base k (.ref f) ks fun vs zs H Q E => sp (gV vs zs) H Q E := by
  intro A outer s H us ws vs zs Q E room hg e0 rel relz prom
  have r2 := hb.rel rel relz
  have hl : (g us ws).length = ps.length := r2.length.symm.trans (F.len _ _ _ _ prom)
  have KX : K.In s.heap := e0.mod.kin.keeps fun b o e => (e0.bs b o e).1
  exact F.run A outer s H ⟨us, ks.zip ws⟩ (g us ws) (gV vs zs) Q E room hg e0 (hb.to s us ws KX hl) r2 prom
end

/-! ### the rules -/
section
variable {X : Cx} {k : Nat} {u : Value} {ks : List Str} {sp : Sp} {spk : List V → List V → Hp → VK → XK → Prop} {W : WX}
  {x m : Str} {p pos apos : Pos} {e o : Expr} {es : List Expr} {kws : List Keyword} {ta : TE} {t tk : TA}
/-- nothing that is raised is taken -/
theorem tkN : Takes X (fun _ _ _ _ => False) := fun _ _ ⟨_, _, _, _, _, _, _, _, _, _, _, _, _, _, _, _, q⟩ => q.elim

theorem run_callG {pins : List (Addr × Obj)} {σ : L2.St} {H : Hp} {s : Shared} {Q : VK} {us ws : List Value} {vs zs : List V}
    (F : CallG X.prog X.w X.K X.mg X.base k u ks spk) (hr : Room k X.A) (hG : X.A.guards = some []) (tkW : Takes X W)
    (I : Inv X pins σ H s) (r : Vals vs us) (rz : Vals zs ws) (h : spk vs zs H Q fun cls d H' => W cls d σ H') :
    wpAny (model X.prog X.w) X.A (call u us (ks.zip ws)) (EP X pins σ Q) X.xe s := by
  refine wpAny_call (codeAny_mono (F X.A X.stack s H us ws vs zs Q _ hr hG I.env0 r rz h) ?_)
  intro res s' hq
  match res, hq with
  | .error e, hq => exact tkW e s' (XE.of_call I (fun _ _ _ z => z) hq)
  | .ok (.ret u), hq => exact I.after hq

/-- f(e, ..) -/
def tCa (sp : Sp) (W : WX) (t : TA) : TE := fun σ H Q => t σ H fun vs H1 => sp vs H1 Q fun cls d H' => W cls d σ H'
theorem pe_ca (F : CallP X.prog X.w X.K X.mg X.base k u sp) (hr : Room k X.A) (hG : X.A.guards = some []) (hg : Gl X x) (hm : X.mg x = some u)
    (hk : PySem.W.keepIn X.K u = true) (tkW : Takes X W) (ha : PA X (e :: es) t) (hdb : (x == ("__debug__" : Str)) = false := by decide)
    (he : starEach (e :: es) X.env = (false, eval e X.env) :: starEach es X.env := by rfl)
    (hpl : (backTo pos (starEach es X.env)).any (·.1) = false := by rfl) : PE X (.Call (.Name x p) (e :: es) [] pos) (tCa sp W t) where
  run := by
    intro pins s σ H Q I h
    refine wpAny_Call_Name_kw (ld_glob I hg hm ?_ hdb)
    refine PySem.W.callWith_K (h₀ := X.base) I.ok.mod.kin hk (thn (ha.run pos pins s σ H _ I h) ?_) he hpl
    rintro us s1 ⟨vs, H1, I1, r, q⟩
    exact ⟨I1.kIn, run_callG (ws := []) (zs := []) F hr hG tkW I1 r .nil ⟨rfl, q⟩⟩
theorem pe_ca0 (F : CallP X.prog X.w X.K X.mg X.base k u sp) (hr : Room k X.A) (hG : X.A.guards = some []) (hg : Gl X x) (hm : X.mg x = some u)
    (hk : PySem.W.keepIn X.K u = true) (tkW : Takes X W) (hdb : (x == ("__debug__" : Str)) = false := by decide) :
    PE X (.Call (.Name x p) [] [] pos) (tCa sp W tNil) where
  run := by
    intro pins s σ H Q I h
    refine wpAny_Call_Name_kw (ld_glob I hg hm ?_ hdb)
    exact PySem.W.callWith_K0 I.kIn hk (run_callG (us := []) (vs := []) (ws := []) (zs := []) F hr hG tkW I .nil .nil ⟨rfl, h⟩)
/-- f(e, .., k = v, ..) -/
def tCaK (sp : List V → List V → Hp → VK → XK → Prop) (W : WX) (t tk : TA) : TE := fun σ H Q =>
  t σ H fun vs H1 => tk σ H1 fun zs H2 => sp vs zs H2 Q fun cls d H' => W cls d σ H'
theorem pe_caK (F : CallG X.prog X.w X.K X.mg X.base k u ks spk) (hr : Room k X.A) (hG : X.A.guards = some []) (hg : Gl X x) (hm : X.mg x = some u)
    (hk : PySem.W.keepIn X.K u = true) (tkW : Takes X W) (ha : PA X (e :: es) t) (hkw : PK X kws tk)
    (hall : (backToKw pos (keywordEach kws X.env)).all (·.1.isSome) = true := by rfl) (hks : (backToKw pos (keywordEach kws X.env)).filterMap (·.1) = ks := by rfl)
    (hdb : (x == ("__debug__" : Str)) = false := by decide) (he : starEach (e :: es) X.env = (false, eval e X.env) :: starEach es X.env := by rfl)
    (hpl : ((backTo pos (starEach (e :: es) X.env)).any (·.1) || (backToKw pos (keywordEach kws X.env)).any (·.1.isNone)) = false := by rfl) :
    PE X (.Call (.Name x p) (e :: es) kws pos) (tCaK spk W t tk) where
  run := by
    intro pins s σ H Q I h
    refine wpAny_Call_Name_kw (ld_glob I hg hm ?_ hdb)
    refine PySem.W.callWith_KW (h₀ := X.base) I.ok.mod.kin hk hall (thn (ha.run pos pins s σ H _ I h) ?_) hpl he
    rintro us s1 ⟨vs, H1, I1, r, q⟩
    refine thn (hkw.run pos pins s1 σ H1 _ I1 q) ?_
    rintro ws s2 ⟨zs, H2, I2, rz, q2⟩
    rw [hks]
    exact ⟨I2.kIn, run_callG F hr hG tkW I2 r rz q2⟩
/-- f(k = v, ..) -/
theorem pe_caK0 (F : CallG X.prog X.w X.K X.mg X.base k u ks spk) (hr : Room k X.A) (hG : X.A.guards = some []) (hg : Gl X x) (hm : X.mg x = some u)
    (hk : PySem.W.keepIn X.K u = true) (tkW : Takes X W) (hkw : PK X kws tk)
    (hall : (backToKw pos (keywordEach kws X.env)).all (·.1.isSome) = true := by rfl) (hks : (backToKw pos (keywordEach kws X.env)).filterMap (·.1) = ks := by rfl)
    (hdb : (x == ("__debug__" : Str)) = false := by decide)
    (hpl : ((backTo pos (starEach [] X.env)).any (·.1) || (backToKw pos (keywordEach kws X.env)).any (·.1.isNone)) = false := by rfl) :
    PE X (.Call (.Name x p) [] kws pos) (tCaK spk W tNil tk) where
  run := by
    intro pins s σ H Q I h
    refine wpAny_Call_Name_kw (ld_glob I hg hm ?_ hdb)
    refine PySem.W.callWith_KW0 (h₀ := X.base) I.ok.mod.kin hk hall (thn (hkw.run pos pins s σ H _ I h) ?_) hpl
    rintro ws s2 ⟨zs, H2, I2, rz, q2⟩
    rw [hks]
    exact ⟨I2.kIn, run_callG (us := []) (vs := []) F hr hG tkW I2 .nil rz q2⟩
end
end BJ

/-! own exception classes over a family over a built-in class; __init__(self, f, ..): super().__init__(text); self.f = f; .. -/
namespace BJ
open PySem PySem.Spec PyProof.Rows L2 Builtin Builtin.ObjectAttr
open PySem.W (Looks Frag findIn subIn nsIn typeIn keepIn codeIn hasDictIn clsIn takerIn excInitIn excOver excObj KxsFacts ksFn ksEnv ks_superIn isFn looks_findIn looks_clsIn InstAt kxs_mw)

/-- the built-in class at the end -/
structure Fam (B initId newId : String) (bm : List Value) : Prop where
  FB : ExcBaseFacts B newId initId bm
  SF : StoreFacts B bm "object.__setattr__" "object"
  KF : KxsFacts B initId
theorem famV : Fam "ValueError" "ValueError.__init__" "ValueError.__new__" [.type "ValueError", .type "Exception", .type "BaseException", .type "object"] := ⟨F.excBase_ValueError, F.store_ValueError, PySem.W.kxs_ValueError⟩
theorem famR : Fam "RuntimeError" "RuntimeError.__init__" "RuntimeError.__new__" [.type "RuntimeError", .type "Exception", .type "BaseException", .type "object"] :=
  ⟨F.excBase_RuntimeError, F.store_RuntimeError, PySem.W.kxs_RuntimeError⟩
theorem famL : Fam "LookupError" "LookupError.__init__" "LookupError.__new__" [.type "LookupError", .type "Exception", .type "BaseException", .type "object"] :=
  ⟨F.excBase_LookupError, F.store_LookupError, PySem.W.kxs_LookupError⟩

section
variable {prog : Program} {w : World} {M : Model} {A : Around} {E : Value → Shared → Prop} {R : Result → Shared → Prop} {hp : Heap} {g : Array GenState} {d : Drawn} {t : Nat} {os : OsState}
  {B initId newId : String} {bm : List Value} {K : Frag} {C x : Addr} {name : Str} {v : Value}
/-- the first field of a fresh exception: its dict is made -/
theorem errset_new {t0 : Addr} {Q : Unit → Shared → Prop} (FA : Fam B initId newId bm) (X : K.In hp) (hx : hp.get? x = some (excObj C t0 none .none))
    (ov : excOver K C bm = true) (hd : hasDictIn K C = true) (tk : takerIn K C name = some none)
    (sa : findIn K (.ref C) "__setattr__" = some (some (.builtin "object.__setattr__")))
    (hq : ∀ h' tk' dx, (∀ b o, b ≠ x → hp.get? b = some o → h'.get? b = some o) → hp.objs.size ≤ dx → dx ≠ x →
      h'.get? x = some (excObj C t0 (some dx) .none) → h'.Ns1 dx (fun y => if y = name then some v else none) → Q () ⟨h', g, d, tk', os⟩) :
    wpAny (model prog w) A (setAttr (.ref x) name v) Q E ⟨hp, g, d, t, os⟩ := by
  have I : InstAt hp x (excObj C t0 none .none) C none := ⟨hx, rfl, rfl, trivial⟩
  have hxs : x ≠ hp.objs.size := Nat.ne_of_lt (Heap.lt_size hx)
  obtain ⟨cd, hcd, hh⟩ : ∃ cd, clsIn K C = some cd ∧ cd.hasDict = true := by
    have z : (clsIn K C).any (·.hasDict) = true := hd
    cases e : clsIn K C with
    | none => rw [e] at z; cases z
    | some cd => rw [e] at z; exact ⟨cd, rfl, z⟩
  have hcls : Looks (model prog w) hp (classData C) cd := looks_clsIn X hcd
  obtain ⟨nm, bs, mro, ns, qn, hdd, sn, sb, ab, col, del⟩ := cd
  dsimp only at hh
  subst hh
  refine PySem.W.set_plain X I sa (PySem.W.osa_openX FA.SF X I ov tk fun b => ?_)
  show wpAny _ _ (storeInOwnDict (.ref x) (.ref C) (.str name t) name v b) _ _ _
  unfold storeInOwnDict ownDictForStores
  repeat (first
    | with_reducible refine HandSPX.store_in_new ?_ ?_
    | with_reducible refine wpAny_loadPart_at hx ?_
    | with_reducible refine hcls.at ?_
    | wp_step)
  · exact ⟨_, #[], _, (Heap.get?_update_ne _ _ _ _ hxs.symm).trans (Heap.get?_push_at rfl rfl), rfl, fun e he => absurd he (by simp), fun _ => rfl⟩
  · intro h' tk' hn' hs
    have hx₁ : (hp.push { cls := .type "dict", data := .dict #[] }).get? x = some (excObj C t0 none .none) := Heap.get?_push_of_some _ hx
    refine hq h' tk' hp.objs.size (fun b o hb ho => ?_) (Nat.le_refl _) hxs.symm ?_ hn'
    · exact (hs.2 b (Nat.ne_of_lt (Heap.lt_size ho))).trans ((Heap.get?_update_ne _ _ _ _ hb).trans (Heap.get?_push_of_some _ ho))
    · exact (hs.2 x hxs).trans (Heap.get?_update_self _ hx₁ rfl)
/-- a further field -/
theorem errset_old {t0 dx : Addr} {m0 : Str → Option Value} {nl : List Str} {Q : Unit → Shared → Prop} (FA : Fam B initId newId bm) (X : K.In hp)
    (hx : hp.get? x = some (excObj C t0 (some dx) .none)) (hns : hp.Ns1 dx m0) (hw : Within m0 nl) (hz : nl.length ≤ 1000)
    (ov : excOver K C bm = true) (hd : hasDictIn K C = true) (tk : takerIn K C name = some none)
    (sa : findIn K (.ref C) "__setattr__" = some (some (.builtin "object.__setattr__")))
    (hq : ∀ h' tk', (∀ b o, b ≠ dx → hp.get? b = some o → h'.get? b = some o) → h'.Ns1 dx (fun y => if y = name then some v else m0 y) → Q () ⟨h', g, d, tk', os⟩) :
    wpAny (model prog w) A (setAttr (.ref x) name v) Q E ⟨hp, g, d, t, os⟩ := by
  obtain ⟨oD, esD, epD, hoD, hdD, _⟩ := hns.count hw
  have I : InstAt hp x (excObj C t0 (some dx) .none) C (some oD) := ⟨hx, rfl, rfl, hoD⟩
  obtain ⟨cd, hcd, hh⟩ : ∃ cd, clsIn K C = some cd ∧ cd.hasDict = true := by
    have z : (clsIn K C).any (·.hasDict) = true := hd
    cases e : clsIn K C with
    | none => rw [e] at z; cases z
    | some cd => rw [e] at z; exact ⟨cd, rfl, z⟩
  have hcls : Looks (model prog w) hp (classData C) cd := looks_clsIn X hcd
  obtain ⟨nm, bs, mro, ns, qn, hdd, sn, sb, ab, col, del⟩ := cd
  dsimp only at hh
  subst hh
  refine PySem.W.set_plain X I sa (PySem.W.osa_openX FA.SF X I ov tk fun b => ?_)
  show wpAny _ _ (storeInOwnDict (.ref x) (.ref C) (.str name t) name v b) _ _ _
  unfold storeInOwnDict ownDictForStores
  repeat (first
    | with_reducible refine OEX.store_in_old hns hw hz ?_
    | with_reducible refine wpAny_loadPart_at hx ?_
    | with_reducible refine hcls.at ?_
    | wp_step)
  intro h' tk' hn' hs
  exact hq h' tk' (fun b o hb ho => (hs.2 b hb).trans ho) hn'

/-- super().__init__(text) in an own exception's __init__, called: the bound wrapper is called -/
theorem errcall {u e t0 : Addr} {rest : List Value} {Q : Value → Shared → Prop} (FA : Fam B initId newId bm) (X : K.In hp) (q : excInitIn K C bm newId = true)
    (he : hp.get? e = some (excObj C t0 none .none)) (hu : hp.get? u = some (kxs_mw initId e)) (hz : rest.length ≤ sizeLine)
    (hq : ∀ h' t1, (∀ b o, b ≠ e → hp.get? b = some o → h'.get? b = some o) → h'.get? e = some (excObj C t1 none .none) → Q .none ⟨h', g, d, t, os⟩) :
    wpAny (model prog w) A (call (.ref u) rest) Q E ⟨hp, g, d, t, os⟩ := by
  obtain ⟨nm, N', qn, bs, bm', hdct, sn, sub, ab, col, dd, k0, k1, k2, k3, k5, hC, hT⟩ := PySem.W.excInit_of X q
  refine wpAny_call (codeAny_of_tree ?_)
  show wpAny _ A.in1 (callAny (.ref u) ⟨rest, []⟩) _ _ _
  simp only [callAny]
  refine wpAny_bind (wpAny_load hu ?_)
  simp only [kxs_mw, show (Value.type "method-wrapper" == Value.type "method" || Value.type "method-wrapper" == Value.type "builtin_function_or_method" ||
    Value.type "method-wrapper" == Value.type "method-wrapper") = true by decide, if_true]
  refine PySem.W.KFB.if_so (by decide) (wpAny_bind (PySem.W.check_bound_init FA.FB.toExcCallFacts hC he rfl ?_))
  refine wpAny_bind (wpAny_pure (wpAny_pure ⟨plainId_quiet FA.FB.init.plain _, codeAny_builtin FA.FB.initEntry ?_⟩))
  exact PySem.W.exc_init_tree (cls := .ref C) (t0 := t0) (dv := none) (c2 := .none) (c3 := .none) (b4 := .bool false) he hz fun h' k e' _ => hq h' _ k e'
end
end BJ

/-! the run of such an __init__; the class called -/
namespace BJ
open PySem PySem.Spec PyProof.Rows L2 Builtin Builtin.ObjectAttr
open PySem.W (Looks Frag findIn subIn nsIn typeIn keepIn codeIn hasDictIn clsIn takerIn excInitIn excOver excObj KxsFacts ksFn ksEnv ks_superIn isFn looks_findIn looks_clsIn InstAt kxs_mw)

/-! ### the text -/
def eiA (fs : List (Str × Pos)) (p : Pos) : Arguments :=
  { posonlyargs := [], args := { arg := "self", annotation := none, pos := p } :: fs.map fun f => { arg := f.1, annotation := none, pos := f.2 },
    vararg := none, kwonlyargs := [], kw_defaults := [], kwarg := none, defaults := [] }
def eiSup (t : Str) (p0 p1 p2 p3 p4 : Pos) : Stmt :=
  .Expr (.Call (.Attribute (.Call (.Name "super" p0) [] [] p1) "__init__" p2) [.Constant (.str t) 0 p3] [] p4) p4
def eiSet (f : Str) (q1 q2 q3 q4 : Pos) : Stmt := .Assign [.Attribute (.Name "self" q1) f q2] (.Name f q3) q4
def eiS (fs : List Str) : Scope := { kind := .function, names := (("self" : Str), NameKind.local) :: (fs.map (fun f => (f, NameKind.local)) ++ [(("__class__" : Str), NameKind.free), (("super" : Str), NameKind.globalImplicit)]), isGenerator := false, isCoroutine := false, more := [] }

/-- what the written part says of the class at C, its __init__ at fI, the class cell at cc, the code object at cda -/
structure ErrK (prog : Program) (K : Frag) (mg : Str → Option Value) (C fI cc cda : Addr) (B initId newId : String) (bm : List Value) (x : Str) (fs : List Str) : Prop where
  fam : Fam B initId newId bm
  gC : mg x = some (.ref C)
  ini : excInitIn K C bm newId = true
  ov : excOver K C bm = true
  hd : hasDictIn K C = true
  iC : findIn K (.ref C) "__init__" = some (some (.ref fI))
  isf : isFn K (.ref fI) = true
  sup : ks_superIn K C C "__init__" = some (some (.builtin initId))
  subB : subIn K (.ref C) (.type B) = some true
  stat : nsIn K PySem.cStatics "thirdparty.any" = some none
  super : mg "super" = none
  sa : findIn K (.ref C) "__setattr__" = some (some (.builtin "object.__setattr__"))
  tk : ∀ f ∈ fs, takerIn K C f = some none
  cell : ∃ cl cld csl, K.lookup cc = some ⟨cl, cld, .cell (some (.ref C)), csl⟩
  code : ∃ ccl cdd vs ccs tf, K.lookup cda = some ⟨ccl, cdd, .fields vs, ccs⟩ ∧ vs[2]? = some (.str prog.main.file tf)
  mro : PySem.W.mroIn K C (.ref C) = some true
  cls : ∃ cd, clsIn K C = some cd
  top : (prog.main.scope.names.lookup ("super" : Str)).isSome = false

section
variable {prog : Program} {w : World} {A : Around} {E : Value → Shared → Prop} {R : Result → Shared → Prop} {s : Shared} {K : Frag} {mg : Str → Option Value} {base : Heap}
  {B initId newId : String} {bm : List Value} {C fI cc cda x : Addr} {cn qual t : Str} {fs : List Str}

theorem eval_sup {o : Expr} {name : Str} {p2 p4 p3 : Pos} {env : Env} (hl : (p2.endLine == p4.line) = true) : eval (.Call (.Attribute o name p2) [.Constant (.str t) 0 p3] [] p4) env = (do
      let ov ← attributeBase o name env (eval o env)
      standAt p2.atName
      let (f, first) ← holding [ov] (getMethod ov name (do return (← importBound o env).getD true))
      callWith p4 f first (backTo p4 (starEach [.Constant (.str t) 0 p3] env)) []) := by
  show (do
    let ov ← attributeBase o name env (eval o env)
    standAt p2.atName
    methodCall o name p2 p4 env ov 1 (backTo p4 (starEach [.Constant (.str t) 0 p3] env)) []) = _
  have e : ∀ ov, methodCall o name p2 p4 env ov 1 (backTo p4 (starEach [.Constant (.str t) 0 p3] env)) [] = (do
      let (f, first) ← holding [ov] (getMethod ov name (do return (← importBound o env).getD true))
      callWith p4 f first (backTo p4 (starEach [.Constant (.str t) 0 p3] env)) []) := fun ov => by
    unfold methodCall methodCallPos
    rw [hl, Bool.or_true, if_pos rfl]
    rfl
  simp only [e]
/-- the first statement -/
theorem err_sup (T : ErrK prog K mg C fI cc cda B initId newId bm cn fs) (M0 : Mod K mg base) {scope : Scope} {body : List Stmt} {L : Addr} {m : Str → Option Value} {oI : Obj} {fd : FuncData} {ar : Arg}
    (kb : ∀ b o, base.get? b = some o → s.heap.get? b = some o) {t0 : Addr} (hx : s.heap.get? x = some (excObj C t0 none .none)) (hns : s.heap.Ns L m) (hm : m "self" = some (.ref x)) (xL : L ≠ x)
    (lk : K.lookup fI = some oI) (hfd : oI.data = .func fd) (hp : (fd.params.posonlyargs ++ fd.params.args).head? = some ar) (har : ar.arg = "self")
    (hk : scope.kind = .function) (hka : scope.names.lookup ("self" : Str) = some .local) (hkc : scope.names.lookup ("__class__" : Str) = some .free) (hks : scope.names.lookup ("super" : Str) = some .globalImplicit)
    {p0 p1 p2 p3 p4 : Pos} {Q : Flow → Shared → Prop} (hl : (p2.endLine == p4.line) = true)
    (hq : ∀ h' tk' t1, (∀ b o, b ≠ x → s.heap.get? b = some o → h'.get? b = some o) → h'.get? x = some (excObj C t1 none .none) → h'.Ns L m → Q .next { s with heap := h', toks := tk' }) :
    _root_.PySem.wpAt (model prog w) A (.func body (ksEnv qual scope L fI (.ref cda) cc)) (exec (eiSup t p0 p1 p2 p3 p4) (ksEnv qual scope L fI (.ref cda) cc)) Q E s := by
  have X : K.In s.heap := M0.kin.keeps kb
  obtain ⟨ccl, cdd, vs, ccs, tf, hcode, hvs⟩ := T.code
  obtain ⟨cl, cld, csl, hcell⟩ := T.cell
  obtain ⟨cd, hcd⟩ := T.cls
  obtain ⟨mb, hb1, hb2⟩ := M0.blt
  obtain ⟨oD, hD1, hD2⟩ : ∃ oD, s.heap.get? C = some oD ∧ oD.data = .cls cd := by
    have hcd' := hcd
    unfold PySem.W.clsIn at hcd'
    split at hcd'
    · rename_i c d cd' sl ho
      cases hcd'
      exact ⟨_, X _ _ ho, rfl⟩
    · cases hcd'
  have I : InstAt s.heap x (excObj C t0 none .none) C none := ⟨hx, rfl, rfl, trivial⟩
  obtain ⟨hh, g, d, tk, os⟩ := s
  refine ks_wpAt_Expr_any (ks_wpAt_MethodCall (ks_wpAt_super_base (of := oI) (fd := fd) (ar := ar) (vs := vs) (file := prog.main.file) (tf := tf) hks hkc (by decide) rfl (X _ _ lk) hfd hp rfl (X _ _ hcode) rfl hvs (by simp) T.top ?_) (eval_sup hl)) (by simp [interactive, hk])
  refine PySem.W.ks_loadName_global hk hks (Calls.loadGlobal_builtin (M0.glob.keeps kb) T.super (hb1.keeps kb) ((hb2 _ (by decide)).trans (show bootBuiltins "super" = some (.type "super") by decide +kernel)) ⟨rfl, ?_⟩)
  refine wpAny_loadName_free hk hkc rfl ⟨_, X _ _ hcell, rfl⟩ ?_
  refine wpAny_loadName_local hk (by rw [har]; exact hka) hns (by rw [har]; exact hm) ?_
  refine ks_wpAny_isType_cls hD1 hD2 ⟨rfl, ?_⟩
  refine ks_wpAny_call_super hD1 hD2 hx rfl (fun c e => nomatch e) (PySem.W.looks_mroIn X T.mro) fun h1 e1 k1 => ?_
  have X1 : K.In h1 := X.keeps k1
  have hm1 : Looks (model prog w) h1 (mroOf (.ref C)) cd.mro := (looks_clsIn X1 hcd).andThen .now
  have sup := T.sup
  unfold PySem.W.ks_superIn at sup
  rw [hcd, Option.bind_some] at sup
  have xC : x ≠ C := PySem.W.ks_ne X I hcd
  refine PySem.W.kxs_getMethod T.fam.KF e1 (PySem.W.looks_opaque X1 T.stat) hm1 rfl X1 sup ((InstAt.type (od := none) ⟨k1 _ _ hx, rfl, rfl, trivial⟩ : Looks _ h1 (typeOf (.ref x)) (.ref C)).andThen (PySem.W.looks_subIn X1 T.subB)) xC (by decide) ?_
  have hpu : (h1.push (kxs_mw initId x)).get? h1.objs.size = some (kxs_mw initId x) := Heap.get?_push_at rfl rfl
  refine PySem.W.kxs_callWith (i := initId) (x := x) rfl ?_
  refine Calls.evalArgs_plain (Calls.spliced_cons (Calls.Constant_str (k := 0) (pos := p3) ?_))
  refine Calls.spliced_nil ⟨hpu, ?_⟩
  refine errcall T.fam (X1.keeps fun b o e => Heap.get?_push_of_some _ e) T.ini (Heap.get?_push_of_some _ (k1 _ _ hx)) hpu (by rw [sizeLine_eq]; show 1 ≤ 16777216; decide) fun h' t1 k' hx' => ?_
  have ka : ∀ b o, b ≠ x → hh.get? b = some o → h'.get? b = some o := fun b o hb e => k' b o hb (Heap.get?_push_of_some _ (k1 _ _ e))
  refine hq h' _ t1 ka hx' ?_
  obtain ⟨o, es, ep, ho, r⟩ := hns
  exact ⟨o, es, ep, ka _ _ xL ho, r⟩

/-- a name of the frame -/
theorem ldF {M : Model} {m : Str → Option Value} {env : Env} {y : Str} {pos : Pos} {v : Value} {Q : Value → Shared → Prop} (hk : env.scope.kind = .function)
    (hl : env.kindOf y = some .local) (hn : s.heap.Ns env.locals m) (hv : m y = some v) (h : Q v s) (hd : (y == ("__debug__" : Str)) = false) : wpAny M A (eval (.Name y pos) env) Q E s :=
  wpAny_Name (wpAny_loadName_local hk hl hn hv h) hd
theorem err_fn (T : ErrK prog K mg C fI cc cda B initId newId bm cn fs) (X : K.In s.heap) : ∃ o, s.heap.get? fI = some o ∧ o.cls = .type "function" := by
  obtain ⟨o, ho, hc⟩ := Option.map_eq_some_iff.mp (show (K.lookup fI).map (·.cls) = some (.type "function") from beq_iff_eq.mp T.isf)
  exact ⟨o, X _ _ ho, hc⟩

/-- the stores -/
def setsB (l : List (Str × Pos × Pos × Pos × Pos)) : List Stmt := l.map fun y => eiSet y.1 y.2.1 y.2.2.1 y.2.2.2.1 y.2.2.2.2
/-- what a frame must know for a store -/
structure SetOk (K : Frag) (C x L : Addr) (env : Env) (m : Str → Option Value) (val : Str → Value) (f : Str) : Prop where
  tk : takerIn K C f = some none
  loc : env.kindOf f = some .local
  at_ : m f = some (val f)
  dbg : (f == ("__debug__" : Str)) = false
def putM (l : List Str) (val : Str → Value) (m0 : Str → Option Value) : Str → Option Value := fun y => if y ∈ l then some (val y) else m0 y
theorem putM_nil {val : Str → Value} {m0 : Str → Option Value} : putM [] val m0 = m0 := by
  funext y
  simp [putM]
theorem putM_cons {f : Str} {l : List Str} {val : Str → Value} {m0 : Str → Option Value} : putM l val (fun y => if y = f then some (val f) else m0 y) = putM (f :: l) val m0 := by
  funext y
  unfold putM
  by_cases h : y ∈ l
  · simp [h]
  · by_cases e : y = f
    · subst e; simp [h]
    · simp [h, e]
theorem sets_old {env : Env} {m : Str → Option Value} {val : Str → Value} {dx t0 : Addr} (FA : Fam B initId newId bm) (ov : excOver K C bm = true) (hd : hasDictIn K C = true)
    (sa : findIn K (.ref C) "__setattr__" = some (some (.builtin "object.__setattr__"))) (hk : env.scope.kind = .function) (hself : env.kindOf "self" = some .local) (hms : m "self" = some (.ref x)) (Ld : env.locals ≠ dx) (xd : x ≠ dx) (nK : K.lookup dx = none) :
    ∀ (l : List (Str × Pos × Pos × Pos × Pos)) (s : Shared) (m0 : Str → Option Value) (nl : List Str) (Q : Flow → Shared → Prop), K.In s.heap → s.heap.get? x = some (excObj C t0 (some dx) .none) → s.heap.Ns1 dx m0 → Within m0 nl → nl.length + l.length ≤ 1000 →
      s.heap.Ns env.locals m → (∀ y ∈ l, SetOk K C x env.locals env m val y.1) →
      (∀ h' tk', (∀ b o, b ≠ dx → s.heap.get? b = some o → h'.get? b = some o) → h'.Ns1 dx (putM (l.map (·.1)) val m0) → Q .next { s with heap := h', toks := tk' }) →
      wpAny (model prog w) A (execs (setsB l) env) Q E s
  | [], s, m0, nl, Q, X, hx, hns, hw, hz, hF, hy, hq => by
    refine wpAny_execs_nil (hq s.heap s.toks (fun _ _ _ e => e) ?_)
    rw [List.map_nil, putM_nil]
    exact hns
  | y :: r, s, m0, nl, Q, X, hx, hns, hw, hz, hF, hy, hq => by
    have S := hy y List.mem_cons_self
    rw [List.length_cons] at hz
    refine wpAny_execs_cons (plainObj_wpAny_Assign_Attribute (ldF hk S.loc hF S.at_ (ldF hk hself hF hms ?_ (by decide)) S.dbg))
    obtain ⟨hp, g, d, t, os⟩ := s
    refine errset_old FA X hx hns hw (by omega) ov hd S.tk sa fun h' tk' k' n' => ?_
    have X' : K.In h' := fun a o e => k' a o (fun z => by rw [z, nK] at e; cases e) (X a o e)
    have hF' : h'.Ns env.locals m := by
      obtain ⟨o, es, ep, ho, r⟩ := hF
      exact ⟨o, es, ep, k' _ _ Ld ho, r⟩
    refine sets_old FA ov hd sa hk hself hms Ld xd nK r ⟨h', g, d, tk', os⟩ _ (y.1 :: nl) Q X' (k' _ _ xd hx) n' (Within.cons _ _ hw) (by rw [List.length_cons]; omega) hF' (fun z hz => hy z (List.mem_cons_of_mem _ hz)) fun h2 tk2 k2 n2 => ?_
    refine hq h2 tk2 (fun b o hb e => k2 b o hb (k' b o hb e)) ?_
    rw [List.map_cons, ← putM_cons]
    exact n2

/-- what is left of a made exception: its object at e, its dict at d -/
structure ErrMade (h h' : Heap) (e C d : Addr) (mA : Str → Option Value) : Prop where
  keep : ∀ b o, h.get? b = some o → h'.get? b = some o
  new : h.objs.size ≤ e
  obj : ∃ t0, h'.get? e = some (excObj C t0 (some d) .none)
  dnew : h.objs.size ≤ d
  dne : d ≠ e
  ns : h'.Ns1 d mA

/-- the text of __init__ with the fields fs; the function object -/
structure IniK (K : Frag) (fI cc cda : Addr) (qual t : Str) (fs : List Str) : Prop where
  lk : ∃ (oc : Value) (od : Option Addr) (dV kV doc pm : Value) (an : Option Addr) (ct : Value) (osl : Array (Option Value)) (p : Pos) (qs : List Pos) (p0 p1 p2 p3 p4 : Pos) (l : List (Str × Pos × Pos × Pos × Pos)),
    K.lookup fI = some ⟨oc, od, .func (ksFn "__init__" qual (eiA (fs.zip qs) p) (eiSup t p0 p1 p2 p3 p4 :: setsB l) (eiS fs) dV kV doc pm an (.ref cda) ct cc), osl⟩ ∧
      (p2.endLine == p4.line) = true ∧ l.map (·.1) = fs ∧ qs.length = fs.length
  code : codeIn K (.ref cda) qual = true
  ne : ∀ f ∈ fs, ¬ f = "self" ∧ ¬ f = "__class__" ∧ ¬ f = "super" ∧ (f == ("__debug__" : Str)) = false
  nd : fs.Nodup
  some_ : fs ≠ [] ∧ fs.length ≤ 10
  bind : ∀ fd, (∃ oc od osl, K.lookup fI = some ⟨oc, od, .func fd, osl⟩) → ∀ (u : Value) (us : List Value), us.length = fs.length → bindArgs fd ⟨u :: us, []⟩ = pure ((("self" : Str), u) :: fs.zip us)

theorem lookup_cons_if {β : Type} (a : Str) (b : β) (l : List (Str × β)) (y : Str) : List.lookup y ((a, b) :: l) = if y = a then some b else l.lookup y := by
  rw [List.lookup_cons]
  by_cases h : y = a
  · subst h; simp
  · have z : (y == a) = false := by simpa using h
    rw [z, if_neg h]
theorem lookup_append_ {β : Type} (l r : List (Str × β)) (y : Str) : List.lookup y (l ++ r) = (l.lookup y).or (r.lookup y) := by
  induction l with
  | nil => simp
  | cons p l ih =>
    obtain ⟨a, b⟩ := p
    rw [List.cons_append, lookup_cons_if, lookup_cons_if, ih]
    split <;> simp
theorem lookup_rev {β : Type} : ∀ (l : List (Str × β)), (l.map (·.1)).Nodup → ∀ k v, (k, v) ∈ l → l.reverse.lookup k = some v
  | [], _, _, _, h => nomatch h
  | (a, b) :: l, nd, k, v, h => by
    rw [List.map_cons, List.nodup_cons] at nd
    rw [List.reverse_cons, lookup_append_]
    rcases List.mem_cons.mp h with e | h
    · injection e with e1 e2
      subst e1
      subst e2
      have z : l.reverse.lookup k = none := by
        rw [List.lookup_eq_none_iff]
        intro p hp
        have hp' : p ∈ l := by simpa using hp
        have : ¬ k = p.1 := fun e => nd.1 (by rw [e]; exact List.mem_map_of_mem (f := (·.1)) hp')
        simpa using this
      rw [z, Option.none_or, lookup_cons_if, if_pos rfl]
    · rw [lookup_rev l nd.2 k v h]
      rfl
theorem eiS_loc {fs : List Str} {y : Str} (h : y = "self" ∨ y ∈ fs) : (eiS fs).names.lookup y = some .local := by
  unfold eiS
  show List.lookup y ((("self" : Str), NameKind.local) :: _) = _
  rw [lookup_cons_if]
  by_cases e : y = "self"
  · rw [if_pos e]
  · rw [if_neg e, lookup_append_]
    have hy : y ∈ fs := h.resolve_left e
    have : (fs.map fun f => (f, NameKind.local)).lookup y = some .local := by
      clear h e
      induction fs with
      | nil => cases hy
      | cons a l ih =>
        rw [List.map_cons, lookup_cons_if]
        by_cases e : y = a
        · rw [if_pos e]
        · rw [if_neg e]
          exact ih ((List.mem_cons.mp hy).resolve_left e)
    rw [this]
    rfl
theorem eiS_out {fs : List Str} {y : Str} (h : ¬ y = "self") (hy : y ∉ fs) : (eiS fs).names.lookup y = List.lookup y [(("__class__" : Str), NameKind.free), (("super" : Str), NameKind.globalImplicit)] := by
  unfold eiS
  show List.lookup y ((("self" : Str), NameKind.local) :: _) = _
  rw [lookup_cons_if, if_neg h, lookup_append_]
  have : (fs.map fun f => (f, NameKind.local)).lookup y = none := by
    rw [List.lookup_eq_none_iff]
    intro p hp
    obtain ⟨f, hf, rfl⟩ := List.mem_map.mp hp
    have : ¬ y = f := fun e => hy (e ▸ hf)
    simpa using this
  rw [this]
  rfl
theorem eiS_cell {fs : List Str} : ∀ z ∈ (eiS fs).names, z.2 ≠ .cell := by
  intro z hz
  unfold eiS at hz
  rcases List.mem_cons.mp hz with rfl | hz
  · exact fun e => nomatch e
  rcases List.mem_append.mp hz with hz | hz
  · obtain ⟨f, _, rfl⟩ := List.mem_map.mp hz
    exact fun e => nomatch e
  · rcases List.mem_cons.mp hz with rfl | hz
    · exact fun e => nomatch e
    · rcases List.mem_cons.mp hz with rfl | hz
      · exact fun e => nomatch e
      · cases hz

/-- THE RUN of __init__ -/
theorem err_init (T : ErrK prog K mg C fI cc cda B initId newId bm cn fs) (N : IniK K fI cc cda qual t fs) (M0 : Mod K mg base) {us : List Value} {args : Args} {t0 : Addr} (hul : us.length = fs.length)
    (kb : ∀ b o, base.get? b = some o → s.heap.get? b = some o) (hx : s.heap.get? x = some (excObj C t0 none .none)) (nK : K.lookup x = none) (hroom : A.depth < recursionLimit)
    (hb : ∀ fd, (∃ oc od osl, K.lookup fI = some ⟨oc, od, .func fd, osl⟩) → BindsTo s fd args ((("self" : Str), Value.ref x) :: fs.zip us))
    (hq : ∀ h' tk' d t1, (∀ b o, b ≠ x → s.heap.get? b = some o → h'.get? b = some o) → s.heap.objs.size ≤ d → h'.get? x = some (excObj C t1 (some d) .none) →
      h'.Ns1 d (putM fs (fun f => ((fs.zip us).lookup f).getD .none) fun _ => none) → R (.ok (.ret .none)) { s with heap := h', toks := tk' }) :
    codeAny (model prog w) A (.call (.ref fI) args) R s := by
  obtain ⟨oc, od, dV, kV, doc, pm, an, ct, osl, p, qs, p0, p1, p2, p3, p4, l, lk, hl, hlf, hqs⟩ := N.lk
  have X : K.In s.heap := M0.kin.keeps kb
  have nl : s.heap.NoLimit := M0.nolimit.keeps kb
  have zf : (fs.zip us).map (·.1) = fs := by rw [List.map_fst_zip (by omega)]
  have nself : ("self" : Str) ∉ fs := fun h => (N.ne _ h).1 rfl
  have nd' : (((("self" : Str), Value.ref x) :: fs.zip us).map (·.1)).Nodup := by
    rw [List.map_cons, zf]
    exact List.nodup_cons.mpr ⟨nself, N.nd⟩
  refine PySem.ks_codeAny_call_defAt (binds := (("self" : Str), Value.ref x) :: fs.zip us) hroom (X _ _ lk) rfl nl (PySem.W.codeRec_of X N.code) rfl (hb _ ⟨_, _, _, lk⟩) eiS_cell (fun y hy => eiS_loc ?_) (fun h₁ hns k₁ => ?_) rfl rfl rfl
  · rcases List.mem_cons.mp hy with rfl | hy
    · exact .inl rfl
    · exact .inr (List.of_mem_zip hy).1
  have hm : ((("self" : Str), Value.ref x) :: fs.zip us).reverse.lookup ("self" : Str) = some (Value.ref x) := lookup_rev _ nd' _ _ List.mem_cons_self
  have hmf : ∀ f ∈ fs, ((("self" : Str), Value.ref x) :: fs.zip us).reverse.lookup f = some (((fs.zip us).lookup f).getD .none) := fun f hf => by
    have : f ∈ (fs.zip us).map (·.1) := by rw [zf]; exact hf
    obtain ⟨⟨f', u⟩, hm', rfl⟩ := List.mem_map.mp this
    have ndz : ((fs.zip us).map (·.1)).Nodup := by rw [zf]; exact N.nd
    have e1 : (fs.zip us).lookup f' = some u := by
      have z := lookup_rev ((fs.zip us).reverse) (by rw [List.map_reverse]; exact (List.reverse_perm _).nodup_iff.mpr ndz) f' u (by simpa using hm')
      rw [List.reverse_reverse] at z
      exact z
    show _ = some (((fs.zip us).lookup f').getD .none)
    rw [e1]
    exact lookup_rev _ nd' _ _ (List.mem_cons_of_mem _ hm')
  have hxL : s.heap.objs.size ≠ x := Nat.ne_of_gt (Heap.lt_size hx)
  have ncl : ("__class__" : Str) ∉ fs := fun h => (N.ne _ h).2.1 rfl
  have nsu : ("super" : Str) ∉ fs := fun h => (N.ne _ h).2.2.1 rfl
  refine ks_wpAt_execs_cons (err_sup (scope := eiS fs) T M0 (fun b o e => k₁ b o (kb b o e)) (k₁ _ _ hx) hns hm hxL lk rfl rfl rfl rfl (eiS_loc (.inl rfl)) ?_ ?_ hl fun h2 tk2 t2 k2 hx2 hns2 => ?_)
  · rw [eiS_out (by decide) ncl]; rfl
  · rw [eiS_out (by decide) nsu]; rfl
  show _root_.PySem.wpAt _ _ _ (execs (setsB l) _) _ _ _
  refine wpAt_of_wpAny ?_
  have X2 : K.In h2 := fun a o e => k2 a o (fun z => by rw [z, nK] at e; cases e) (k₁ a o (X a o e))
  obtain ⟨hne, hlen⟩ := N.some_
  cases l with
  | nil => exact absurd hlf.symm hne
  | cons y r =>
    have setok : ∀ z ∈ y :: r, SetOk K C x s.heap.objs.size (ksEnv qual (eiS fs) s.heap.objs.size fI (.ref cda) cc) (fun y => ((("self" : Str), Value.ref x) :: fs.zip us).reverse.lookup y)
        (fun f => ((fs.zip us).lookup f).getD .none) z.1 := fun z hz => by
      have hzf : z.1 ∈ fs := by rw [← hlf]; exact List.mem_map_of_mem hz
      exact ⟨T.tk _ hzf, eiS_loc (.inr hzf), hmf _ hzf, (N.ne _ hzf).2.2.2⟩
    have S := setok y List.mem_cons_self
    refine wpAny_execs_cons (plainObj_wpAny_Assign_Attribute (ldF rfl S.loc hns2 S.at_ (ldF rfl (eiS_loc (.inl rfl)) hns2 hm ?_ (by decide)) S.dbg))
    refine errset_new T.fam X2 hx2 T.ov T.hd S.tk T.sa fun h3 tk3 dx k3 dz dxn hx3 n3 => ?_
    have nKd : K.lookup dx = none := by
      cases e : K.lookup dx with
      | none => rfl
      | some o => exact absurd (Heap.lt_size (X2 _ _ e)) (Nat.not_lt.mpr dz)
    have X3 : K.In h3 := fun a o e => k3 a o (fun z => by rw [z, nK] at e; cases e) (X2 a o e)
    have Ld : s.heap.objs.size ≠ dx := Nat.ne_of_lt (Nat.lt_of_lt_of_le hns2.lt dz)
    have hns3 : h3.Ns s.heap.objs.size (fun y => ((("self" : Str), Value.ref x) :: fs.zip us).reverse.lookup y) := by
      obtain ⟨o, es, ep, ho, r⟩ := hns2
      exact ⟨o, es, ep, k3 _ _ hxL ho, r⟩
    have hrl : r.length ≤ 10 := by
      have := congrArg List.length hlf
      rw [List.length_map, List.length_cons] at this
      omega
    refine sets_old (env := ksEnv qual (eiS fs) s.heap.objs.size fI (.ref cda) cc) T.fam T.ov T.hd T.sa (m := fun y => ((("self" : Str), Value.ref x) :: fs.zip us).reverse.lookup y) (val := fun f => ((fs.zip us).lookup f).getD .none) (dx := dx) rfl (eiS_loc (.inl rfl)) hm Ld dxn.symm nKd r
      _ _ [y.1] _ X3 hx3 n3 (Within.cons _ _ Within.nil) (by rw [List.length_singleton]; omega) hns3 (fun z hz => setok z (List.mem_cons_of_mem _ hz)) fun h4 tk4 k4 n4 => ?_
    refine hq h4 tk4 dx t2 (fun b o hb e => ?_) (Nat.le_of_lt (Nat.lt_of_lt_of_le hns2.lt dz)) (k4 _ _ dxn.symm hx3) ?_
    · have e2 := k2 b o hb (k₁ b o e)
      have nbd : b ≠ dx := Nat.ne_of_lt (Nat.lt_of_lt_of_le (Heap.lt_size e2) dz)
      exact k4 b o nbd (k3 b o hb e2)
    · have e4 : putM (r.map (·.1)) (fun f => ((fs.zip us).lookup f).getD .none) (fun z => if z = y.1 then some (((fs.zip us).lookup y.1).getD .none) else none) = putM fs (fun f => ((fs.zip us).lookup f).getD .none) fun _ => none := by
        have q := putM_cons (f := y.1) (l := r.map (·.1)) (val := fun f => ((fs.zip us).lookup f).getD .none) (m0 := fun _ => none)
        rw [← List.map_cons, hlf] at q
        exact q
      rw [← e4]
      exact n4

/-- the class called -/
theorem err_made (T : ErrK prog K mg C fI cc cda B initId newId bm cn fs) (N : IniK K fI cc cda qual t fs) (M0 : Mod K mg base) {us : List Value} (hul : us.length = fs.length)
    (kb : ∀ b o, base.get? b = some o → s.heap.get? b = some o) (hroom : A.depth + 1 < recursionLimit)
    (hq : ∀ h' tk e d, ErrMade s.heap h' e C d (putM fs (fun f => ((fs.zip us).lookup f).getD .none) fun _ => none) → R (.ok (.ret (.ref e))) { s with heap := h', toks := tk }) :
    codeAny (model prog w) A (.call (.ref C) ⟨us, []⟩) R s := by
  have X : K.In s.heap := M0.kin.keeps kb
  obtain ⟨nm, N', qn, bs, bm', hdct, sn, sub, ab, col, dd, k0, k1, k2, k3, k5, hC, hT⟩ := PySem.W.excInit_of X T.ini
  obtain ⟨oI, hoI, hcI⟩ := err_fn T X
  have hz : us.length ≤ sizeLine := by rw [sizeLine_eq, hul]; have := N.some_.2; omega
  obtain ⟨hp, g, dr, tk, os⟩ := s
  have old : ∀ b o, hp.get? b = some o → ((hp.push (PySem.W.kdv_tup us)).push (HandSPX.excO C hp.objs.size)).get? b = some o := fun b o e => Heap.get?_push_of_some _ (Heap.get?_push_of_some _ e)
  have hget : ((hp.push (PySem.W.kdv_tup us)).push (HandSPX.excO C hp.objs.size)).get? (hp.objs.size + 1) = some (HandSPX.excO C hp.objs.size) := by heap_get
  have hnx : K.lookup (hp.objs.size + 1) = none := by
    cases e : K.lookup (hp.objs.size + 1) with
    | none => rfl
    | some o => exact absurd (Nat.lt_of_succ_lt (Heap.lt_size (show hp.get? _ = some o from X _ _ e))) (Nat.lt_irrefl _)
  refine HandSPX.call_own T.fam.FB hT hC (looks_findIn X T.iC) (fun self => PySem.W.exc_bind hoI hcI self) hz ?_
  refine err_init (x := hp.objs.size + 1) (t0 := hp.objs.size) (us := us) (s := ⟨(hp.push (PySem.W.kdv_tup us)).push (HandSPX.excO C hp.objs.size), g, dr, tk, os⟩) T N M0 hul (fun b o e => old b o (kb b o e)) hget hnx ?_
    (fun fd hfd => BindsTo.of_eq (N.bind fd hfd _ us hul)) fun h' tk' d t1 k' dz hx n' => ?_
  · show A.depth + 1 < recursionLimit
    exact hroom
  · have dz' : hp.objs.size + 1 + 1 ≤ d := by
      have q := dz
      rw [Heap.size_push, Heap.size_push] at q
      exact q
    exact ⟨rfl, hq h' tk' (hp.objs.size + 1) d ⟨fun b o e => k' b o (Nat.ne_of_lt (Nat.lt_succ_of_lt (Heap.lt_size e))) (old b o e), Nat.le_succ _, ⟨_, hx⟩, Nat.le_trans (Nat.le_trans (Nat.le_succ _) (Nat.le_succ _)) dz', (Nat.ne_of_lt (Nat.lt_of_succ_le dz')).symm, n'⟩⟩
end

/-! ### raise C(..) over the layer -/
/-- the fields of an exception's own dict, as values of the layer -/
theorem relO_putM : ∀ {fs : List Str} {vs : List V} {us : List Value}, Vals vs us → vs.length = fs.length → ∀ y, RelO ((fs.zip vs).lookup y) (putM fs (fun f => ((fs.zip us).lookup f).getD .none) (fun _ => none) y)
  | [], _, _, _, _, y => by simp [putM, RelO]
  | f :: fs, [], _, _, h, _ => by simp at h
  | f :: fs, v :: vs, u :: us, .cons r rs, h, y => by
    rw [List.zip_cons_cons, lookup_cons_if]
    by_cases e : y = f
    · subst e
      simp [putM, RelO, lookup_cons_if, r]
    · rw [if_neg e]
      have ih := relO_putM (fs := fs) rs (by simpa using h) y
      have : putM (f :: fs) (fun g => (((f :: fs).zip (u :: us)).lookup g).getD .none) (fun _ => none) y = putM fs (fun g => ((fs.zip us).lookup g).getD .none) (fun _ => none) y := by
        unfold putM
        by_cases h : y ∈ fs
        · simp [h, List.zip_cons_cons, lookup_cons_if, e]
        · simp [h, e]
      rw [this]
      exact ih
section
variable {X : Cx} {C fI cc cda : Addr} {B initId newId : String} {bm : List Value} {cn qual t : Str} {fs : List Str} {W : WX}
def tMkErr (C : Addr) (fs : List Str) (ta : TA) : L2.St → Hp → XK → Prop := fun σ H Q => ta σ H fun vs H1 => vs.length = fs.length ∧ ∀ d, H1 d = none → Q (.ref C) (some d) (upd H1 d (.xd (fs.zip vs)))
theorem pmk_err {e : Expr} {es : List Expr} {ta : TA} {p pos : Pos} (T : ErrK X.prog X.K X.mg C fI cc cda B initId newId bm cn fs) (N : IniK X.K fI cc cda qual t fs) (kC : keepIn X.K (.ref C) = true)
    (eC : subIn X.K (.ref C) (.type "BaseException") = some true) (tC : typeIn X.K (.ref C) = some (.type "type")) {k : Nat} (hr : Room k X.A) (ha : PA X (e :: es) ta) (hg : Gl X cn) (hdb : (cn == ("__debug__" : Str)) = false := by decide)
    (he : starEach (e :: es) X.env = (false, eval e X.env) :: starEach es X.env := by rfl) (hpl : (backTo pos (starEach es X.env)).any (·.1) = false := by rfl) :
    PMk X (.Call (.Name cn p) (e :: es) [] pos) (tMkErr C fs ta) := by
  intro pins s σ H Q I h
  refine wpAny_Call_Name_kw (ld_glob I hg T.gC ?_ hdb)
  refine PySem.W.callWith_K (h₀ := X.base) I.ok.mod.kin kC (thn (ha.run pos pins s σ H _ I h) ?_) he hpl
  rintro us s1 ⟨vs, H1, I1, r1, hvl, q1⟩
  refine ⟨I1.kIn, ?_⟩
  show wpAny _ _ (call (.ref C) us) _ _ _
  have hul : us.length = fs.length := r1.length.symm.trans hvl
  have hbk := I1.bk
  obtain ⟨hp, g, dr, tk, os⟩ := s1
  refine wpAny_call (err_made T N I1.mod hul hbk (by have := hr.dp; omega) fun h' tk' a d M => ?_)
  show MkP X pins σ Q (.ref a) ⟨h', g, dr, tk', os⟩
  obtain ⟨t0, ha'⟩ := M.obj
  obtain ⟨G', g1, g2⟩ := restrict h' fun b => decide (b ≠ a)
  have gk : ∀ b, b ≠ a → G'.get? b = h'.get? b := fun b hb => g1 b (decide_eq_true hb)
  have ge : G'.get? a = none := g2 a (by simp)
  have gold : ∀ b o, hp.get? b = some o → G'.get? b = some o := fun b o q => (gk b (Nat.ne_of_lt (Nat.lt_of_lt_of_le (Heap.lt_size q) M.new))).trans (M.keep b o q)
  have ob : ObjOk X.prog X.w (upd H1 d (.xd (fs.zip vs))) G' d (.xd (fs.zip vs)) := ⟨_, M.ns.at (fun o q => (gk d M.dne).trans q), relO_putM r1 hvl⟩
  have J : Inv X pins σ (upd H1 d (.xd (fs.zip vs))) ⟨G', g, dr, tk', os⟩ := I1.laid (t' := tk') gold M.dnew ob
  have subs : ∀ b o, G'.get? b = some o → h'.get? b = some o := fun b o q => by
    by_cases hb : b = a
    · rw [hb, ge] at q; cases q
    · exact (gk b hb).symm.trans q
  refine ⟨a, _, _, ⟨G', g, dr, tk', os⟩, _, .ref C, some d, rfl, J, subs, ge, ha', ⟨rfl, rfl⟩, rfl, rfl, ?_, rfl, I1.bare, raises_own eC tC, q1 d (I1.hok.fresh M.dnew)⟩
  rw [upd_ne (Ne.symm M.dne)]
  exact I1.hok.fresh M.new
/-- raise C(e, ..) -/
def tRaiseErr (C : Addr) (fs : List Str) (W : WX) (ta : TA) : TS := fun _ σ H => tMkErr C fs ta σ H fun cls d H' => W cls d σ H'
theorem ps_raiseErr {e : Expr} {es : List Expr} {ta : TA} {p pos pos2 : Pos} (hc : X.calm = true) (T : ErrK X.prog X.K X.mg C fI cc cda B initId newId bm cn fs) (N : IniK X.K fI cc cda qual t fs) (kC : keepIn X.K (.ref C) = true)
    (eC : subIn X.K (.ref C) (.type "BaseException") = some true) (tC : typeIn X.K (.ref C) = some (.type "type")) {k : Nat} (hr : Room k X.A) (tkW : Takes X W) (ha : PA X (e :: es) ta) (hg : Gl X cn) (hdb : (cn == ("__debug__" : Str)) = false := by decide)
    (he : starEach (e :: es) X.env = (false, eval e X.env) :: starEach es X.env := by rfl) (hpl : (backTo pos (starEach es X.env)).any (·.1) = false := by rfl) :
    PS X (.Raise (some (.Call (.Name cn p) (e :: es) [] pos)) none pos2) (tRaiseErr C fs W ta) := ps_raise hc tkW (pmk_err T N kC eC tC hr ha hg hdb he hpl)
end
end BJ

/-! try: body / except X as n: suite, where the exception stays known behind the statement; its fields -/
namespace BJ
open PySem PySem.Spec PyProof.Rows L2
open PySem.W (Looks Frag findIn subIn nsIn typeIn keepIn hasDictIn)

/-- an exception object that is held: of class cls, its own dict at d -/
def ExcK (a : Addr) (cls : Value) (d : Option Addr) : HO := .ext fun h => ∃ (oe : Obj) (vs : Array Value), h.get? a = some oe ∧ Zc cls d oe ∧ oe.data = .fields vs
theorem excK_ok {P : Program} {w : World} {H : Hp} {h : Heap} {a : Addr} {cls : Value} {d : Option Addr} {oe : Obj} {vs : Array Value} (e : h.get? a = some oe) (z : Zc cls d oe) (hd : oe.data = .fields vs) : ObjOk P w H h a (ExcK a cls d) :=
  ⟨⟨oe, vs, e, z, hd⟩, ⟨oe, e⟩, fun _ _ ⟨o, v, q, r⟩ k => ⟨o, v, k o q, r⟩⟩
theorem excK_at {P : Program} {w : World} {H : Hp} {h : Heap} {a : Addr} {cls : Value} {d : Option Addr} (x : HOk P w H h) (e : H a = some (ExcK a cls d)) : ∃ (oe : Obj) (vs : Array Value), h.get? a = some oe ∧ Zc cls d oe ∧ oe.data = .fields vs := by
  have q : ObjOk P w H h a (ExcK a cls d) := x a _ e
  exact q.1

section
variable {X : Cx} {pins : List (Addr × Obj)} {σ : L2.St} {H : Hp} {s : Shared}
/-- a pinned object that is new is tracked from here on -/
theorem Inv.track {a : Addr} {oe : Obj} {φ : Heap → Prop} (I : Inv X ((a, oe) :: pins) σ H s) (hnew : X.s_0.heap.get? a = none) (hp : ∀ p ∈ X.pn ++ pins, p.1 ≠ a)
    (ok : ObjOk X.prog X.w (upd H a (.ext φ)) s.heap a (.ext φ)) : Inv X pins σ (upd H a (.ext φ)) s := by
  obtain ⟨ha, na, nL, nF, nc⟩ := I.pin (a, oe) (List.mem_append_right _ List.mem_cons_self)
  have up : ∀ b u, H b = some u → upd H a (.ext φ) b = some u := fun b u e => by
    rw [upd_ne (ne_of_none e na)]
    exact e
  have old : ∀ b o, X.s_0.heap.get? b = some o → b ≠ a := fun b o e z => by
    rw [z, hnew] at e
    cases e
  constructor
  · exact I.ok
  · exact I.os
  · exact I.bare
  · exact ⟨I.base.keep, I.base.slot, fun b o e n x => by rw [upd_ne (old b o e)]; exact I.base.free b o e n x, I.base.there, fun b xs e => up _ _ (I.base.tups b xs e), fun b o u e => up _ _ (I.base.frzs b o u e),
      fun b ps e => let ⟨m, q⟩ := I.base.tbls b ps e; ⟨m, up _ _ q⟩⟩
  · exact I.loc
  · exact I.cell
  · rw [upd_ne (Ne.symm nL)]
    exact I.free
  · intro y c e
    have q : c ≠ a := fun z => by
      obtain ⟨v, o, ho, hd⟩ := I.cell y c e
      rw [z] at ho
      have ha' : s.heap.get? a = some oe := ha
      rw [ha'] at ho
      cases ho
      exact nc _ hd
    rw [upd_ne q]
    exact I.freeC y c e
  · intro p hpm
    obtain ⟨e, n, r⟩ := I.pin p ((List.mem_append.mp hpm).elim (fun z => List.mem_append_left _ z) fun z => List.mem_append_right _ (List.mem_cons_of_mem _ z))
    exact ⟨e, by rw [upd_ne (hp p hpm)]; exact n, r⟩
  · intro b u e
    by_cases hb : b = a
    · subst hb
      rw [upd_same] at e
      cases e
      exact ok
    · rw [upd_ne hb] at e
      exact (I.hok b u e).stay (fun _ _ _ q => q) (fun c q => up _ _ q) fun c xs q => up _ _ q
  · exact I.len

/-- the test of an except clause -/
def ClauseT (X : Cx) (t : Expr) (mt : Value → Option Bool) : Prop := ∀ (a : Addr) (pn : List (Addr × Obj)) (s : Shared) (σ : L2.St) (H : Hp) (cls : Value) (b : Bool) (E : Value → Shared → Prop) (Q : Value → Shared → Prop),
  Inv (X.suite a pn) [] σ H s → Looks (model X.prog X.w) s.heap (typeOf (.ref a)) cls → mt cls = some b →
  (∀ c h' tk', (∀ b o, s.heap.get? b = some o → h'.get? b = some o) → Looks (model X.prog X.w) h' (excMatches (.ref a) c) b → Q c { s with heap := h', toks := tk' }) →
  wpAny (model X.prog X.w) (X.A.mark (some (.ref a))) (eval t X.env) Q E s
theorem name_ld {x : Str} {c : Value} {np : Pos} {A : Around} {E : Value → Shared → Prop} {Q : Value → Shared → Prop} {a : Addr} {pn : List (Addr × Obj)} (hc : Names X x c) (S : Inv (X.suite a pn) [] σ H s) (q : Q c s) :
    wpAny (model X.prog X.w) (X.A.mark (some (.ref a))) (eval (.Name x np) X.env) Q E s := by
  obtain ⟨hg, hdbg, hm | ⟨hm, hv, hnn⟩⟩ := hc
  · exact ld_glob (X := X.suite a pn) S hg hm q hdbg
  · exact ld_blt (X := X.suite a pn) S hg hm hv q hnn hdbg
theorem cl_one {x : Str} {c : Value} {np : Pos} (hc : Names X x c) : ClauseT X (.Name x np) (fun cls => PySem.W.exmOne X.K cls c) := fun a pn s σ H cls b E Q S LT hb hq =>
  name_ld (A := X.A) hc S (hq c s.heap s.toks (fun _ _ e => e) (PySem.W.exm_one S.kIn LT hb))
theorem cl_three {x1 x2 x3 : Str} {c1 c2 c3 : Value} {p1 p2 p3 p : Pos} {k : Nat} (h1 : Names X x1 c1) (h2 : Names X x2 c2) (h3 : Names X x3 c3) (hl : starEach [.Name x1 p1, .Name x2 p2, .Name x3 p3] X.env = [(false, eval (.Name x1 p1) X.env), (false, eval (.Name x2 p2) X.env), (false, eval (.Name x3 p3) X.env)] := by rfl) :
    ClauseT X (.Tuple [.Name x1 p1, .Name x2 p2, .Name x3 p3] k p) (fun cls => PySem.W.exmAny X.K cls [c1, c2, c3]) := fun a pn s σ H cls b E Q S LT hb hq => by
  refine wpAny_Tuple_spliced ?_
  rw [hl]
  refine Calls.spliced_cons (name_ld (A := X.A) h1 S ?_)
  refine Calls.spliced_cons (name_ld (A := X.A) h2 S ?_)
  refine Calls.spliced_cons (name_ld (A := X.A) h3 S ?_)
  refine Calls.spliced_nil ⟨by rw [sizeLine_eq]; show 3 ≤ 16777216; decide, ?_⟩
  have k : ∀ b o, s.heap.get? b = some o → (s.heap.push ({ cls := .type "tuple", data := .seq [c1, c2, c3].toArray } : Obj)).get? b = some o := fun b o e => Heap.get?_push_of_some _ e
  exact hq _ _ s.toks k (PySem.W.exm_tup3 (S.kIn.keeps k) (fun A Q E s' k' q => LT A Q E s' (fun b o e => k' b o (k b o e)) q) (Heap.get?_push_size _ rfl) hb)
end

theorem FlyingZ.grow {base h h' : Heap} {l : List Env} {e : Addr} {Z : Obj → Prop} (x : HandSPX.FlyingZ base l e Z h) (k : ∀ b o, h.get? b = some o → h'.get? b = some o) : HandSPX.FlyingZ base l e Z h' := by
  obtain ⟨f1, f2, f3, oe, vs, T, oT, ts, a1, a2, a3, a4, a5, a6, a7, a8⟩ := x
  exact ⟨fun b o e => k b o (f1 b o e), f2, Heap.FunFrames.of_keeps (fun b o e _ => ⟨o, k b o e, rfl⟩) f3, oe, vs, T, oT, ts, k _ _ a1, a2, a3, a4, a5, a6, k _ _ a7, a8⟩

/-- what the clause wishes of an exception of the body; behind it the exception is known at a -/
def wTry (mt : Value → Option Bool) (i : Nat) (ts : Addr → Value → Option Addr → TS) (Wout : WX) (D : Ends) : WX := fun cls d σ H =>
  ∃ b, mt cls = some b ∧
    (b = true → ∀ a, H a = none → ts a cls d { nx := fun σ' H' => D.nx (σ'.set i none) (upd H' a (ExcK a cls d)), rt := D.rt, bk := fun σ' H' => D.bk (σ'.set i none) (upd H' a (ExcK a cls d)), ct := fun σ' H' => D.ct (σ'.set i none) (upd H' a (ExcK a cls d)) } (σ.set i (some (.ref a))) H) ∧
    (b = false → Wout cls d σ H)
section
variable {X : Cx} {n : Str} {t : Expr} {mt : Value → Option Bool} {i : Nat} {body suite : List Stmt} {b₀ : Stmt} {pos pos' : Pos} {tb : WX → TS} {ts : Addr → Value → Option Addr → TS} {Wout : WX}
theorem ps_tryK (hs : X.stack = X.env :: X.outer) (hf : X.env.frame = some X.env.locals) (hex : X.ex = []) (hN : X.N.Nodup) (hi : X.N[i]? = some n) (hln : X.env.kindOf n = some .local) (hc : ClauseT X t mt) (tk : Takes X Wout)
    (hb : ∀ (W : WX) (pn : List (Addr × Obj)) (xe : Value → Shared → Prop), Takes (X.tr pn xe) W → PassesOwn (model X.prog X.w) X.A X.env xe → PSs (X.tr pn xe) body (tb W))
    (hsu : ∀ (a : Addr) (oe : Obj) (cls : Value) (d : Option Addr) (pn : List (Addr × Obj)), Zc cls d oe → (∃ vs, oe.data = .fields vs) → PSs (X.suite a ((a, oe) :: pn)) (b₀ :: suite) (ts a cls d)) :
    PS X (.Try body [.ExceptHandler (some t) (some n) (b₀ :: suite) pos'] [] [] pos) (fun D σ H => tb (wTry mt i ts Wout D) D σ H) where
  run := by
    intro pins s σ H D I h
    have ok := I.ok
    have hfr : X.A.frames = some (X.env :: X.outer) := by rw [ok.frames, hs]
    refine wpAny_Try_except (wpAny_mono ((hb (wTry mt i ts Wout D) (X.pn ++ pins) (fun e s₁ => wpAny (model X.prog X.w) X.A (noteFrame e X.env) (fun _ s₂ =>
      wpAny (model X.prog X.w) X.A (setFlight e none) (fun _ s₃ => wpAny (model X.prog X.w) X.A (handleBy e X.env [.ExceptHandler (some t) (some n) (b₀ :: suite) pos']) (SP X pins D) X.xe s₃) X.xe s₂) X.xe s₁)
      ?cat PassesOwn.looking).run [] s σ H D (I.toTry _) h) ?thru fun e s1 he => he)
    case thru =>
      rintro (_ | _ | _ | u) s1 hsp
      · obtain ⟨σ', H', J, q⟩ := hsp
        exact wpAny_execs_nil ⟨σ', H', J.ofTry ok, q⟩
      · obtain ⟨σ', H', J, q⟩ := hsp
        exact ⟨σ', H', J.ofTry ok, q⟩
      · obtain ⟨σ', H', J, q⟩ := hsp
        exact ⟨σ', H', J.ofTry ok, q⟩
      · obtain ⟨v, σ', H', J, r, q⟩ := hsp
        exact ⟨v, σ', H', J.ofTry ok, r, q⟩
    case cat =>
      rintro u s' ⟨a, B, sI, pins', σ', H', cls, d, rfl, J0, nb, up, sky, na, os, ag, b, hb1, hyes, hno⟩
      have J : Inv X pins σ' H' sI := J0.ofTry ok
      rw [hs] at sky
      refine Sky.land Zc.steady hfr hf (show Sky B (X.env :: X.outer) a (Zc cls d) X.env.locals s'.heap from sky) fun h3 fl3 up3 => ?_
      have J3 : Inv X pins σ' H' { s' with heap := h3 } := J.landed nb fl3.1 (up.trans up3) os ag
      obtain ⟨oe3, vs3, he3, hz3, hd3⟩ := fl3.there
      have nfr : a ∉ frs (X.env :: X.outer) := fun hm => by
        obtain ⟨_, o', e', hnf⟩ := fl3.2.2.1.mem hm
        rw [he3] at e'
        cases e'
        exact hnf _ hd3
      have nL : a ≠ X.env.locals := fun z => nfr (List.mem_filterMap.mpr ⟨X.env, List.mem_cons_self, by rw [hf, z]⟩)
      have nF : a ∉ X.fs := fun hm => by
        obtain ⟨e, he, q⟩ := List.mem_filterMap.mp hm
        exact nfr (List.mem_filterMap.mpr ⟨e, List.mem_cons_of_mem _ he, q⟩)
      have nI : sI.heap.get? a = none := by
        cases e : sI.heap.get? a with
        | none => rfl
        | some o =>
          have z := nb a o e (by rw [hs]; exact nfr)
          rw [fl3.2.1] at z
          cases z
      have n0 : X.s_0.heap.get? a = none := by
        cases e : X.s_0.heap.get? a with
        | none => rfl
        | some o =>
          obtain ⟨o', z⟩ := J.base.there a o e (by rw [hex]; exact fun z => nomatch z)
          rw [nI] at z
          cases z
      have np : ∀ p ∈ X.pn ++ pins, p.1 ≠ a := fun p hp z => by
        have q := (J.pin p hp).1
        rw [z, nI] at q
        cases q
      have S3 := J3.suite he3 hd3 na nL nF
      have LT : Looks (model X.prog X.w) h3 (typeOf (.ref a)) cls := fun A Q E s k q => wpAny_typeOf_ref (k _ _ he3) (by rw [hz3.1]; exact q)
      refine PySem.W.exc_clause_as (hc a _ _ σ' H' cls b _ _ S3 LT hb1 fun c h4 tk4 k4 LM => ⟨b, LM, ?_⟩)
      have fl4 := FlyingZ.grow fl3 k4
      have J4 : Inv X pins σ' H' { s' with heap := h4, toks := tk4 } := J3.kept (t' := tk4) k4
      cases b with
      | true =>
        refine HandSPX.lands_againZ fl4 fun h5 fl5 up5 => ?_
        have J5 : Inv X pins σ' H' { s' with heap := h5, toks := tk4 } :=
          J.landed (s' := { s' with heap := h5, toks := tk4 }) nb fl5.1 (((up.trans up3).trans (Heap.UpToSlots.of_keeps k4)).trans up5) os ag
        obtain ⟨oe5, vs5, he5, hz5, hd5⟩ := fl5.there
        have S5 := J5.suite he5 hd5 na nL nF
        refine store_ok (X := X.suite a ((a, oe5) :: (X.pn ++ pins))) (v := .ref a) S5 hN hi (.inl hln) rfl (fun s6 S6 => ?_) (.inr hln)
        refine wpAny_mono ((hsu a oe5 cls d (X.pn ++ pins) hz5 ⟨_, hd5⟩).run [] s6 _ H' _ S6 (hyes rfl a na)) (fun f s7 hsp => ?_) fun _ _ z => False.elim z
        have out : ∀ {σ7 : L2.St} {H7 : Hp} {s7 : Shared}, Inv (X.suite a ((a, oe5) :: (X.pn ++ pins))) [] σ7 H7 s7 → Inv X ((a, oe5) :: pins) σ7 H7 s7 := fun {σ7 H7 s7} S =>
          ⟨ok, S.os, S.bare, S.base, S.loc, S.cell, S.free, S.freeC, fun p hp => S.pin p (by
            rw [List.append_nil]
            rcases List.mem_append.mp hp with z | z
            · exact List.mem_cons_of_mem _ (List.mem_append_left _ z)
            · rcases List.mem_cons.mp z with z | z
              · rw [z]; exact List.mem_cons_self
              · exact List.mem_cons_of_mem _ (List.mem_append_right _ z)), S.hok, S.len⟩
        have fin : ∀ {σ7 : L2.St} {H7 : Hp} {Q : Shared → Prop} {s7 : Shared}, Inv (X.suite a ((a, oe5) :: (X.pn ++ pins))) [] σ7 H7 s7 → (∀ s8, Inv X pins (σ7.set i none) (upd H7 a (ExcK a cls d)) s8 → Q s8) →
            (∀ s8, Inv X pins (σ7.set i none) H7 s8 → True) → wpAny (model X.prog X.w) X.A (do bindName X.env n .none; unbindBehindTheSuite X.env n pos') (fun _ s8 => Q s8) X.xe s7 := fun {σ7 H7 Q s7} S hq _ =>
          gone_ok (out S) hN hi hln fun s8 J8 => hq s8 (Inv.track J8 n0 np (excK_ok (J8.pin (a, oe5) (List.mem_append_right _ List.mem_cons_self)).1 hz5 hd5))
        match f, hsp with
        | .next, ⟨σ7, H7, S7, q7⟩ => exact fin S7 (fun s8 J8 => ⟨_, _, J8, q7⟩) fun _ _ => trivial
        | .brk, ⟨σ7, H7, S7, q7⟩ => exact fin S7 (fun s8 J8 => ⟨_, _, J8, q7⟩) fun _ _ => trivial
        | .cont, ⟨σ7, H7, S7, q7⟩ => exact fin S7 (fun s8 J8 => ⟨_, _, J8, q7⟩) fun _ _ => trivial
        | .ret u, ⟨v7, σ7, H7, S7, r7, q7⟩ => exact gone_ok (S7.unsuite ok) hN hi hln fun s8 J8 => ⟨_, _, _, J8, r7, q7⟩
      | false =>
        show wpAny _ X.A (handleBy (.ref a) X.env []) _ _ _
        refine wpAny_handleBy_nil ?_
        obtain ⟨k1, k2, k3, oe, vs, T, oT, ts', he, hz, hd, h1, hr⟩ := id fl4
        have fin : wpAny (model X.prog X.w) X.A (setFlight (.ref a) X.env.frame) (fun _ s5 => wpAny (model X.prog X.w) X.A (throw (.ref a) : Sem Flow) (SP X pins D) X.xe s5) X.xe { s' with heap := h4, toks := tk4 } := by
          rw [hf]
          refine HandSPX.setFlight_upZ fl4 fun h5 hh5 up5 => wpAny_throw (tk _ _ ?_)
          exact ⟨a, B, sI, pins, σ', H', cls, d, rfl, J, nb, ((up.trans up3).trans (Heap.UpToSlots.of_keeps k4)).trans up5, .inr (.inr (by rw [hs]; exact hh5)), na, os, ag, hno rfl⟩
        unfold PySem.passOn
        refine wpAny_bind (wpAny_field he hd h1 ?_)
        rw [if_neg (by simp)]
        first
          | exact wpAny_bind (wpAny_pure (wpAny_bind fin))
          | exact wpAny_bind fin
end
end BJ

/-! fields of a held exception; isinstance of any value; repr of data -/
namespace BJ
open PySem PySem.Spec PyProof.Rows L2
open PySem.W (Looks Frag findIn subIn nsIn typeIn keepIn hasDictIn clsIn specialIn takesIn mroIn kitOne kitAny InstAt)

/-- what is asked of an exception's class to read it -/
structure ErrR (K : Frag) (C : Addr) : Prop where
  cl : (clsIn K C).isSome = true
  ga : findIn K (.ref C) "__getattribute__" = some (some (.builtin "BaseException.__getattribute__"))
  gg : findIn K (.ref C) "__getattr__" = some none
  ex : subIn K (.ref C) (.type "BaseException") = some true
  cc : findIn K (.ref C) "__class__" = some (some (.builtin "object.__class__"))
  cg : specialIn K (.builtin "object.__class__") "__get__" = some (some (.builtin "getset_descriptor.__get__"))
  ct : takesIn K (.builtin "object.__class__") = some true
  mo : mroIn K C (.type "object") = some true
  hd : hasDictIn K C = true
/-- at a the exception, its dict at d -/
def ExcAt (H : Hp) (a C d : Addr) (fs : List (Str × V)) : Prop := H a = some (ExcK a (.ref C) (some d)) ∧ H d = some (.xd fs)
section
variable {X : Cx} {pins : List (Addr × Obj)} {σ : L2.St} {H : Hp} {s : Shared}
theorem ExcAt.inst {a C d : Addr} {fs : List (Str × V)} (I : Inv X pins σ H s) (x : ExcAt H a C d fs) : ∃ (oe od : Obj) (mA : Str → Option Value), InstAt s.heap a oe C (some od) ∧ s.heap.Ns1 d mA ∧ s.heap.get? d = some od ∧ ∀ f, RelO (fs.lookup f) (mA f) := by
  obtain ⟨oe, vs, he, hz, hd⟩ := excK_at I.hok x.1
  obtain ⟨mA, hns, hr⟩ := (show ObjOk X.prog X.w H s.heap d (.xd fs) from I.hok d _ x.2)
  obtain ⟨od, es, ep, ho, r⟩ := id hns
  exact ⟨oe, od, mA, ⟨he, hz.1, by unfold PySem.W.notCls; rw [hd], by rw [hz.2]; exact ho⟩, hns, ho, hr⟩

/-- e.f of a held exception -/
def tExf (K : Frag) (te : TE) (f : Str) : TE := fun σ H Q => te σ H fun x H1 => ∃ (a C d : Addr) (fs : List (Str × V)) (v : V), x = .ref a ∧ ExcAt H1 a C d fs ∧ ErrR K C ∧ findIn K (.ref C) f = some none ∧ fs.lookup f = some v ∧ Q v H1
theorem pe_exf {e : Expr} {te : TE} {f : Str} {pos : Pos} (he : PE X e te) (hb : attributeBase e f X.env (eval e X.env) = eval e X.env := by rfl) : PE X (.Attribute e f pos) (tExf X.K te f) where
  run := by
    intro pins s σ H Q I h
    refine attr_of hb (thn (he.run pins s σ H _ I h) ?_)
    rintro u s1 ⟨x, H1, I1, rx, a, C, d, fs, v, rfl, hat, R, nf, hl, q⟩
    obtain rfl : u = Value.ref a := rx
    obtain ⟨oe, od, mA, J, hns, hod, hr⟩ := hat.inst I1
    obtain ⟨od', ho, hlk⟩ := lookIn_ns hns
    rw [hod] at ho
    cases ho
    obtain ⟨u, hu, ru⟩ := RelO.some_of (v := v) (o := mA f) (by rw [← hl]; exact hr f)
    exact HandSPX.exc_get I1.kIn J R.ga R.gg R.ex (PySem.W.findObj_own R.hd nf rfl (by rw [hlk, hu])) (handed_of ru) ⟨v, H1, I1.tok _, ru, q⟩

/-! ### isinstance -/
inductive TyG (K : Frag) (H : Hp) : V → Value → Prop where
  | ty {x : V} {t : Value} (h : TyX K H x t) : TyG K H x t
  | exc {a C d : Addr} {fs : List (Str × V)} (h : ExcAt H a C d fs) (R : ErrR K C) : TyG K H (.ref a) (.ref C)
theorem kit_ofG {x : V} {u t : Value} (I : Inv X pins σ H s) (rx : RelV x u) (ty : TyG X.K H x t) : ∃ P : Heap → Prop, PySem.W.KitX X.K u t P ∧ P s.heap ∧ u ≠ .builtin "__main__.__loader__#opaque" := by
  cases ty with
  | ty h => exact kit_of I rx h
  | exc h R =>
    cases (show u = Value.ref _ from rx)
    obtain ⟨oe, od, mA, J, _, _, _⟩ := h.inst I
    exact ⟨_, PySem.W.kitx_exc R.cl R.ga R.gg R.ex R.cc R.cg R.ct R.mo, J, fun z => nomatch z⟩
def rIsG (K : Frag) : List V → Hp → VK → Prop := fun xs H Q => ∃ (x c : V) (t u : Value) (b : Bool), xs = [x, c] ∧ ClsV c u ∧ TyG K H x t ∧ kitOne K t u = some b ∧ Q (.bl b) H
def rIsGT (K : Frag) : List V → Hp → VK → Prop := fun xs H Q => ∃ (x : V) (tp : Addr) (cs : List V) (t : Value) (us : List Value) (b : Bool), xs = [x, .ref tp] ∧ H tp = some (.tup cs) ∧ Paired ClsV cs us ∧ TyG K H x t ∧ kitAny K t us = some b ∧ Q (.bl b) H
theorem call_isG : CallR X (.builtin "isinstance") (rIsG X.K) := by
  rintro pins s σ H xs us Q I r ⟨x, c, t, u, b, rfl, k, ty, e, q⟩
  obtain ⟨u1, u2, rfl, r1, r2⟩ := vals2 r
  obtain rfl := k.eq r2
  obtain ⟨P, Z, p, hx⟩ := kit_ofG I r1 ty
  exact PySem.W.kia_one Z I.kIn p e hx fun tk => ⟨.bl b, H, I.tok tk, rfl, q⟩
theorem call_isGT : CallR X (.builtin "isinstance") (rIsGT X.K) := by
  rintro pins s σ H xs us Q I r ⟨x, tp, cs, t, ws, b, rfl, hT, k, ty, e, q⟩
  obtain ⟨u1, u2, rfl, r1, r2⟩ := vals2 r
  cases (show u2 = Value.ref tp from r2)
  obtain ⟨P, Z, p, hx⟩ := kit_ofG I r1 ty
  obtain ⟨_, its, rv, ⟨oc, od, dt, sl⟩, h1, h2, n, h3⟩ := (show ObjOk X.prog X.w H s.heap tp (.tup cs) from I.hok tp _ hT)
  obtain rfl := ClsV.all k rv
  simp only at h2 h3
  subst h2 h3
  exact PySem.W.kia_tup Z I.kIn p h1 e hx fun tk => ⟨.bl b, H, I.tok tk, rfl, q⟩

/-! ### repr -/
/-- repr(x) of data -/
def rRepr (K : Frag) : List V → Hp → VK → Prop := fun xs H Q => ∃ (x : V) (d : PyData), xs = [x] ∧ Dp K H x d ∧ d.showable = true ∧ d.hasDict = false ∧ d.depth ≤ 40 ∧ d.shown.length ≤ sizeLine ∧ Q (.str d.shown) H
theorem call_repr {k : Nat} (hr : Room k X.A) (hG : X.A.guards = some []) : CallR X (.builtin "repr") (rRepr X.K) := by
  rintro pins s σ H xs us Q I r ⟨x, d, rfl, hd, hs, hnd, hdep, hsz, q⟩
  obtain ⟨u, rfl, r1⟩ := vals1 r
  obtain ⟨as, hrd⟩ := Dp.reads I d x u hd r1
  have fin : ∀ (h' : Heap) (t : Tok) (tk : Nat), (∀ b o, s.heap.get? b = some o → h'.get? b = some o) → EP X pins σ Q (.str d.shown t) { s with heap := h', toks := tk } := fun h' t tk kk => ⟨.str d.shown, H, I.kept (t' := tk) kk, ⟨t, rfl⟩, q⟩
  cases hrd with
  | none => exact PySem.P.repr_of_none (by simpa [PyData.shown] using fin s.heap _ _ fun _ _ e => e)
  | bool b => exact PySem.P.repr_of_bool (by cases b <;> simpa [PyData.shown] using fin s.heap _ _ fun _ _ e => e)
  | int i t => exact PySem.P.repr_of_int (by simpa [PyData.showable] using hs) (by simpa [PyData.shown] using fin s.heap _ _ fun _ _ e => e)
  | str y t => exact PySem.P.repr_of_str (by simpa [PyData.shown] using fin s.heap _ _ fun _ _ e => e) (by simpa [PyData.shown] using hsz)
  | list h1 h2 h3 h4 =>
    exact repr_of_reads' (.list h1 h2 h3 h4) hs (by rw [hnd]; exact fun z => nomatch z) hG (by have := hr.un; omega) (fun _ _ e => e) (fun h' t tk kk => fin h' t tk kk) hsz
  | tuple h1 h2 h3 h4 =>
    exact repr_of_reads' (.tuple h1 h2 h3 h4) hs (by rw [hnd]; exact fun z => nomatch z) hG (by have := hr.un; omega) (fun _ _ e => e) (fun h' t tk kk => fin h' t tk kk) hsz
  | dict h1 h2 h3 h4 h5 => simp [PyData.hasDict] at hnd
end
end BJ

/-! text * int, (x,) * int, xs[a::k], enumerate(text) -/
namespace BJ
open PySem PySem.Spec PyProof.Rows L2
section
variable {X : Cx}
/-- the sign c, n times -/
def repS (c : Nat) (n : Nat) : Str := ⟨(List.replicate n c).toArray⟩
theorem repS_len (c n : Nat) : (repS c n).length = n := by simp [repS, Str.length]
theorem foldl_rep1 (c : Nat) : ∀ n, (List.replicate n (#[c] : Array Nat)).foldl (· ++ ·) #[] = (List.replicate n c).toArray := by
  have h : ∀ n (acc : Array Nat), (List.replicate n (#[c] : Array Nat)).foldl (· ++ ·) acc = acc ++ (List.replicate n c).toArray := by
    intro n
    induction n with
    | zero => intro acc; simp
    | succ n ih =>
      intro acc
      rw [List.replicate_succ, List.foldl_cons, ih, List.replicate_succ, Array.append_assoc]
      congr 1
      simp
  intro n
  rw [h, Array.empty_append]
/-- 'c' * n, one sign, n at least 2 -/
def rMulS : R2 := fun x y H Q => ∃ (c : Nat) (n : Nat), x = .str ⟨#[c]⟩ ∧ y = .int (n : Int) ∧ 2 ≤ n ∧ n ≤ sizeLine ∧ Q (.str (repS c n)) H
theorem op_mulS : OpR X (binaryOp .Mult) rMulS := by
  rintro pins s σ H x y v u Q I rx ry ⟨c, n, rfl, rfl, h2, hn, q⟩
  obtain ⟨t, rfl⟩ := rx
  obtain ⟨t', rfl⟩ := ry
  rw [sizeLine_eq] at hn
  have hl : (⟨#[c]⟩ : Str).length = 1 := rfl
  refine PySem.P.mul_str ?_ (fun _ _ => ?_) (fun _ _ => ?_) ?_
  · simp only [Bool.or_eq_false_iff, decide_eq_false_iff_not]
    omega
  · rw [hl]
    have : (1 : Int) ≤ (2 ^ 63 - 1) / (n : Int) := by
      apply Int.le_ediv_of_mul_le (by omega)
      omega
    omega
  · rw [hl, Nat.one_mul]
    unfold PySem.Builtin.Str.tooLong
    rw [sizeLine_eq]
    simp
    omega
  · rw [if_neg (by omega), if_neg (by rw [hl]; simp; omega)]
    have e : (List.replicate ((n : Int)).toNat (⟨#[c]⟩ : Str).cps).foldl (· ++ ·) #[] = (List.replicate n c).toArray := by
      rw [Int.toNat_natCast]
      exact foldl_rep1 c n
    rw [e]
    refine ⟨?_, ?_⟩
    · show (repS c n).length ≤ sizeLine
      rw [repS_len, sizeLine_eq]
      exact hn
    · exact ⟨V.str (repS c n), H, I.tok _, ⟨_, rfl⟩, q⟩

/-- the items of xs[lo:hi:st] -/
def pickV (xs : List V) (lo hi st : Option Int) : List V :=
  (sliceRange (sliceBounds lo hi st xs.length).1 (sliceBounds lo hi st xs.length).2.1 (sliceBounds lo hi st xs.length).2.2).filterMap (xs[·]?)
theorem vals_places {xs : List V} {us : List Value} (h : Vals xs us) : ∀ l : List Nat, Vals (l.filterMap (xs[·]?)) (l.filterMap (us[·]?))
  | [] => .nil
  | i :: l => by
    cases e : xs[i]? with
    | none =>
      rw [List.filterMap_cons_none e, List.filterMap_cons_none (h.none_of e)]
      exact vals_places h l
    | some x =>
      obtain ⟨u, hu, r⟩ := h.get e
      rw [List.filterMap_cons_some e, List.filterMap_cons_some hu]
      exact .cons r (vals_places h l)
theorem slicePick_V {xs : List V} {us : List Value} (h : Vals xs us) (lo hi st : Option Int) : Vals (pickV xs lo hi st) (slicePick us.toArray lo hi st).toList := by
  have e : (slicePick us.toArray lo hi st).toList = (sliceRange (sliceBounds lo hi st xs.length).1 (sliceBounds lo hi st xs.length).2.1 (sliceBounds lo hi st xs.length).2.2).filterMap (us[·]?) := by
    simp [slicePick, h.length]
  rw [e]
  exact vals_places h _
/-- xs[lo:hi:st] of a list: a new list -/
def tSl3 (K : PySem.W.Frag) (te : TE) (tl th ts : TO) : TE := fun σ H Q => te σ H fun x H1 => tl σ H1 fun lo H2 => th σ H2 fun hi H3 => ts σ H3 fun st H4 =>
  ∃ a xs, x = .ref a ∧ SqL K H4 a xs ∧ st ≠ some 0 ∧ (pickV xs lo hi st).length ≤ sizeLine ∧ ∀ p, H4 p = none → Q (.ref p) (upd H4 p (.lst (pickV xs lo hi st)))
theorem pe_slice3 {e st : Expr} {lo hi : Option Expr} {te : TE} {tl th ts : TO} {p2 pos : Pos} (he : PE X e te) (hl : PO X lo tl) (hu : PO X hi th) (hst : PO X (some st) ts) : PE X (.Subscript e (.Slice lo hi (some st) p2) pos) (tSl3 X.K te tl th ts) where
  run := by
    intro pins s σ H Q I h
    refine Subscript_ (thn (he.run pins s σ H _ I h) ?_)
    rintro v s1 ⟨x, H1, I1, r1, q1⟩
    refine wpAny_Slice (thn (hl.run pins s1 σ H1 _ I1 q1) ?_)
    rintro vl s2 ⟨l, H2, I2, pl, q2⟩
    refine thn (hu.run pins s2 σ H2 _ I2 q2) ?_
    rintro vu s3 ⟨u, H3, I3, pu, q3⟩
    refine thn (hst.run pins s3 σ H3 _ I3 q3) ?_
    rintro vs s4 ⟨k, H4, I4, pk, a, xs, rfl, hx, k0, hsz, q⟩
    cases r1
    have I5 : Inv X pins σ H4 { s4 with heap := s4.heap.push { cls := .type "slice", data := .fields #[vl, vu, vs] } } := I4.kept (t' := s4.toks) fun b ob q => Heap.get?_push_of_some _ q
    obtain ⟨its, r, ht, hz⟩ := I5.list hx
    have hlen := r.length
    show wpAny (model X.prog X.w) X.A (subscriptTail e (.Slice lo hi (some st) p2) (.ref a) (.ref s4.heap.objs.size)) (EP X pins σ Q) X.xe { s4 with heap := s4.heap.push { cls := .type "slice", data := .fields #[vl, vu, vs] } }
    refine tail_any (ops := _) ht.isList.typeIs slot_list_getitem.lookup (wpAny_getItem_list_slice ht.isList (Heap.IsSliceOf.new ..) pl pu pk k0 ?_ (by rw [List.size_toArray]; omega)) (by with_unfolding_all rfl)
    have rp := slicePick_V r l u k
    refine ⟨.ref _, _, I5.laid (t' := s4.toks) (o := .lst (pickV xs l u k)) (fun b ob q => Heap.get?_push_of_some _ q) (Nat.le_refl _) ?_, rfl, q _ (I5.hok.fresh (Nat.le_refl _))⟩
    exact ⟨hsz, _, 0, rp, by rw [Array.toArray_toList]; exact Heap.get?_push_size _ rfl⟩

/-! ### (x,) * n -/
def rRep1 (K : PySem.W.Frag) : R2 := fun x y H Q => ∃ (l : Addr) (n : Nat) (v : V), x = .ref l ∧ y = .int (n : Int) ∧ SqT K H l [v] ∧ 2 ≤ n ∧ n ≤ 16777216 ∧ ∀ p, H p = none → Q (.ref p) (upd H p (.tup (List.replicate n v)))
theorem flat1 {α : Type} (v : α) : ∀ n, (List.replicate n [v]).flatten = List.replicate n v
  | 0 => rfl
  | n + 1 => by rw [List.replicate_succ, List.flatten_cons, flat1 v n]; rfl
theorem vals_rep {v : V} {u : Value} (r : RelV v u) : ∀ n, Vals (List.replicate n v) (List.replicate n u)
  | 0 => .nil
  | n + 1 => .cons r (vals_rep r n)
theorem op_rep1 : OpR X (binaryOp .Mult) (rRep1 X.K) := by
  rintro pins s σ H x y v u Q I rx ry ⟨l, m, w, rfl, rfl, hT, h2, hm, q⟩
  cases rx
  obtain ⟨t, rfl⟩ := ry
  obtain ⟨its, r, ⟨⟨cls, dd, data, sl⟩, ho, hc, n, hd⟩, hs⟩ := I.tuple hT
  simp only at hc hd
  subst hc hd
  cases r with
  | cons rw' rn =>
    rename_i u1 us1
    cases rn
    have hsz0 : ([u1] : List Value).toArray.size = 1 := rfl
    have ez : (List.foldl (fun x1 x2 => x1 ++ x2) #[] (List.replicate ((m : Int)).toNat ([u1] : List Value).toArray)) = (List.replicate m u1).toArray := by
      rw [size_rep, Int.toNat_natCast, flat1]
    have c0 : (decide ((m : Int) < -(2 ^ 63)) || decide ((m : Int) ≥ 2 ^ 63)) = false := by
      simp only [Bool.or_eq_false_iff, decide_eq_false_iff_not]
      omega
    have c1 : (([u1] : List Value).toArray.isEmpty || (m : Int) == 1) = false := by
      show (false || (m : Int) == 1) = false
      rw [Bool.false_or]
      exact beq_eq_false_iff_ne.mpr (by omega)
    have c2 : (decide ((m : Int) ≤ 0) || ([u1] : List Value).toArray.isEmpty) = false := by
      show (decide ((m : Int) ≤ 0) || false) = false
      rw [Bool.or_false]
      exact decide_eq_false (by omega)
    have c3 : ¬ ((([u1] : List Value).toArray.size : Nat) : Int) * (m : Int) > (2 ^ 63 - 1) / 8 := by
      rw [hsz0]
      omega
    have c4 : Builtin.Tuple.tupleTooMany (((([u1] : List Value).toArray.size : Nat) : Int) * (m : Int)) = false := by
      rw [hsz0]
      unfold Builtin.Tuple.tupleTooMany
      rw [sizeLine_eq]
      exact decide_eq_false (by omega)
    refine wpAny_binaryOp_repeat_ref (T := "tuple") (U := "int") (by decide) ⟨_, ho, rfl⟩ (fun s' => typeIs_int s' m t) noFill_tuple_mul F.fills_int_mul F.slot_int_rmul repeat_tuple F.slot_int_index.lookup
      (call_meets F.slot_int_rmul (typeIs_int s m t) F.entry_int_rmul (F.args_int_rmul_2 _ _) (int_rmul_tuple m t l _ n dd sl)
        ⟨ho, rfl, ⟨_, ho, rfl⟩, call_meets F.slot_tuple_mul ⟨_, ho, rfl⟩ F.entry_tuple_mul (F.args_tuple_mul_2 _ _)
          (tuple_mulW l _ n dd sl m t c0 c1 c2 c3 c4 (by rw [ez, List.size_toArray, List.length_replicate, sizeLine_eq]; exact hm)) ⟨ho, ?_⟩⟩)
    rw [ez]
    have rr : Vals (List.replicate m w) (List.replicate m u1) := vals_rep rw' m
    refine ⟨.ref s.heap.objs.size, _, I.laid (t' := s.toks) (o := .tup (List.replicate m w)) (fun b ob q => Heap.get?_push_of_some _ q) (Nat.le_refl _) ?_, rfl, q _ (I.hok.fresh (Nat.le_refl _))⟩
    exact ⟨by rw [List.length_replicate, sizeLine_eq]; exact hm, _, rr, IsTup.new _ _⟩

/-! ### enumerate(text) -/
def ItEs (x : Str) : It := ⟨fun i _ => i < x.cps.size, fun i H v H' => ∃ T c, v = .ref T ∧ H T = none ∧ H' = upd H T (.tup [.int (i : Nat), .str ⟨#[c]⟩]) ∧ x.cps[i]? = some c, fun i _ => i = x.cps.size⟩
theorem turn_enumS {P : Program} {w : World} {K : PySem.W.Frag} {elts : List Expr} {kk : Nat} {tpos : Pos} (e it : Addr) (x : Str) (t : Tok) :
    Turn P w K (.Tuple elts kk tpos) (ItEs x) [e, it] e (fun i h => (∃ old, IsEnum h e it ((i : Nat) : Int) old) ∧ h.IsStrIter it (strIterType x) x t i ∧ e ≠ it) where
  mem := by simp
  obj := by
    rintro i h ⟨⟨old, he⟩, ⟨o, ho, hc, hd⟩, _⟩ b hb
    have e' : b = e ∨ b = it := by simpa using hb
    rcases e' with rfl | rfl
    · exact ⟨_, he, fun v q => nomatch q⟩
    · exact ⟨o, ho, fun v q => by rw [hd] at q; cases q⟩
  keep := by
    rintro i h h' ⟨⟨old, he⟩, ⟨o, ho, r⟩, hne⟩ k
    exact ⟨⟨old, k e (by simp) _ he⟩, ⟨o, k it (by simp) o ho, r⟩, hne⟩
  item := by
    rintro X rfl rfl rfl hc i pins s σ H E I hf ⟨⟨old, he⟩, hit, hne⟩ hg
    have hel : e < s.heap.objs.size := Heap.lt_size he
    have hil : it < s.heap.objs.size := by
      obtain ⟨_, q, _⟩ := hit
      exact Heap.lt_size q
    have D : Draws X.prog X.w X.A.in1 it [it] x.cps.size (fun i v => ∃ c u, x.cps[i]? = some c ∧ v = .str ⟨#[c]⟩ u) (fun i h => h.IsStrIter it (strIterType x) x t i) := Draws.text (A := X.A.in1) (I.ok.hd hc) it x t
    refine wpAny_pyNext_enum_itemD (i := i) D he hit hg hne (by simpa using hne) fun v h' tk hv ho hit' hT hsz hk => ?_
    obtain ⟨c, u, hcx, rfl⟩ := hv
    refine ⟨_, rfl, wpAny_letOwnedTupleGo_enum (s := { s with heap := h', toks := tk + 1 }) ho fun h'' he' sb => ?_⟩
    have hT2 : h''.get? s.heap.objs.size = some { cls := .type "tuple", data := .seq #[.int i tk, .str ⟨#[c]⟩ u] } := (sb.2 _ (Nat.ne_of_gt hel)).trans hT
    have new : ObjOk X.prog X.w (upd H s.heap.objs.size (.tup [.int (i : Nat), .str ⟨#[c]⟩])) h'' s.heap.objs.size (.tup [.int (i : Nat), .str ⟨#[c]⟩]) :=
      ⟨by show 2 ≤ sizeLine; decide, [.int i tk, .str ⟨#[c]⟩ u], .cons ⟨_, rfl⟩ (.cons ⟨_, rfl⟩ .nil), ⟨_, hT2, rfl, _, rfl⟩⟩
    have I1 : Inv X pins σ (upd H s.heap.objs.size (.tup [.int (i : Nat), .str ⟨#[c]⟩])) { s with heap := h'', toks := tk + 1 } :=
      I.turnedNew (ch := [e, it]) (fun b ob hb q => (sb.2 b (fun z => hb (by simp [z]))).trans (hk b ob (fun z => hb (by simp [z])) (fun z => hb (by simp [z])) q)) hf (Nat.le_refl _) new
    refine ⟨.ref s.heap.objs.size, _, I1, rfl, ⟨_, c, rfl, I.hok.fresh (Nat.le_refl _), rfl, hcx⟩, ⟨⟨Value.str ⟨#[c]⟩ u, ?_⟩, ?_, hne⟩, fun b hb => ?_⟩
    · have e1 : ((i + 1 : Nat) : Int) = (i : Int) + 1 := by omega
      rw [e1]
      exact he'
    · obtain ⟨o, ho', r⟩ := hit'
      exact ⟨o, (sb.2 it (Ne.symm hne)).trans ho', r⟩
    · have e' : b = e ∨ b = it := by simpa using hb
      have hb' : b < s.heap.objs.size := by
        rcases e' with rfl | rfl
        · exact hel
        · exact hil
      rw [upd_ne (Nat.ne_of_lt hb')]
      exact (hf b hb).1
  done := by
    rintro X rfl rfl rfl hc i pins s σ H E I hf ⟨⟨old, he⟩, hit, hne⟩ hg
    obtain ⟨f0, f1, f2, f3, f4, f5⟩ := hf it (by simp)
    have hie : i = x.cps.size := hg
    subst hie
    have D : Draws X.prog X.w X.A.in1 it [it] x.cps.size (fun i v => ∃ c u, x.cps[i]? = some c ∧ v = .str ⟨#[c]⟩ u) (fun i h => h.IsStrIter it (strIterType x) x t i) := Draws.text (A := X.A.in1) (I.ok.hd hc) it x t
    exact wpAny_pyNext_enum_endD D he hit fun h' eb => ⟨rfl, I.turned (t' := s.toks) (fun b o hb q => eb b o hb q) f0 f1 f3 f4 f5⟩
  self := fun A i s Q E st h => by
    obtain ⟨⟨_, he⟩, _⟩ := st
    exact wpAny_pyIter_enum he h
def iEnumS (ta : TA) : TI := fun σ H R => ta σ H fun vs H1 => ∃ x, vs = [.str x] ∧ R (ItEs x) H1
theorem pi_enumS {e : Expr} {ta : TA} {p pos tpos : Pos} {elts : List Expr} {kk : Nat} (hg : Gl X "enumerate") (hm : X.mg "enumerate" = none) (ha : PA X [e] ta) (hs : starEach [e] X.env = [(false, eval e X.env)] := by rfl) :
    PI X (.Tuple elts kk tpos) (.Call (.Name "enumerate" p) [e] [] pos) (iEnumS ta) where
  run := by
    intro pins s σ H R I h
    refine Call_ (ld_blt I hg hm boot_enumerate (PyProof.Rows.callWith_type1 (thn (ha.run pos pins s σ H _ I h) ?_) hs rfl))
    rintro us s1 ⟨vs, H1, I1, r1, x, rfl, q⟩
    obtain ⟨u, rfl, r⟩ := vals1 r1
    obtain ⟨t, rfl⟩ := r
    refine call_enumerate_str fun h' he hit hsz hk => wpAny_pyIter_enum he ?_
    have I2 : Inv X pins σ H1 { s1 with heap := h' } := I1.kept (t' := s1.toks) hk
    refine ⟨s1.heap.objs.size + 1, [s1.heap.objs.size + 1, s1.heap.objs.size], _, _, H1, rfl, I2, turn_enumS (s1.heap.objs.size + 1) s1.heap.objs.size x t, ⟨⟨.none, he⟩, hit, Nat.succ_ne_self _⟩, fun b hb => ?_, q⟩
    have hle : s1.heap.objs.size ≤ b := by
      have e' : b = s1.heap.objs.size + 1 ∨ b = s1.heap.objs.size := by simpa using hb
      rcases e' with rfl | rfl
      · exact Nat.le_add_right _ _
      · exact Nat.le_refl _
    exact I1.fpOk hle (I1.hok.fresh hle)
end
end BJ

/-! defs as they stand in the text; the laws' drawing of numbers -/
namespace BJ
open PySem PySem.Spec PyProof.Rows L2
open PySem.W (Frag)

/-- the def st stands at f; its parameters, all positional, none with a default -/
structure DefAt (K : Frag) (x qual : Str) (st : Stmt) (f : Addr) (ps : List Str) : Prop where
  fn : ∃ fd, Fun K x qual st f fd ∧ Binds K fd ps []
section
variable {P : Program} {w : World} {K : Frag} {mg : Str → Option Value} {base : Heap}
theorem DefAt.okF {x qual : Str} {st : Stmt} {f : Addr} {N ps : List Str} {k : Nat} {sp : Sp} (D : DefAt K x qual st f ps) (S : FnScope N ps (defScope st))
    (len : ∀ vs H Q E, sp vs H Q E → vs.length = ps.length)
    (hbody : ∀ (cdv : Value) (A : Around) (outer : List Env) (s : Shared) (H : Hp) (vs : List V) (Q : VK) (E : XK),
      Room k (A.deeper (envOfC qual (defScope st) s.heap.objs.size f cdv)) → A.guards = some [] → sp vs H Q E →
      ∃ t, PSs (cxOf (L2.CX P w) P w K mg base N qual (defScope st) f cdv A outer s H E) (defBody st) t ∧ t { nx := fun _ H' => Q .non H', rt := Q } (start N vs) H) :
    ∃ fd, FnG P w K mg base (k + 1) f fd ps sp ∧ Binds K fd ps [] ∧ Fun K x qual st f fd := by
  obtain ⟨fd, F, hb⟩ := D.fn
  refine ⟨fd, ?_, hb, F⟩
  obtain ⟨oc, od, kV, doc, pm, an, cdv, ct, osl, rfl, lk, hcd⟩ := F.ex
  exact fnG_of lk hcd S len fun A outer s H vs Q E hr hg hsp => hbody cdv A outer s H vs Q E hr hg hsp
theorem DefAt.ok {x qual : Str} {st : Stmt} {f : Addr} {N ps : List Str} {k : Nat} {sp : Sp} (D : DefAt K x qual st f ps) (S : FnScope N ps (defScope st))
    (len : ∀ vs H Q E, sp vs H Q E → vs.length = ps.length)
    (hbody : ∀ (cdv : Value) (A : Around) (outer : List Env) (s : Shared) (H : Hp) (vs : List V) (Q : VK) (E : XK),
      Room k (A.deeper (envOfC qual (defScope st) s.heap.objs.size f cdv)) → A.guards = some [] → sp vs H Q E →
      ∃ t, PSs (cxOf (L2.CX P w) P w K mg base N qual (defScope st) f cdv A outer s H E) (defBody st) t ∧ t { nx := fun _ H' => Q .non H', rt := Q } (start N vs) H) :
    CallP P w K mg base (k + 1) (.ref f) sp := by
  obtain ⟨fd, F, hb, _⟩ := D.okF S len hbody
  have q := F.callP (dvs := []) hb .nil
  rintro A outer s H us ws vs zs Q E room hg e0 rel relz ⟨hz, prom⟩
  exact q A outer s H us ws vs zs Q E room hg e0 rel relz ⟨hz, show sp (vs ++ []) H Q E by rw [List.append_nil]; exact prom⟩
end

section
variable {X : Cx}
/-- a list by its very object, to be read: tracked or frozen, or one of the written part as it was made -/
def Scr (K : Frag) (H : Hp) (a : Addr) (xs : List V) : Prop :=
  Rd H a (.lst xs) ∨ ∃ (its : List Value) (n : Nat), K.lookup a = some { cls := .type "list", data := .seq its.toArray n } ∧ Vals xs its ∧ xs.length ≤ sizeLine
theorem Scr.sq {K : Frag} {H : Hp} {a : Addr} {xs : List V} (h : Scr K H a xs) : SqL K H a xs := by
  rcases h with h | ⟨its, n, hk, r, hz⟩
  · exact .inl h
  · exact .inr ⟨_, its.toArray, n, hk, rfl, rfl, rfl, by rw [List.size_toArray, ← r.length]; exact hz, r⟩
theorem Scr.at {pins : List (Addr × Obj)} {σ : L2.St} {H : Hp} {s : Shared} {a : Addr} {xs : List V} (I : Inv X pins σ H s) (h : Scr X.K H a xs) :
    ∃ (its : List Value) (n : Nat), Vals xs its ∧ IsL s.heap a its.toArray n ∧ xs.length ≤ sizeLine := by
  rcases h with h | ⟨its, n, hk, r, hz⟩
  · obtain ⟨z, its, n, r, e⟩ := h.ok I.hok
    exact ⟨its, n, r, e, z⟩
  · exact ⟨its, n, r, I.kIn _ _ hk, hz⟩
/-- xs + ys, both lists that may be read only -/
def rCatS (K : Frag) : R2 := fun x y H Q => ∃ l b xs zs, x = .ref l ∧ y = .ref b ∧ Scr K H l xs ∧ Scr K H b zs ∧ xs.length + zs.length ≤ sizeLine ∧ ∀ p, H p = none → Q (.ref p) (upd H p (.lst (xs ++ zs)))
theorem op_catS : OpR X (binaryOp .Add) (rCatS X.K) := by
  rintro pins s σ H x y v u Q I rx ry ⟨l, b, xs, zs, rfl, rfl, hH, hB, hz, q⟩
  cases rx
  cases ry
  obtain ⟨its, n, r, e, hl⟩ := hH.at I
  obtain ⟨its2, n2, r2, e2, hl2⟩ := hB.at I
  have q1 := r.length
  have q2 := r2.length
  refine PySem.P.add_list e e2 ?_ (by rw [List.size_toArray, List.size_toArray]; omega)
  rw [show its.toArray ++ its2.toArray = (its ++ its2).toArray from by simp]
  exact ⟨.ref _, _, I.lnew (t' := s.toks) (r.append r2) (by rw [List.length_append]; omega), rfl, q _ I.fresh⟩
end

/-! ### the law's call -/
/-- nothing is tracked but the script, frozen -/
theorem lawG {P : Program} {w : World} {K : Frag} {mg mb : Str → Option Value} {k : Nat} {fa a : Addr} {sp : Sp} {s₁ : Shared} {vs : List Value} {ns : List Int}
    (KX : K.In s₁.heap) (hns : s₁.heap.Ns mainGlobals mg) (hb : s₁.heap.Ns builtinsNs mb) (hbb : ∀ x : Str, x ≠ "__name__" → mb x = bootBuiltins x) (hlim : s₁.heap.NoLimit) (hg : s₁.gens = #[])
    (ha : s₁.heap.get? a = some { cls := .type "list", data := .seq vs.toArray }) (hi : IntsAre vs ns) (hl : ns.length ≤ sizeLine) (hr : Room k callerA)
    (F : ∀ base : Heap, K.In base → base.Ns mainGlobals mg → CallP P w K mg base k (.ref fa) sp)
    (hsp : ∀ H : Hp, Scr K H a (ns.map V.int) → sp [.ref a] H (fun v _ => v = .bl true) fun _ _ _ => False) :
    codeAny (model P w) callerA (.call (.ref fa) ⟨[.ref a], []⟩) (fun r s' => r = .ok (.ret (.bool true)) ∧ OldK s₁.heap s'.heap ∧ s'.os = s₁.os ∧ AllBare s'.gens) s₁ := by
  have rv := vals_ints hi
  have lenV := hi.length
  -- the abstract heap: the script alone, or nothing where the script is an object of the top
  have core : ∀ H : Hp, (∀ b u, H b = some u → b = a ∧ K.lookup a = none ∧ ∃ o xs, u = .frz o (.lst xs)) → HOk P w H s₁.heap → Scr K H a (ns.map V.int) →
      codeAny (model P w) callerA (.call (.ref fa) ⟨[.ref a], []⟩) (fun r s' => r = .ok (.ret (.bool true)) ∧ OldK s₁.heap s'.heap ∧ s'.os = s₁.os ∧ AllBare s'.gens) s₁ := by
    intro H hA hok hS
    have keepB : ∀ {b : Addr} {o : Obj}, s₁.heap.get? b = some o → H b = none → (hidT s₁.heap H).get? b = some o := fun e n => hidT_get e n
    have nsK : ∀ {b : Addr} {m : Str → Option Value}, s₁.heap.Ns b m → (hidT s₁.heap H).Ns b m := by
      rintro b m ⟨o, es, ep, e, d, r⟩
      refine ⟨o, es, ep, keepB e ?_, d, r⟩
      cases q : H b with
      | none => rfl
      | some u =>
        obtain ⟨rfl, _, _⟩ := hA b u q
        rw [ha] at e
        cases e
        cases d
    have kin : K.In (hidT s₁.heap H) := by
      intro b o e
      refine keepB (KX b o e) ?_
      cases q : H b with
      | none => rfl
      | some u =>
        obtain ⟨rfl, z, _⟩ := hA b u q
        rw [z] at e
        cases e
    obtain ⟨mc, l1, l2⟩ := id hlim
    have md : Mod K mg (hidT s₁.heap H) := ⟨kin, nsK hns, ⟨mb, nsK hb, hbb⟩, ⟨mc, nsK l1, l2⟩⟩
    have e0 : Env0 P w K mg (hidT s₁.heap H) callerA [] s₁ H :=
      ⟨rfl, md, fun b o e => of_hidT e, Nat.le_of_eq (hidT_size _ _), trivial, (fun b hb => absurd (show b ∈ ([] : List Addr) from hb) (by simp)), hok, AllBare.of_eq hg⟩
    refine codeAny_mono (F _ kin (nsK hns) callerA [] s₁ H [.ref a] [] [.ref a] [] _ _ hr rfl e0 (.cons rfl .nil) .nil ⟨rfl, hsp H hS⟩) ?_
    intro r s' h
    match r, h with
    | .error e, ⟨_, _, _, _, _, _, _, _, _, _, _, _, z⟩ => exact z.elim
    | .ok (.ret u), ⟨v, H', os, bare, un, hok', r', q⟩ =>
      obtain rfl : v = .bl true := q
      obtain rfl : u = Value.bool true := r'
      refine ⟨rfl, OldK.of_keep fun b o e => ?_, os, bare⟩
      cases q : H b with
      | none => exact un.keep b o e q (fun z => nomatch (show b ∈ ([] : List Addr) from z)) (fun z => nomatch z)
      | some u =>
        obtain ⟨_, _, ob, xs, rfl⟩ := hA b u q
        have e1 := (hok b _ q).1
        have e2 := (hok' b _ (un.frzs b ob _ q)).1
        rw [e] at e1
        cases e1
        exact e2
  cases hk : K.lookup a with
  | some o =>
    have e := KX a o hk
    rw [ha] at e
    cases e
    exact core (fun _ => none) (fun b u z => nomatch z) (fun b u z => nomatch z) (.inr ⟨vs, 0, hk, rv, by rw [List.length_map]; exact hl⟩)
  | none =>
    refine core (fun b => if b = a then some (.frz { cls := .type "list", data := .seq vs.toArray } (.lst (ns.map V.int))) else none) (fun b u z => ?_) (fun b u z => ?_) (.inl (.inr ⟨_, if_pos rfl⟩))
    · by_cases h : b = a
      · have q := (if_pos h).symm.trans z
        cases q
        exact ⟨h, hk, _, _, rfl⟩
      · exact nomatch (if_neg h).symm.trans z
    · by_cases h : b = a
      · have q := (if_pos h).symm.trans z
        cases q
        subst h
        exact ⟨ha, by rw [List.length_map]; exact hl, vs, _, rv, ha⟩
      · exact nomatch (if_neg h).symm.trans z
open PySem.W in
/-- what k_head leaves of a law, from the law's promise -/
theorem walkG {l : OpenLaw} {n k : Nat} {q : Program} {loose : List Str} {XP : (Str → Option Value) → Heap → Prop} {YP : World → Heap → Prop} {d : DefRec} {K : Params → Frag} {sp : World → Sp}
    (hn : l.most = some n) (hn2 : n ≤ sizeLine) (hdf : d.params.defaults = []) (hr : Room k callerA) (hY : ∀ (w : World) (h : Heap), YP w h → (K w.params).In h)
    (F : ∀ (w : World) (mg : Str → Option Value) (fa : Addr) (h : Heap), (K w.params).In h → h.Ns mainGlobals mg → mg d.name = some (.ref fa) →
      ∀ base : Heap, (K w.params).In base → base.Ns mainGlobals mg → CallP l.prog w (K w.params) mg base k (.ref fa) (sp w))
    (hsp : ∀ (w : World) (H : Hp) (a : Addr) (ns : List Int), ns.length ≤ n → (∀ z ∈ ns, Builtin.Int.intBits z ≤ 1048576) → Scr (K w.params) H a (ns.map V.int) → sp w [.ref a] H (fun v _ => v = .bl true) fun _ _ _ => False) :
    WalkO q loose XP YP l.row.toRowW d [] (fun f vs => PySem.call f vs) := by
  refine Att.attach_callB hn hdf fun w s₀ s₁ mg mb fa o pm cd doc a vs ns G Y ho hd hcd hmg hobj hints hlen hbits hg => ?_
  have KX := hY w _ Y
  exact lawG KX G.T.g G.T.b G.T.builtins G.T.nolimit hg hobj hints (Nat.le_trans hlen hn2) hr (F w mg fa _ KX G.T.g hmg) fun H hS => hsp w H a ns hlen hbits hS
end BJ

/-! the laws' drawing of numbers: what its dict is, what a draw promises -/
namespace BJ
open PySem PySem.Spec PyProof.Rows L2
open PySem.W (Frag)

theorem upd_keep {H : Hp} {a p : Addr} {o u : HO} (h : H a = some u) (np : H p = none) : upd H p o a = some u := by rw [upd_ne (ne_of_none h np)]; exact h
theorem same_upd {H : Hp} {p : Addr} {o : HO} (np : H p = none) : Same H (upd H p o) := fun _ _ e => upd_keep e np
theorem Same.trans' {H H1 H2 : Hp} (a : Same H H1) (b : Same H1 H2) : Same H H2 := fun p o e => b p o (a p o e)
theorem Same.rfl' {H : Hp} : Same H H := fun _ _ e => e

theorem ifd {p : Prop} [Decidable p] {A B : Prop} (h1 : p → A) (h2 : ¬ p → B) : if decide p = true then A else B := by
  by_cases h : p
  · rw [if_pos (decide_eq_true h)]
    exact h1 h
  · rw [if_neg (by simpa using h)]
    exact h2 h
theorem ifb {b : Bool} {A B : Prop} (h1 : b = true → A) (h2 : b = false → B) : if b = true then A else B := by
  cases b with
  | true => exact h1 rfl
  | false => exact h2 rfl
def drw (c : Addr) (a l u : Int) : List (Key × V) := [(.inr "cells", .ref c), (.inr "at", .int a), (.inr "left", .int l), (.inr "used", .int u)]
section
variable {c : Addr} {a l u i : Int} {v : V}
theorem drw_cells : valV (drw c a l u) (Sum.inr "cells") = some (.ref c) := by simp [drw, valV]
theorem drw_at : valV (drw c a l u) (Sum.inr "at") = some (.int a) := by
  have h1 : ¬ (("cells" : Str) = "at") := by decide
  simp [drw, valV, List.find?, h1]
theorem drw_left : valV (drw c a l u) (Sum.inr "left") = some (.int l) := by
  have h1 : ¬ (("cells" : Str) = "left") := by decide
  have h2 : ¬ (("at" : Str) = "left") := by decide
  simp [drw, valV, List.find?, h1, h2]
theorem drw_used : valV (drw c a l u) (Sum.inr "used") = some (.int u) := by
  have h1 : ¬ (("cells" : Str) = "used") := by decide
  have h2 : ¬ (("at" : Str) = "used") := by decide
  have h3 : ¬ (("left" : Str) = "used") := by decide
  simp [drw, valV, List.find?, h1, h2, h3]
theorem drw_put_at : putK (drw c a l u) (Sum.inr "at") (.int i) = drw c i l u := by
  have h1 : ¬ (("cells" : Str) = "at") := by decide
  have h2 : ¬ (("left" : Str) = "at") := by decide
  have h3 : ¬ (("used" : Str) = "at") := by decide
  simp [drw, putK, h1, h2, h3]
theorem drw_put_left : putK (drw c a l u) (Sum.inr "left") (.int i) = drw c a i u := by
  have h1 : ¬ (("cells" : Str) = "left") := by decide
  have h2 : ¬ (("at" : Str) = "left") := by decide
  have h3 : ¬ (("used" : Str) = "left") := by decide
  simp [drw, putK, h1, h2, h3]
theorem drw_put_used : putK (drw c a l u) (Sum.inr "used") (.int i) = drw c a l i := by
  have h1 : ¬ (("cells" : Str) = "used") := by decide
  have h2 : ¬ (("at" : Str) = "used") := by decide
  have h3 : ¬ (("left" : Str) = "used") := by decide
  simp [drw, putK, h1, h2, h3]
theorem drw_len : (drw c a l u).length = 4 := rfl
end
/-- the dict of the draws at d, its cells at c; at most n draws were made -/
structure Dr (H : Hp) (d c : Addr) (cells : List Int) (n : Nat) : Prop where
  dict : ∃ a l u, H d = some (.dK (drw c a l u)) ∧ 0 ≤ a ∧ a ≤ (n : Int) ∧ 0 ≤ u ∧ u ≤ (n : Int) ∧ 0 ≤ l
  list : H c = some (.lst (cells.map V.int))
  ne : cells ≠ []
  len : cells.length ≤ 64
theorem Dr.dc {H : Hp} {d c : Addr} {cells : List Int} {n : Nat} (D : Dr H d c cells n) : d ≠ c := by
  obtain ⟨a, l, u, h, _⟩ := D.dict
  exact ne_of h D.list (fun z => nomatch z)
theorem Dr.mono {H : Hp} {d c : Addr} {cells : List Int} {n m : Nat} (D : Dr H d c cells n) (h : n ≤ m) : Dr H d c cells m := by
  obtain ⟨⟨a, l, u, h1, h2, h3, h4, h5, h6⟩, hl, hn, hz⟩ := D
  exact ⟨⟨a, l, u, h1, h2, by omega, h4, by omega, h6⟩, hl, hn, hz⟩
theorem Dr.same {H H' : Hp} {d c : Addr} {cells : List Int} {n : Nat} (D : Dr H d c cells n) (s : Same H H') : Dr H' d c cells n := by
  obtain ⟨⟨a, l, u, h1, h2⟩, hl, hn, hz⟩ := D
  exact ⟨⟨a, l, u, s _ _ h1, h2⟩, s _ _ hl, hn, hz⟩
/-- all stands but at d -/
def But (d : Addr) (H H' : Hp) : Prop := ∀ p, p ≠ d → H' p = H p
theorem But.trans {d : Addr} {H H1 H2 : Hp} (a : But d H H1) (b : But d H1 H2) : But d H H2 := fun p h => (b p h).trans (a p h)
theorem But.rfl {d : Addr} {H : Hp} : But d H H := fun _ _ => Eq.refl _
theorem But.upd {d : Addr} {H : Hp} {o : HO} : But d H (upd H d o) := fun _ h => upd_ne h
/-- old things stand but d (new things may have come) -/
def SameBut (d : Addr) (H H' : Hp) : Prop := ∀ p o, p ≠ d → H p = some o → H' p = some o
theorem SameBut.rfl {d : Addr} {H : Hp} : SameBut d H H := fun _ _ _ e => e
theorem SameBut.trans {d : Addr} {H H1 H2 : Hp} (a : SameBut d H H1) (b : SameBut d H1 H2) : SameBut d H H2 := fun p o h e => b p o h (a p o h e)
theorem SameBut.of {d : Addr} {H H' : Hp} (s : Same H H') : SameBut d H H' := fun p o _ e => s p o e
theorem But.sb {d : Addr} {H H' : Hp} (b : But d H H') : SameBut d H H' := fun p o h e => (b p h).trans e

theorem dg {H : Hp} {d : Addr} {kvs : List (Key × V)} {k : Key} {v : V} (h : H d = some (.dK kvs)) (e : valV kvs k = some v) : DGet H d (kV k) (some v) := by
  rw [← e]
  exact DGet.k h
theorem dp {H : Hp} {d : Addr} {kvs kvs' : List (Key × V)} {k : Key} {v : V} (h : H d = some (.dK kvs)) (e : putK kvs k v = kvs') (hl : kvs.length < 1000) : DPut H d (kV k) v (upd H d (.dK kvs')) := by
  rw [← e]
  exact DPut.k h (Nat.lt_of_lt_of_le hl (by decide))
theorem fm {i b : Int} (h : 0 < b) : 0 ≤ i.fmod b ∧ i.fmod b < b := by
  rw [Int.fmod_eq_emod_of_nonneg i (by omega)]
  exact ⟨Int.emod_nonneg _ (by omega), Int.emod_lt_of_pos _ h⟩
theorem fd {i b : Int} (h : 0 < b) (hi : 0 ≤ i) : 0 ≤ i.fdiv b := by
  rw [Int.fdiv_eq_ediv_of_nonneg i (by omega)]
  exact Int.ediv_nonneg hi (by omega)
theorem Dr_up {H : Hp} {d c : Addr} {cells : List Int} {n : Nat} (D : Dr H d c cells n) {a l u : Int} (h1 : 0 ≤ a) (h2 : a ≤ (n : Int) + 1) (h3 : 0 ≤ u) (h4 : u ≤ (n : Int) + 1) (h5 : 0 ≤ l) : Dr (upd H d (.dK (drw c a l u))) d c cells (n + 1) :=
  ⟨⟨a, l, u, upd_same, h1, by omega, h3, by omega, h5⟩, by rw [upd_ne D.dc.symm]; exact D.list, D.ne, D.len⟩
def spBegin (K : Frag) : Sp := fun vs H Q _ => ∃ (a : Addr) (ns : List Int), vs = [.ref a] ∧ Scr K H a (ns.map V.int) ∧ ns.length ≤ 63 ∧ ∀ d c H', Same H H' → H d = none → H c = none → Dr H' d c (ns ++ [0]) 0 → Q (.ref d) H'
def spMixed : Sp := fun vs H Q _ => ∃ (cell k : Int), vs = [.int cell, .int k] ∧ 0 ≤ k ∧ k ≤ 1000000000 ∧ ∀ r, 0 ≤ r → Q (.int r) H
def spNext : Sp := fun vs H Q _ => ∃ (d c : Addr) (cells : List Int) (n : Nat) (b : Int), vs = [.ref d, .int b] ∧ Dr H d c cells n ∧ n < 1000000000 ∧ 0 < b ∧ b < 1073741824 ∧
  ∀ r H', 0 ≤ r → r < b → Dr H' d c cells (n + 1) → But d H H' → Q (.int r) H'
end BJ

/-! what evaluates (on Evl): calls, comprehensions by walks; types of values; data with {} -/
namespace BJ
open PySem PySem.Spec PyProof.Rows L2 Evl
open PySem.W (Frag kitOne kitAny)

section
variable {σ : L2.St} {H : Hp} {z : V}
/-- a def's promise gives the value z -/
def SpE (sp : Sp) (vs : List V) (H : Hp) (z : V) : Prop := ∀ H1, Ex H H1 → ∀ (Q : VK) (E : XK), (∀ H2, Ex H1 H2 → Q z H2) → sp vs H1 Q E
theorem ev_ca {sp : Sp} {W : WX} {t : TA} {vs : List V} (h : EvA t σ H vs) (hs : SpE sp vs H z) : Ev (tCa sp W t) σ H z := fun H1 e Q q =>
  h H1 e _ fun H2 e2 => hs H2 (e.trans e2) Q _ fun H3 e3 => q H3 (e2.trans e3)
theorem et_yes : EvT tYes σ H true := fun H1 _ _ q => q H1 (Ex.refl H1)

theorem given_len' (n : Nat) (f : Nat → Bool) (v : Nat → V) : (given n f v).length ≤ n := given_len n f v
theorem cw_turn' {t : TT} {te : TE} {H H' : Hp} {f : Nat → Bool} {v : Nat → V} {Dl : Addr} {i : Nat} {σ2 : L2.St} (p : Cw H f v Dl i H') (hi : i < 1000000) (ht : EvT t σ2 H (f i)) (he : f i = true → Ev te σ2 H (v i)) :
    t σ2 H' fun b H3 => if b = true then te σ2 H3 fun y H4 => ∃ acc, H4 Dl = some (.lst acc) ∧ acc.length < sizeLine ∧ Cw H f v Dl (i + 1) (upd H4 Dl (.lst (acc ++ [y]))) else Cw H f v Dl (i + 1) H3 := by
  obtain ⟨p1, p2, p3⟩ := p
  refine ht H' p2 _ fun H3 e3 => ?_
  cases hf : f i with
  | true =>
    show te σ2 H3 fun y H4 => ∃ acc, H4 Dl = some (.lst acc) ∧ acc.length < sizeLine ∧ Cw H f v Dl (i + 1) (upd H4 Dl (.lst (acc ++ [y])))
    refine he hf H3 (p2.trans e3) _ fun H4 e4 => ⟨given i f v, e4 Dl _ (e3 Dl _ p3), (by have := given_len i f v; rw [sizeLine_eq]; omega), p1, Ex.mut ((p2.trans e3).trans e4) p1, ?_⟩
    rw [given_yes hf]
    exact upd_same
  | false =>
    show Cw H f v Dl (i + 1) H3
    refine ⟨p1, p2.trans e3, ?_⟩
    rw [given_no hf]
    exact e3 Dl _ p3
/-- a comprehension over a walk; the turn may lay objects, changes none -/
theorem lc_ev {J : It} {n : Nat} {G : Hp → Prop} {Y : Nat → Hp → V → Hp → Prop} (w : Walk J n G Y) {g : TG} {tt : TT} {te : TE} {vs : List Nat} {H1 : Hp} {Q : VK} (f : Nat → Bool) (v : Nat → V) (hn : n ≤ 1000000)
    (hG : ∀ H, Ex H1 H → G H)
    (hs : ∀ i x H2 H3, i < n → Ex H1 H2 → Y i H2 x H3 → ∃ σ2, wipe σ2 vs = wipe σ vs ∧ Ex H2 H3 ∧ (∀ Q : L2.St → Hp → Prop, Q σ2 H3 → g x (wipe σ vs) H3 Q) ∧ EvT tt σ2 H1 (f i) ∧ (f i = true → Ev te σ2 H1 (v i)))
    (k : ∀ D H', H1 D = none → Ex H1 H' → H' D = some (.lst (given n f v)) → Q (.ref D) H') :
    ∀ D, H1 D = none → ∃ W : Nat → Nat → Hp → Prop, (∃ m, W 0 m (upd H1 D (.lst []))) ∧ ∀ i m H, W i m H →
      (J.stop i H ∧ Q (.ref D) H) ∨ (J.go i H ∧ ∃ Nx : Hp → Prop, (∀ H', Nx H' → ∃ m', m' < m ∧ W (i + 1) m' H') ∧ ∀ x H', J.yld i H x H' → g x (wipe σ vs) H' fun σ2 H2 => wipe σ2 vs = wipe σ vs ∧ tt σ2 H2 fun b H3 =>
        if b = true then te σ2 H3 fun y H4 => ∃ acc, H4 D = some (.lst acc) ∧ acc.length < sizeLine ∧ Nx (upd H4 D (.lst (acc ++ [y]))) else Nx H3) := fun D hD =>
  lc_it w (Cw H1 f v D) ⟨hD, Ex.new hD, upd_same⟩ (fun i H _ p => hG H p.2.1) (fun i x H2 H3 hi p y => by
    obtain ⟨σ2, hw, e3, hg, ht, he⟩ := hs i x H2 H3 hi p.2.1 y
    exact hg _ ⟨hw, cw_turn' ⟨p.1, p.2.1.trans e3, e3 D _ p.2.2⟩ (by omega) ht he⟩) fun H' p => k D H' p.1 p.2.1 p.2.2
theorem given_map {α : Type} (xs : List α) (d : α) (f : α → Bool) (F : α → V) : given xs.length (fun i => f (xs.getD i d)) (fun i => F (xs.getD i d)) = (xs.filter f).map F := by
  unfold given
  have h : (List.range xs.length).map (fun i => xs.getD i d) = xs := by
    apply List.ext_getElem
    · simp
    · intro i h1 h2
      simp [List.getD, List.getElem?_eq_getElem h2]
  have e : ((List.range xs.length).filter (fun i => f (xs.getD i d))).map (fun i => xs.getD i d) = xs.filter f := by
    conv => rhs; rw [← h]
    rw [List.filter_map]
    rfl
  rw [← e, List.map_map]
  rfl
/-- .. its target a name, the items those of xs -/
theorem lc_at {J : It} {xs : List V} {G : Hp → Prop} (w : Walk J xs.length G (YAt xs)) {j : Nat} {tt : TT} {te : TE} {vs : List Nat} {H1 : Hp} {Q : VK} (f : V → Bool) (F : V → V) (hn : xs.length ≤ 1000000)
    (hG : ∀ H, Ex H1 H → G H) (hw : ∀ x, wipe ((wipe σ vs).set j (some x)) vs = wipe σ vs)
    (ht : ∀ x ∈ xs, EvT tt ((wipe σ vs).set j (some x)) H1 (f x)) (he : ∀ x ∈ xs, f x = true → Ev te ((wipe σ vs).set j (some x)) H1 (F x))
    (k : ∀ D H', H1 D = none → Ex H1 H' → H' D = some (.lst ((xs.filter f).map F)) → Q (.ref D) H') :
    ∀ D, H1 D = none → ∃ W : Nat → Nat → Hp → Prop, (∃ m, W 0 m (upd H1 D (.lst []))) ∧ ∀ i m H, W i m H →
      (J.stop i H ∧ Q (.ref D) H) ∨ (J.go i H ∧ ∃ Nx : Hp → Prop, (∀ H', Nx H' → ∃ m', m' < m ∧ W (i + 1) m' H') ∧ ∀ x H', J.yld i H x H' → gName j x (wipe σ vs) H' fun σ2 H2 => wipe σ2 vs = wipe σ vs ∧ tt σ2 H2 fun b H3 =>
        if b = true then te σ2 H3 fun y H4 => ∃ acc, H4 D = some (.lst acc) ∧ acc.length < sizeLine ∧ Nx (upd H4 D (.lst (acc ++ [y]))) else Nx H3) :=
  lc_ev w (fun i => f (xs.getD i .non)) (fun i => F (xs.getD i .non)) hn hG (fun i x H2 H3 hi e ⟨e1, hx⟩ => by
    subst e1
    have hm : x ∈ xs := List.mem_of_getElem? hx
    have hd : xs.getD i .non = x := by rw [List.getD, hx]; rfl
    refine ⟨_, hw x, Ex.refl _, fun Q q => q, ?_, ?_⟩
    · rw [hd]; exact ht x hm
    · rw [hd]; exact he x hm) (by rw [given_map]; exact k)
/-- .. its target a pair (a, b) of names -/
theorem lc_pr {J : It} {ps : List (V × V)} {G : Hp → Prop} {K : Frag} (w : Walk J ps.length G (fun i H v H' => ∃ T p, v = .ref T ∧ H T = none ∧ H' = upd H T (.tup [p.1, p.2]) ∧ ps[i]? = some p)) {j l : Nat} {tt : TT} {te : TE} {vs : List Nat} {H1 : Hp} {Q : VK} (f : V × V → Bool) (F : V × V → V) (hn : ps.length ≤ 1000000)
    (hG : ∀ H, Ex H1 H → G H) (hw : ∀ x y, wipe (((wipe σ vs).set j (some x)).set l (some y)) vs = wipe σ vs)
    (ht : ∀ p ∈ ps, EvT tt (((wipe σ vs).set j (some p.1)).set l (some p.2)) H1 (f p)) (he : ∀ p ∈ ps, f p = true → Ev te (((wipe σ vs).set j (some p.1)).set l (some p.2)) H1 (F p))
    (k : ∀ D H', H1 D = none → Ex H1 H' → H' D = some (.lst ((ps.filter f).map F)) → Q (.ref D) H') :
    ∀ D, H1 D = none → ∃ W : Nat → Nat → Hp → Prop, (∃ m, W 0 m (upd H1 D (.lst []))) ∧ ∀ i m H, W i m H →
      (J.stop i H ∧ Q (.ref D) H) ∨ (J.go i H ∧ ∃ Nx : Hp → Prop, (∀ H', Nx H' → ∃ m', m' < m ∧ W (i + 1) m' H') ∧ ∀ x H', J.yld i H x H' → gTup K 2 (gCons (gName j) (gCons (gName l) gNil)) x (wipe σ vs) H' fun σ2 H2 => wipe σ2 vs = wipe σ vs ∧ tt σ2 H2 fun b H3 =>
        if b = true then te σ2 H3 fun y H4 => ∃ acc, H4 D = some (.lst acc) ∧ acc.length < sizeLine ∧ Nx (upd H4 D (.lst (acc ++ [y]))) else Nx H3) :=
  lc_ev w (fun i => f (ps.getD i (.non, .non))) (fun i => F (ps.getD i (.non, .non))) hn hG (fun i x H2 H3 hi e y => by
    obtain ⟨T, ⟨p1, p2⟩, rfl, hT, rfl, hx⟩ := y
    have hm : (p1, p2) ∈ ps := List.mem_of_getElem? hx
    have hd : ps.getD i (.non, .non) = (p1, p2) := by rw [List.getD, hx]; rfl
    refine ⟨_, hw p1 p2, Ex.new hT, fun Q q => ⟨T, [p1, p2], rfl, st_of upd_same, rfl, p1, [p2], rfl, p2, [], rfl, rfl, q⟩, ?_, ?_⟩
    · rw [hd]; exact ht _ hm
    · rw [hd]; exact he _ hm) (by rw [given_map]; exact k)
theorem walk_strA {z : Str} : Walk (Its z) ((z.cps.toList.map fun c => V.str ⟨#[c]⟩).length) (fun _ => True) (YAt (z.cps.toList.map fun c => V.str ⟨#[c]⟩)) := by
  have e : (z.cps.toList.map fun c => V.str ⟨#[c]⟩).length = z.cps.size := by simp
  rw [e]
  refine walk_str.mono (fun _ h => h) fun i H x H' hi _ ⟨h1, c, hc, hx⟩ => ⟨h1, ?_⟩
  rw [List.getElem?_map, Array.getElem?_toList, hc, hx]
  rfl
theorem walk_rangeA {lo : Int} {n : Nat} : Walk (Itr lo n) (((List.range n).map fun i => V.int (lo + (i : Nat))).length) (fun _ => True) (YAt ((List.range n).map fun i => V.int (lo + (i : Nat)))) := by
  have e : ((List.range n).map fun i => V.int (lo + (i : Nat))).length = n := by simp
  rw [e]
  refine walk_range.mono (fun _ h => h) fun i H x H' hi _ ⟨h1, h2⟩ => ⟨h1, ?_⟩
  rw [List.getElem?_map, List.getElem?_range hi, h2]
  rfl
theorem walk_rangeCA {lo c : Int} {n : Nat} : Walk (Itc lo c n) (((List.range n).map fun i => V.int (lo + (i : Nat) * c)).length) (fun _ => True) (YAt ((List.range n).map fun i => V.int (lo + (i : Nat) * c))) := by
  have e : ((List.range n).map fun i => V.int (lo + (i : Nat) * c)).length = n := by simp
  rw [e]
  refine walk_rangeC.mono (fun _ h => h) fun i H x H' hi _ ⟨h1, h2⟩ => ⟨h1, ?_⟩
  rw [List.getElem?_map, List.getElem?_range hi, h2]
  rfl
/-- enumerate(text) -/
def enumP (z : Str) : List (V × V) := (z.cps.toList.zipIdx).map fun p => (V.int (p.2 : Nat), V.str ⟨#[p.1]⟩)
theorem enumP_len (z : Str) : (enumP z).length = z.cps.size := by simp [enumP]
theorem walk_enumSA {z : Str} : Walk (ItEs z) (enumP z).length (fun _ => True) (fun i H v H' => ∃ T p, v = .ref T ∧ H T = none ∧ H' = upd H T (.tup [p.1, p.2]) ∧ (enumP z)[i]? = some p) := by
  rw [enumP_len]
  refine ⟨fun i H hi _ => hi, fun H _ => rfl, fun i H v H' hi _ ⟨T, c, h1, h2, h3, h4⟩ => ⟨T, (V.int (i : Nat), V.str ⟨#[c]⟩), h1, h2, h3, ?_⟩⟩
  unfold enumP
  rw [List.getElem?_map, List.getElem?_zipIdx, Array.getElem?_toList, h4]
  simp
theorem walk_zipA {K : Frag} {a b : Addr} {xs ys : List V} : Walk (Itz K a b) (xs.zip ys).length (fun H => SqL K H a xs ∧ SqL K H b ys) (fun i H v H' => ∃ T p, v = .ref T ∧ H T = none ∧ H' = upd H T (.tup [p.1, p.2]) ∧ (xs.zip ys)[i]? = some p) := by
  refine (walk_zip (n := (xs.zip ys).length) (by simp)).mono (fun _ h => h) fun i H v H' hi _ ⟨T, x, y, h1, h2, h3, h4, h5⟩ => ⟨T, (x, y), h1, h2, h3, ?_⟩
  rw [List.getElem?_zip_eq_some]
  exact ⟨h4, h5⟩
end

/-! ### types -/
theorem ty_tup {K : Frag} {H : Hp} {p : Addr} {xs : List V} (h : SqT K H p xs) : TyX K H (.ref p) (.type "tuple") := by
  rcases h with (h | ⟨o, h⟩) | ⟨o, its, n, hk, hc, _⟩
  · exact .base (.tup h)
  · exact .fTuple h
  · exact .kTuple hk hc
theorem ty_lst {K : Frag} {H : Hp} {p : Addr} {xs : List V} (h : SqL K H p xs) : TyX K H (.ref p) (.type "list") := by
  rcases h with (h | ⟨o, h⟩) | ⟨o, its, n, hk, hc, _⟩
  · exact .base (.lst h)
  · exact .base (.frz h)
  · exact .kList hk hc
/-- x is of the built-in type n -/
def TyN (K : Frag) (H : Hp) (x : V) (n : String) : Prop := TyX K H x (.type n)
theorem tyx_ex {K : Frag} {H H' : Hp} (e : Ex H H') {x : V} {n : String} (h : TyX K H x (.type n)) : TyX K H' x (.type n) := by
  generalize ht : Value.type n = t at h
  cases h with
  | base b =>
    cases b with
    | non => exact .base .non
    | bl y => exact .base (.bl y)
    | int i => exact .base (.int i)
    | str y => exact .base (.str y)
    | flt y => exact .base (.flt y)
    | lst ea => exact .base (.lst (e _ _ ea))
    | frz ea => exact .base (.frz (e _ _ ea))
    | tup ea => exact .base (.tup (e _ _ ea))
    | dK ea => exact .base (.dK (e _ _ ea))
    | dT ea => exact .base (.dT (e _ _ ea))
    | ins => cases ht
  | byt b => exact .byt b
  | set ea => exact .set (e _ _ ea)
  | kList ea c => exact .kList ea c
  | kTuple ea c => exact .kTuple ea c
  | kDict ea c => exact .kDict ea c
  | fTuple ea => exact .fTuple (e _ _ ea)
  | fDict ea => exact .fDict (e _ _ ea)
mutual
theorem dp_ex {K : Frag} {H H' : Hp} (e : Ex H H') : ∀ {x : V} {d : PyData}, Dp K H x d → Dp K H' x d
  | _, _, .non => .non
  | _, _, .bl b => .bl b
  | _, _, .int i => .int i
  | _, _, .str x => .str x
  | _, _, .lst h1 h2 => .lst (ex_l e h1) (dpAll_ex e h2)
  | _, _, .tup h1 h2 => .tup (ex_t e h1) (dpAll_ex e h2)
theorem dpAll_ex {K : Frag} {H H' : Hp} (e : Ex H H') : ∀ {xs : List V} {ds : List PyData}, DpAll K H xs ds → DpAll K H' xs ds
  | _, _, .nil => .nil
  | _, _, .cons h1 h2 => .cons (dp_ex e h1) (dpAll_ex e h2)
end
theorem dpAll_int {K : Frag} {H : Hp} : ∀ ns : List Int, DpAll K H (ns.map V.int) (ns.map PyData.int)
  | [] => .nil
  | n :: ns => .cons (.int n) (dpAll_int ns)
/-- the type's name of data -/
def tyN : PyData → String
  | .none => "NoneType" | .bool _ => "bool" | .int _ => "int" | .str _ => "str" | .list _ => "list" | .tuple _ => "tuple" | .dict _ => "dict"
/-- data, or the empty dict -/
inductive Dq (K : Frag) (H : Hp) : V → PyData → Prop
  | dp {x : V} {d : PyData} (h : Dp K H x d) : Dq K H x d
  | dict {a : Addr} (h : H a = some (.dK [])) : Dq K H (.ref a) (.dict [])
theorem Dq.ex {K : Frag} {H H' : Hp} {x : V} {d : PyData} (e : Ex H H') (h : Dq K H x d) : Dq K H' x d := by
  cases h with
  | dp h => exact .dp (dp_ex e h)
  | dict h => exact .dict (e _ _ h)
theorem dp_ty {K : Frag} {H : Hp} {x : V} {d : PyData} (h : Dp K H x d) : TyX K H x (.type (tyN d)) := by
  cases h with
  | non => exact .base .non
  | bl b => exact .base (.bl b)
  | int i => exact .base (.int i)
  | str x => exact .base (.str x)
  | lst h _ => exact ty_lst h
  | tup h _ => exact ty_tup h
theorem Dq.ty {K : Frag} {H : Hp} {x : V} {d : PyData} (h : Dq K H x d) : TyX K H x (.type (tyN d)) := by
  cases h with
  | dp h => exact dp_ty h
  | dict h => exact .base (.dK h)
section
variable {X : Cx}
/-- repr(x) of data, {} among it -/
def rReprQ (K : Frag) : List V → Hp → VK → Prop := fun xs H Q => ∃ (x : V) (d : PyData), xs = [x] ∧ Dq K H x d ∧ d.showable = true ∧ (d = .dict [] ∨ d.hasDict = false) ∧ d.depth ≤ 40 ∧ d.shown.length ≤ sizeLine ∧ Q (.str d.shown) H
theorem call_reprQ {k : Nat} (hr : Room k X.A) (hG : X.A.guards = some []) : CallR X (.builtin "repr") (rReprQ X.K) := by
  rintro pins s σ H xs us Q I r ⟨x, d, rfl, hd, hs, hnd, hdep, hsz, q⟩
  cases hd with
  | dp hd =>
    refine call_repr hr hG pins s σ H [x] us Q I r ⟨x, d, rfl, hd, hs, ?_, hdep, hsz, q⟩
    rcases hnd with rfl | h
    · cases hd
    · exact h
  | @dict a ha =>
    obtain ⟨u, rfl, r1⟩ := vals1 r
    cases (show u = Value.ref a from r1)
    obtain ⟨_, hsys, vs, hkv, o, es, ep, h1, h2, h3, _, h5, _⟩ := (show ObjOk X.prog X.w H s.heap a (.dK []) from I.hok a _ ha)
    cases hkv
    have he : es.toList = [] := List.length_eq_zero_iff.mp (by rw [h5.length]; rfl)
    have rd : Reads s.heap (.ref a) (.dict []) (a :: [] ++ []) := .dict (kvs := []) h1 h2.1 h3 (by rw [he]; exact .nil) (by rw [he]; exact .nil)
    refine repr_of_reads' rd hs (fun _ hm => ?_) hG (by have := hr.un; omega) (fun _ _ e => e) (fun h' t tk kk => ⟨.str (PyData.dict []).shown, H, I.kept (t' := tk) kk, ⟨t, rfl⟩, q⟩) hsz
    have : sysModules = a := by simpa using hm
    rw [this] at hsys
    simp at hsys
end
end BJ

/-! hex digits, what a text of them reads to; data of ints -/
namespace BJ
open PySem PySem.Spec PyProof.Rows L2 Evl

/-! ### data of ints -/
theorem canLay_ints : ∀ ns : List Int, PyData.canLayAll0 (ns.map .int) = true
  | [] => rfl
  | n :: ns => by
    rw [List.map_cons]
    unfold PyData.canLayAll0
    rw [canLay_ints ns]
    rfl
theorem depth_ints : ∀ ns : List Int, PyData.depthAll (ns.map .int) = 0
  | [] => rfl
  | n :: ns => by
    rw [List.map_cons]
    unfold PyData.depthAll
    rw [depth_ints ns]
    rfl
theorem show_ints : ∀ ns : List Int, (∀ n ∈ ns, n.natAbs < 10 ^ 12) → PyData.showableAll (ns.map .int) = true
  | [], _ => rfl
  | n :: ns, h => by
    rw [List.map_cons]
    unfold PyData.showableAll
    rw [show_ints ns fun m hm => h m (List.mem_cons_of_mem _ hm), Bool.and_true]
    unfold PyData.showable
    have h1 := h n List.mem_cons_self
    refine decide_eq_true ?_
    by_cases h0 : n.natAbs = 0
    · rw [h0]; decide
    · have := (Nat.log2_lt h0 (k := 1920)).mpr (Nat.lt_of_lt_of_le h1 (by decide))
      exact this
theorem short_ints : ∀ ns : List Int, (∀ n ∈ ns, n.natAbs < 10 ^ 12) → PyData.leavesShortAll 13 (ns.map .int) = true
  | [], _ => rfl
  | n :: ns, h => by
    rw [List.map_cons]
    unfold PyData.leavesShortAll
    rw [short_ints ns fun m hm => h m (List.mem_cons_of_mem _ hm), Bool.and_true]
    unfold PyData.leavesShort
    exact decide_eq_true (PyData.shown_int_le (h n List.mem_cons_self))
theorem bulk_ints : ∀ ns : List Int, PyData.bulkAll (ns.map .int) = ns.length
  | [] => rfl
  | n :: ns => by
    rw [List.map_cons]
    unfold PyData.bulkAll
    rw [bulk_ints ns, List.length_cons]
    unfold PyData.bulk
    omega
theorem eqv_ints : ∀ ns ms : List Int, PyData.eqvAll (ns.map .int) (ms.map .int) = decide (ns = ms)
  | [], [] => by simp [PyData.eqvAll]
  | [], m :: ms => by simp [PyData.eqvAll]
  | n :: ns, [] => by simp [PyData.eqvAll]
  | n :: ns, m :: ms => by
    rw [List.map_cons, List.map_cons]
    unfold PyData.eqvAll
    rw [eqv_ints ns ms]
    unfold PyData.eqv
    by_cases h1 : n = m <;> by_cases h2 : ns = ms <;> simp [h1, h2]
/-- a tuple, a list of ints -/
def dT (ns : List Int) : PyData := .tuple (ns.map .int)
def dL (ns : List Int) : PyData := .list (ns.map .int)
theorem dT_shaped (ns : List Int) : SeqAt.shaped (dT ns) = true := by
  unfold SeqAt.shaped dT
  rw [Bool.and_eq_true]
  refine ⟨?_, decide_eq_true ?_⟩
  · unfold PyData.canLay0; exact canLay_ints ns
  · unfold PyData.depth; rw [depth_ints]; omega
theorem dL_shaped (ns : List Int) : SeqAt.shaped (dL ns) = true := by
  unfold SeqAt.shaped dL
  rw [Bool.and_eq_true]
  refine ⟨?_, decide_eq_true ?_⟩
  · unfold PyData.canLay0; exact canLay_ints ns
  · unfold PyData.depth; rw [depth_ints]; omega
/-- what repr asks of data -/
structure Shows (d : PyData) : Prop where
  s : d.showable = true
  n : d = .dict [] ∨ d.hasDict = false
  p : d.depth ≤ 40
  z : d.shown.length ≤ sizeLine
theorem hasDict_ints : ∀ ns : List Int, PyData.hasDictAll (ns.map .int) = false
  | [] => rfl
  | n :: ns => by
    rw [List.map_cons]
    unfold PyData.hasDictAll
    rw [hasDict_ints ns]
    rfl
theorem dT_shows {ns : List Int} (h : ∀ n ∈ ns, n.natAbs < 10 ^ 12) (hl : ns.length ≤ 1000000) : Shows (dT ns) where
  s := by unfold dT PyData.showable; exact show_ints ns h
  n := .inr (by unfold dT PyData.hasDict; exact hasDict_ints ns)
  p := by unfold dT PyData.depth; rw [depth_ints]; omega
  z := PyData.shown_fits_bulk (d := dT ns) (B := 13) (by decide) (by decide) (by unfold dT PyData.leavesShort; exact short_ints ns h) (by unfold dT PyData.bulk; rw [bulk_ints]; omega)
theorem dL_shows {ns : List Int} (h : ∀ n ∈ ns, n.natAbs < 10 ^ 12) (hl : ns.length ≤ 1000000) : Shows (dL ns) where
  s := by unfold dL PyData.showable; exact show_ints ns h
  n := .inr (by unfold dL PyData.hasDict; exact hasDict_ints ns)
  p := by unfold dL PyData.depth; rw [depth_ints]; omega
  z := PyData.shown_fits_bulk (d := dL ns) (B := 13) (by decide) (by decide) (by unfold dL PyData.leavesShort; exact short_ints ns h) (by unfold dL PyData.bulk; rw [bulk_ints]; omega)
theorem dp_T {K : PySem.W.Frag} {H : Hp} {p : Addr} {ns : List Int} (h : SqT K H p (ns.map V.int)) : Dp K H (.ref p) (dT ns) := .tup h (dpAll_int ns)
theorem dp_L {K : PySem.W.Frag} {H : Hp} {p : Addr} {ns : List Int} (h : SqL K H p (ns.map V.int)) : Dp K H (.ref p) (dL ns) := .lst h (dpAll_int ns)
theorem eqv_T (ns ms : List Int) : PyData.eqv (dT ns) (dT ms) = decide (ns = ms) := by unfold dT PyData.eqv; exact eqv_ints ns ms
theorem eqv_L (ns ms : List Int) : PyData.eqv (dL ns) (dL ms) = decide (ns = ms) := by unfold dL PyData.eqv; exact eqv_ints ns ms

/-! ### hex -/
def DIG : Str := "0123456789abcdef"
def hexd (i : Nat) : Nat := if i < 10 then 48 + i else 87 + i
def hval (c : Nat) : Nat := if c < 58 then c - 48 else c - 87
def hok (c : Nat) : Bool := decide (c ∈ DIG.cps.toList)
theorem dig_eq : DIG.cps.toList = (List.range 16).map hexd := by decide +kernel
theorem dig_len : DIG.length = 16 := by decide +kernel
theorem hval_hexd {i : Nat} (h : i < 16) : hval (hexd i) = i := by unfold hval hexd; split <;> split <;> omega
theorem hok_hexd {i : Nat} (h : i < 16) : hok (hexd i) = true := by
  unfold hok
  rw [dig_eq]
  exact decide_eq_true (List.mem_map.mpr ⟨i, List.mem_range.mpr h, rfl⟩)
theorem hok_ex {c : Nat} (h : hok c = true) : ∃ i, i < 16 ∧ c = hexd i := by
  unfold hok at h
  rw [dig_eq] at h
  obtain ⟨i, hi, e⟩ := List.mem_map.mp (of_decide_eq_true h)
  exact ⟨i, List.mem_range.mp hi, e.symm⟩
theorem hval_lt {c : Nat} (h : hok c = true) : hval c < 16 := by
  obtain ⟨i, hi, rfl⟩ := hok_ex h
  rw [hval_hexd hi]
  exact hi
theorem dig_occ : ∀ i ∈ List.range 16, Builtin.Str.occurrences DIG ⟨#[hexd i]⟩ 0 DIG.length 1 = [i] := by decide +kernel
theorem hok_occ {c : Nat} (h : hok c = true) : Builtin.Str.occurrences DIG ⟨#[c]⟩ 0 DIG.length 1 = [hval c] := by
  obtain ⟨i, hi, rfl⟩ := hok_ex h
  rw [hval_hexd hi]
  exact dig_occ i (List.mem_range.mpr hi)
theorem dig_at {i : Nat} (h : i < 16) : atI DIG.cps.toList (i : Int) = some (hexd i) := by
  refine atI_nat ?_
  rw [dig_eq, List.getElem?_map, List.getElem?_range h]
  rfl
def pairs : List Nat → List Int
  | a :: b :: r => (16 * (hval a : Int) + (hval b : Int)) :: pairs r
  | _ => []
/-- what a text reads to: octets, or where it is wrong -/
def due (l : List Nat) : List Int ⊕ Int :=
  match l.findIdx? fun c => !hok c with
  | some i => .inr (i : Int)
  | none => if l.length % 2 = 1 then .inr (l.length : Int) else if 100000 < l.length then .inr 100000 else .inl (pairs l)
def dueD (l : List Nat) : PyData := match due l with | .inl ns => dT ns | .inr i => dL [i]
theorem pairs_len : ∀ l : List Nat, (pairs l).length = l.length / 2
  | [] => rfl
  | [_] => by simp [pairs]
  | a :: b :: r => by
    unfold pairs
    rw [List.length_cons, pairs_len r, List.length_cons, List.length_cons]
    omega
theorem pairs_lt : ∀ l : List Nat, (∀ c ∈ l, hok c = true) → ∀ n ∈ pairs l, 0 ≤ n ∧ n ≤ 255
  | [], _, n, h => by cases h
  | [_], _, n, h => by cases h
  | a :: b :: r, hl, n, h => by
    unfold pairs at h
    rcases List.mem_cons.mp h with rfl | h
    · have h1 := hval_lt (hl a List.mem_cons_self)
      have h2 := hval_lt (hl b (List.mem_cons_of_mem _ List.mem_cons_self))
      omega
    · exact pairs_lt r (fun c hc => hl c (List.mem_cons_of_mem _ (List.mem_cons_of_mem _ hc))) n h
theorem pairs_at : ∀ (l : List Nat) (n : Nat), l.length = 2 * n → (List.range n).map (fun i => 16 * (hval (l.getD (2 * i) 0) : Int) + (hval (l.getD (2 * i + 1) 0) : Int)) = pairs l
  | [], n, h => by
    have : n = 0 := by simp at h; omega
    subst this
    rfl
  | [_], n, h => by simp at h; omega
  | a :: b :: r, n, h => by
    obtain ⟨m, rfl⟩ : ∃ m, n = m + 1 := ⟨n - 1, by simp at h; omega⟩
    have h2 : r.length = 2 * m := by simp at h; omega
    unfold pairs
    rw [← pairs_at r m h2, List.range_succ_eq_map, List.map_cons, List.map_map]
    congr 1
theorem all_ok {l : List Nat} (h : l.findIdx? (fun c => !hok c) = none) : ∀ c ∈ l, hok c = true := by
  rw [List.findIdx?_eq_none_iff] at h
  intro c hc
  have := h c hc
  simpa using this
theorem due_inl {l : List Nat} {ns : List Int} (h : due l = .inl ns) : l.findIdx? (fun c => !hok c) = none ∧ l.length % 2 = 0 ∧ l.length ≤ 100000 ∧ ns = pairs l := by
  unfold due at h
  split at h
  · cases h
  · rename_i e
    split at h
    · cases h
    · split at h
      · cases h
      · cases h
        exact ⟨e, by omega, by omega, rfl⟩
theorem due_shows {l : List Nat} (hl : l.length ≤ 1000000) : Shows (dueD l) := by
  unfold dueD
  cases h : due l with
  | inl ns =>
    obtain ⟨h1, h2, h3, rfl⟩ := due_inl h
    exact dT_shows (fun n hn => by have := pairs_lt l (all_ok h1) n hn; omega) (by rw [pairs_len]; omega)
  | inr i =>
    refine dL_shows (fun n hn => ?_) (by simp)
    rw [List.mem_singleton] at hn
    subst hn
    unfold due at h
    split at h
    · rename_i j hj
      cases h
      have := (List.findIdx?_eq_some_iff_findIdx_eq.mp hj).1
      omega
    · split at h
      · cases h; omega
      · split at h
        · cases h; omega
        · cases h
/-! ### the text of octets -/
def hexL (ns : List Int) : List Nat := ns.flatMap fun i => [hexd (i / 16).toNat, hexd (i % 16).toNat]
def pairS (i : Int) : Str := ⟨#[hexd (i / 16).toNat, hexd (i % 16).toNat]⟩
def hexS (ns : List Int) : Str := Txt.join "" (ns.map pairS)
theorem joinL_nil : ∀ ps : List (List Nat), TL.joinL [] ps = ps.flatten
  | [] => rfl
  | [p] => by simp [TL.joinL]
  | p :: q :: r => by
    unfold TL.joinL
    rw [joinL_nil (q :: r)]
    simp
theorem hexS_tl (ns : List Int) : (hexS ns).cps.toList = hexL ns := by
  unfold hexS
  rw [TL.join_eq]
  have := TL.tl_join "" (ns.map pairS)
  rw [show TL.tl "" = [] from rfl, joinL_nil] at this
  show TL.tl (Str.join "" (ns.map pairS)) = _
  rw [this, List.map_map]
  unfold hexL
  rw [List.flatMap_def]
  rfl
theorem hexL_len : ∀ ns : List Int, (hexL ns).length = 2 * ns.length
  | [] => rfl
  | n :: ns => by
    have := hexL_len ns
    unfold hexL at this ⊢
    rw [List.flatMap_cons, List.length_append, this, List.length_cons]
    simp only [List.length_cons, List.length_nil]
    omega
theorem hexL_ok : ∀ ns : List Int, (∀ n ∈ ns, 0 ≤ n ∧ n ≤ 255) → ∀ c ∈ hexL ns, hok c = true := by
  intro ns h c hc
  obtain ⟨n, hn, hc⟩ := List.mem_flatMap.mp hc
  have := h n hn
  rcases List.mem_cons.mp hc with rfl | hc
  · exact hok_hexd (by omega)
  · rw [List.mem_singleton] at hc
    subst hc
    exact hok_hexd (by omega)
theorem hexL_pairs : ∀ ns : List Int, (∀ n ∈ ns, 0 ≤ n ∧ n ≤ 255) → pairs (hexL ns) = ns
  | [], _ => rfl
  | n :: ns, h => by
    have h0 := h n List.mem_cons_self
    have ih := hexL_pairs ns fun m hm => h m (List.mem_cons_of_mem _ hm)
    unfold hexL at ih ⊢
    rw [List.flatMap_cons]
    show (16 * (hval (hexd (n / 16).toNat) : Int) + (hval (hexd (n % 16).toNat) : Int)) :: pairs (ns.flatMap _) = _
    rw [ih, hval_hexd (by omega), hval_hexd (by omega)]
    congr 1
    omega
theorem due_hexL {ns : List Int} (h : ∀ n ∈ ns, 0 ≤ n ∧ n ≤ 255) (hl : ns.length ≤ 50000) : due (hexL ns) = .inl ns := by
  unfold due
  have e : (hexL ns).findIdx? (fun c => !hok c) = none := by
    rw [List.findIdx?_eq_none_iff]
    intro c hc
    rw [hexL_ok ns h c hc]
    rfl
  rw [e]
  have hn := hexL_len ns
  simp only
  rw [if_neg (by omega), if_neg (by omega), hexL_pairs ns h]
theorem strLen_tl (z : Str) : z.length = z.cps.toList.length := by simp [Str.length]
theorem hexS_len (ns : List Int) : (hexS ns).length = 2 * ns.length := by rw [strLen_tl, hexS_tl, hexL_len]
theorem hexS_sum (ns : List Int) : ((ns.map pairS).map (·.length)).sum = 2 * ns.length := by
  induction ns with
  | nil => rfl
  | cons n ns ih =>
    rw [List.map_cons, List.map_cons, List.sum_cons, ih, List.length_cons]
    show 2 + _ = _
    omega

/-! ### the wrong places -/
def wrongL (l : List Nat) (k : Nat) : List Int := ((l.zipIdx k).filter fun p => !hok p.1).map fun p => ((p.2 : Nat) : Int)
theorem wrongL_head : ∀ (l : List Nat) (k : Nat), (wrongL l k).head? = (l.findIdx? fun c => !hok c).map fun i => ((i + k : Nat) : Int)
  | [], k => rfl
  | c :: l, k => by
    have ih := wrongL_head l (k + 1)
    unfold wrongL at ih ⊢
    rw [List.zipIdx_cons, List.findIdx?_cons]
    cases h : hok c with
    | false =>
      rw [List.filter_cons_of_pos (by simp [h])]
      simp
    | true =>
      rw [List.filter_cons_of_neg (by simp [h]), ih]
      simp only [Bool.not_true]
      rw [if_neg (by simp), Option.map_map]
      congr 1
      funext i
      simp only [Function.comp]
      omega
theorem wrong_none {l : List Nat} (h : l.findIdx? (fun c => !hok c) = none) : wrongL l 0 = [] := by
  have := wrongL_head l 0
  rw [h] at this
  simpa using this
theorem wrong_some {l : List Nat} {i : Nat} (h : l.findIdx? (fun c => !hok c) = some i) : ∃ r, wrongL l 0 = (i : Int) :: r := by
  have := wrongL_head l 0
  rw [h] at this
  cases e : wrongL l 0 with
  | nil => rw [e] at this; simp at this
  | cons a r =>
    rw [e] at this
    simp only [List.head?_cons, Option.map_some, Option.some.injEq, Nat.add_zero] at this
    exact ⟨r, by rw [this]⟩

/-! ### the evens and the odds -/
def evens : List V → List V
  | a :: _ :: r => a :: evens r
  | l => l
def odds : List V → List V
  | _ :: b :: r => b :: odds r
  | _ => []
end BJ

/-! comprehensions that evaluate; calls on values -/
namespace BJ
open PySem PySem.Spec PyProof.Rows L2 Evl
open PySem.W (Frag kitOne kitAny)
section
variable {K : Frag} {σ : L2.St} {H : Hp} {z : V} {tl te : TE} {tt : TT} {wi : TI} {vs : List Nat} {xs : List V}
/-- what is walked over gives xs -/
def EvI (wi : TI) (σ : L2.St) (H : Hp) (xs : List V) : Prop := ∀ H1, Ex H H1 → ∀ R : It → Hp → Prop, (∀ H2 J G, Ex H1 H2 → Walk J xs.length G (YAt xs) → (∀ H3, Ex H2 H3 → G H3) → R J H2) → wi σ H1 R
/-- .. gives pairs -/
def EvP (wi : TI) (σ : L2.St) (H : Hp) (ps : List (V × V)) : Prop := ∀ H1, Ex H H1 → ∀ R : It → Hp → Prop,
  (∀ H2 J G, Ex H1 H2 → Walk J ps.length G (fun i H v H' => ∃ T p, v = .ref T ∧ H T = none ∧ H' = upd H T (.tup [p.1, p.2]) ∧ ps[i]? = some p) → (∀ H3, Ex H2 H3 → G H3) → R J H2) → wi σ H1 R
theorem el_at {j : Nat} (hi : EvI wi σ H xs) (f : V → Bool) (F : V → V) (hn : xs.length ≤ 1000000) (hw : ∀ x, wipe ((wipe σ vs).set j (some x)) vs = wipe σ vs)
    (ht : ∀ x ∈ xs, ∀ H1, Ex H H1 → EvT tt ((wipe σ vs).set j (some x)) H1 (f x)) (he : ∀ x ∈ xs, ∀ H1, Ex H H1 → f x = true → Ev te ((wipe σ vs).set j (some x)) H1 (F x)) :
    EvL (tLc wi (gName j) tt te vs) σ H ((xs.filter f).map F) := fun H1 e Q q => hi H1 e _ fun H2 J G e2 w hG =>
  lc_at w f F hn hG hw (fun x hx => ht x hx H2 (e.trans e2)) (fun x hx hf => he x hx H2 (e.trans e2) hf) fun D H' hD e3 hl => q D H' (fresh_back e2 hD) (e2.trans e3) hl
/-- .. without an if -/
theorem el_all {j : Nat} (hi : EvI wi σ H xs) (F : V → V) (hn : xs.length ≤ 1000000) (hw : ∀ x, wipe ((wipe σ vs).set j (some x)) vs = wipe σ vs)
    (he : ∀ x ∈ xs, ∀ H1, Ex H H1 → Ev te ((wipe σ vs).set j (some x)) H1 (F x)) : EvL (tLc wi (gName j) tYes te vs) σ H (xs.map F) := by
  have h := el_at (tt := tYes) hi (fun _ => true) F hn hw (fun _ _ _ _ => et_yes) (fun x hx H1 e _ => he x hx H1 e)
  rw [List.filter_eq_self.mpr (fun _ _ => rfl)] at h
  exact h
theorem el_pr {j l : Nat} {ps : List (V × V)} (hi : EvP wi σ H ps) (f : V × V → Bool) (F : V × V → V) (hn : ps.length ≤ 1000000) (hw : ∀ x y, wipe (((wipe σ vs).set j (some x)).set l (some y)) vs = wipe σ vs)
    (ht : ∀ p ∈ ps, ∀ H1, Ex H H1 → EvT tt (((wipe σ vs).set j (some p.1)).set l (some p.2)) H1 (f p)) (he : ∀ p ∈ ps, ∀ H1, Ex H H1 → f p = true → Ev te (((wipe σ vs).set j (some p.1)).set l (some p.2)) H1 (F p)) :
    EvL (tLc wi (gTup K 2 (gCons (gName j) (gCons (gName l) gNil))) tt te vs) σ H ((ps.filter f).map F) := fun H1 e Q q => hi H1 e _ fun H2 J G e2 w hG =>
  lc_pr w f F hn hG hw (fun x hx => ht x hx H2 (e.trans e2)) (fun x hx hf => he x hx H2 (e.trans e2) hf) fun D H' hD e3 hl => q D H' (fresh_back e2 hD) (e2.trans e3) hl
theorem ei_tup {p : Addr} (h : Ev tl σ H (.ref p)) (hx : SqT K H p xs) : EvI (iTup K tl) σ H xs := fun H1 e R r => h H1 e _ fun H2 e2 =>
  ⟨p, rfl, ⟨xs, ex_t (e.trans e2) hx⟩, r H2 _ (fun H => SqT K H p xs) e2 walk_tup fun H3 e3 => ex_t ((e.trans e2).trans e3) hx⟩
theorem ei_tupU (h : EvU tl σ H xs) : EvI (iTup K tl) σ H xs := fun H1 e R r => h H1 e _ fun p H2 hp e2 hx =>
  ⟨p, rfl, ⟨xs, st_of hx⟩, r H2 _ (fun H => SqT K H p xs) e2 walk_tup fun H3 e3 => ex_t e3 (st_of hx)⟩
theorem ei_list {p : Addr} (h : Ev tl σ H (.ref p)) (hx : SqL K H p xs) : EvI (iList K tl) σ H xs := fun H1 e R r => h H1 e _ fun H2 e2 =>
  ⟨p, rfl, ⟨xs, ex_l (e.trans e2) hx⟩, r H2 _ (fun H => SqL K H p xs) e2 walk_list fun H3 e3 => ex_l ((e.trans e2).trans e3) hx⟩
theorem ei_str {s : Str} (h : Ev tl σ H (.str s)) : EvI (iStr tl) σ H (s.cps.toList.map fun c => V.str ⟨#[c]⟩) := fun H1 e R r => h H1 e _ fun H2 e2 =>
  ⟨s, rfl, r H2 _ _ e2 walk_strA fun _ _ => trivial⟩
theorem ei_rng3 {ta : TA} {i j c : Int} {n : Nat} (h : EvA ta σ H [.int i, .int j, .int c]) (hr : RgC i j c n) : EvI (iRng3 ta) σ H ((List.range n).map fun k => V.int (i + (k : Nat) * c)) := fun H1 e R r => h H1 e _ fun H2 e2 =>
  ⟨i, j, c, n, rfl, hr, r H2 _ _ e2 walk_rangeCA fun _ _ => trivial⟩
theorem ep_enumS {ta : TA} {s : Str} (h : EvA ta σ H [.str s]) : EvP (iEnumS ta) σ H (enumP s) := fun H1 e R r => h H1 e _ fun H2 e2 =>
  ⟨s, rfl, r H2 _ _ e2 walk_enumSA fun _ _ => trivial⟩
theorem ev_allL {bs : List Bool} (h : EvL tl σ H (bs.map V.bl)) : Ev (tCB (rAll K) (tCons tl tNil)) σ H (.bl (bs.all id)) := fun H1 e Q q => h H1 e _ fun p H2 _ e2 hp => ⟨p, bs, rfl, sq_of hp, q H2 e2⟩
theorem rc_is {x : V} {t n : String} {b : Bool} (h : TyX K H x (.type t)) (k : kitOne K (.type t) (.type n) = some b) : RC (rIsG K) [x, .ty n] H (.bl b) :=
  fun H1 e Q q => ⟨x, _, .type t, .type n, b, rfl, .ty n, .ty (tyx_ex e h), k, q H1 (Ex.refl _)⟩
/-- f(e) where e is a new tuple, a new list -/
theorem ev_caU {sp : Sp} {W : WX} (h : EvU te σ H xs) (hs : ∀ p H1, H1 p = some (.tup xs) → SpE sp [.ref p] H1 z) : Ev (tCa sp W (tCons te tNil)) σ H z := fun H1 e Q q =>
  h H1 e _ fun p H2 _ e2 hp => hs p H2 hp H2 (Ex.refl _) Q _ fun H3 e3 => q H3 (e2.trans e3)
/-- e of a fresh list: the list goes into tuple(..) -/
theorem eu_tupL (h : EvL te σ H xs) : EvU (tCB (fun xs H Q => ∃ p ys, xs = [.ref p] ∧ ((SqL K H p ys ∧ ∀ l, H l = none → Q (.ref l) (upd H l (.tup ys))) ∨ (SqT K H p ys ∧ Q (.ref p) H))) (tCons te tNil)) σ H xs := fun H1 e Q q =>
  h H1 e _ fun p H2 _ e2 hp => ⟨p, xs, rfl, .inl ⟨sq_of hp, fun l hl => q l _ (fresh_back e2 hl) (e2.trans (Ex.new hl)) upd_same⟩⟩
/-- a.join(e) of a new list of texts -/
theorem ev_joinL {a : Str} {ys : List Str} {to : TE} (ho : Ev to σ H (.str a)) (h : EvL te σ H (ys.map V.str)) (hz : (ys.map (·.length)).sum + ys.length * a.length ≤ 16777216) :
    Ev (tM1 (fun x xs H Q => ∃ a p, ∃ ys : List Str, x = .str a ∧ xs = [.ref p] ∧ (SqL K H p (ys.map V.str) ∨ SqT K H p (ys.map V.str)) ∧ (ys.map (·.length)).sum + ys.length * a.length ≤ 16777216 ∧ Q (.str (Txt.join a ys)) H) to te) σ H (.str (Txt.join a ys)) := fun H1 e Q q =>
  ho H1 e _ fun H2 e2 => ⟨⟨a, rfl⟩, h H2 (e.trans e2) _ fun p H3 _ e3 hp => ⟨a, p, ys, rfl, rfl, .inl (sq_of hp), hz, q H3 (e2.trans e3)⟩⟩
end
end BJ

/-! slices with a step that evaluate, zip of new lists; the evens and odds -/
namespace BJ
open PySem PySem.Spec PyProof.Rows L2 Evl
open PySem.W (Frag kitOne kitAny)
section
variable {K : Frag} {σ : L2.St} {H : Hp} {z : V} {tl te : TE} {tt : TT} {wi : TI} {vs : List Nat} {xs ys : List V}
theorem pickV_len (xs : List V) (lo hi st : Option Int) (h0 : st ≠ some 0) : (pickV xs lo hi st).length ≤ xs.length := by
  have h := slicePick_size_le (items := (List.replicate xs.length Value.none).toArray) lo hi st
  have e : ∀ (l : List Nat), (l.filterMap (xs[·]?)).length = (l.filterMap ((List.replicate xs.length Value.none)[·]?)).length := by
    intro l
    induction l with
    | nil => rfl
    | cons i l ih =>
      by_cases hi : i < xs.length
      · rw [List.filterMap_cons_some (List.getElem?_eq_getElem hi), List.filterMap_cons_some (List.getElem?_eq_getElem (by simpa using hi)), List.length_cons, List.length_cons, ih]
      · rw [List.filterMap_cons_none (List.getElem?_eq_none (by omega)), List.filterMap_cons_none (List.getElem?_eq_none (by simp; omega)), ih]
  unfold pickV
  rw [e]
  have h2 : ((sliceRange (sliceBounds lo hi st (List.replicate xs.length Value.none).toArray.size).1 (sliceBounds lo hi st (List.replicate xs.length Value.none).toArray.size).2.1 (sliceBounds lo hi st (List.replicate xs.length Value.none).toArray.size).2.2).filterMap ((List.replicate xs.length Value.none).toArray[·]?)).length ≤ (List.replicate xs.length Value.none).toArray.size := h
  have e2 : (List.replicate xs.length Value.none).toArray.size = xs.length := by simp
  rw [e2] at h2
  refine Nat.le_trans (Nat.le_of_eq ?_) h2
  congr 1
  apply congrArg (fun f => List.filterMap f _)
  funext x
  exact List.getElem?_toArray.symm
theorem el_sl3 {p : Addr} {tl th ts : TO} {lo hi st : Option Int} (h : Ev te σ H (.ref p)) (h1 : EvO tl σ H lo) (h2 : EvO th σ H hi) (h3 : EvO ts σ H st) (hs : SqL K H p xs) (h0 : st ≠ some 0) (hz : xs.length ≤ 1000000) : EvL (tSl3 K te tl th ts) σ H (pickV xs lo hi st) := fun H1 e Q q =>
  h H1 e _ fun H2 e2 => h1 H2 (e.trans e2) _ fun H3 e3 => h2 H3 ((e.trans e2).trans e3) _ fun H4 e4 => h3 H4 (((e.trans e2).trans e3).trans e4) _ fun H5 e5 =>
    ⟨p, xs, rfl, ex_l ((((e.trans e2).trans e3).trans e4).trans e5) hs, h0, (by have := pickV_len xs lo hi st h0; rw [sizeLine_eq]; omega), fun D hD =>
      q D _ (fresh_back (((e2.trans e3).trans e4).trans e5) hD) ((((e2.trans e3).trans e4).trans e5).trans (Ex.new hD)) upd_same⟩
theorem ep_zip {t1 t2 : TE} (h1 : EvL t1 σ H xs) (h2 : EvL t2 σ H ys) : EvP (iZip K (tCons t1 (tCons t2 tNil))) σ H (xs.zip ys) := fun H1 e R r =>
  h1 H1 e _ fun p H2 hp e2 hx => h2 H2 (e.trans e2) _ fun q H3 hq e3 hy =>
    ⟨p, q, xs, ys, rfl, sq_of (e3 p _ hx), sq_of hy, r H3 _ _ (e2.trans e3) walk_zipA fun H4 e4 => ⟨sq_of (e4 p _ (e3 p _ hx)), sq_of (e4 q _ hy)⟩⟩
end
theorem pick_of {xs : List V} (m a : Nat) (h : ∀ k, k < m → a + 2 * k < xs.length) : ((List.range m).map fun k : Nat => a + 2 * k).filterMap (xs[·]?) = (List.range m).map fun k => xs.getD (a + 2 * k) .non := by
  rw [List.filterMap_map]
  have : ∀ l : List Nat, (∀ k ∈ l, k < m) → l.filterMap ((xs[·]?) ∘ fun k => a + 2 * k) = l.map fun k => xs.getD (a + 2 * k) .non := by
    intro l
    induction l with
    | nil => intro _; rfl
    | cons k l ih =>
      intro hk
      have := h k (hk k List.mem_cons_self)
      rw [List.filterMap_cons_some (b := xs[a + 2 * k]) (show ((fun x => xs[x]?) ∘ fun k => a + 2 * k) k = some xs[a + 2 * k] from List.getElem?_eq_getElem this), List.map_cons, ih fun j hj => hk j (List.mem_cons_of_mem _ hj)]
      congr 1
      rw [List.getD, List.getElem?_eq_getElem this]
      rfl
  exact this _ fun k hk => List.mem_range.mp hk
theorem pick_evens {xs : List V} {m : Nat} (h : xs.length = 2 * m) : pickV xs none none (some 2) = (List.range m).map fun k => xs.getD (2 * k) .non := by
  have e : sliceRange (sliceBounds none none (some 2) xs.length).1 (sliceBounds none none (some 2) xs.length).2.1 (sliceBounds none none (some 2) xs.length).2.2 = (List.range m).map fun k : Nat => 0 + 2 * k := by
    show sliceRange 0 (xs.length : Int) 2 = _
    show List.map _ (List.range (Int.toNat _)) = _
    have hc : (if (2 : Int) > 0 then (if (0 : Int) < (xs.length : Int) then ((xs.length : Int) - 0 + 2 - 1) / 2 else 0) else (if (0 : Int) > (xs.length : Int) then (0 - (xs.length : Int) - 2 - 1) / (-2) else 0)).toNat = m := by
      rw [if_pos (by decide)]
      split <;> omega
    refine (congrArg (fun n => List.map _ (List.range n)) hc).trans ?_
    apply List.map_congr_left
    intro k _
    omega
  unfold pickV
  rw [e, pick_of m 0 (fun k hk => by omega)]
  simp only [Nat.zero_add]
theorem pick_odds {xs : List V} {m : Nat} (h : xs.length = 2 * m) : pickV xs (some 1) none (some 2) = (List.range m).map fun k => xs.getD (1 + 2 * k) .non := by
  have e : sliceRange (sliceBounds (some 1) none (some 2) xs.length).1 (sliceBounds (some 1) none (some 2) xs.length).2.1 (sliceBounds (some 1) none (some 2) xs.length).2.2 = (List.range m).map fun k : Nat => 1 + 2 * k := by
    show sliceRange (max 0 (min 1 (xs.length : Int))) (xs.length : Int) 2 = _
    show List.map _ (List.range (Int.toNat _)) = _
    have hc : (if (2 : Int) > 0 then (if (max 0 (min 1 (xs.length : Int))) < (xs.length : Int) then ((xs.length : Int) - (max 0 (min 1 (xs.length : Int))) + 2 - 1) / 2 else 0) else (if (max 0 (min 1 (xs.length : Int))) > (xs.length : Int) then ((max 0 (min 1 (xs.length : Int))) - (xs.length : Int) - 2 - 1) / (-2) else 0)).toNat = m := by
      rw [if_pos (by decide)]
      split <;> omega
    refine (congrArg (fun n => List.map _ (List.range n)) hc).trans ?_
    apply List.map_congr_left
    intro k hk
    have := List.mem_range.mp hk
    omega
  unfold pickV
  rw [e, pick_of m 1 (fun k hk => by omega)]
/-- what sign, what number a value is -/
def sgn : V → Nat | .str z => z.cps.getD 0 0 | _ => 0
def num : V → Int | .int i => i | _ => 0
theorem zip_pairs (l : List Nat) (m : Nat) (h : l.length = 2 * m) :
    (((pickV ((l.map fun c => (hval c : Int)).map V.int) none none (some 2)).zip (pickV ((l.map fun c => (hval c : Int)).map V.int) (some 1) none (some 2))).map fun p => V.int (16 * num p.1 + num p.2)) = (pairs l).map V.int := by
  have hl : ((l.map fun c => (hval c : Int)).map V.int).length = 2 * m := by rw [List.length_map, List.length_map]; exact h
  rw [pick_evens hl, pick_odds hl, List.zip_map', List.map_map, ← pairs_at l m h]
  refine Eq.trans ?_ List.map_map.symm
  apply List.map_congr_left
  intro k hk
  have hk := List.mem_range.mp hk
  have g : ∀ i, i < l.length → ((l.map fun c => (hval c : Int)).map V.int).getD i .non = .int (hval (l.getD i 0)) := fun i hi => by
    rw [List.getD, List.getElem?_map, List.getElem?_map, List.getElem?_eq_getElem hi, List.getD, List.getElem?_eq_getElem hi]
    rfl
  simp only [Function.comp]
  rw [g _ (by omega), g _ (by omega), Nat.add_comm 1]
  rfl
theorem enum_wrong (z : Str) : ((enumP z).filter fun p => !hok (sgn p.2)).map (fun p => p.1) = (wrongL z.cps.toList 0).map V.int := by
  unfold enumP wrongL
  rw [List.filter_map, List.map_map, List.map_map]
  rfl
theorem signs_num (l : List Nat) : ((l.map fun c => V.str ⟨#[c]⟩).map fun v => V.int (hval (sgn v))) = (l.map fun c => (hval c : Int)).map V.int := by
  rw [List.map_map, List.map_map]
  rfl
end BJ

/-! defs called with keywords; loops that evaluate -/
namespace BJ
open PySem PySem.Spec PyProof.Rows L2 Evl
open PySem.W (Frag kitOne kitAny)
/-- positional values, then the keywords' (n and m of them) -/
def gKw (n m : Nat) {α : Type} (us ws : List α) : List α := if us.length = n ∧ ws.length = m then us ++ ws else []
section
variable {P : Program} {w : World} {K : Frag} {mg : Str → Option Value} {base : Heap}
theorem kb_of {x qual : Str} {st : Stmt} {f : Addr} {fd : FuncData} {ps ks : List Str} {n m : Nat} (F : Fun K x qual st f fd) (hne : 0 < ps.length)
    (h : ∀ (kV doc pm : Value) (an : Option Addr) (cdv ct : Value) (us ws : List Value), us.length = n → ws.length = m → bindArgs (PySem.W.fnOf x qual (defArgs st) (defBody st) (defScope st) .none kV doc pm an cdv ct) ⟨us, ks.zip ws⟩ = pure (ps.zip (us ++ ws))) :
    KBinds K fd ps ks (gKw n m) (gKw n m) := by
  obtain ⟨oc, od, kV, doc, pm, an, cdv, ct, osl, rfl, lk, hcd⟩ := F.ex
  refine ⟨fun s us ws _ hl => ?_, fun r rz => ?_⟩
  · by_cases hh : us.length = n ∧ ws.length = m
    · have e : gKw n m us ws = us ++ ws := if_pos hh
      rw [e]
      exact .of_eq (h kV doc pm an cdv ct us ws hh.1 hh.2)
    · have e : gKw n m us ws = [] := if_neg hh
      rw [e] at hl
      simp at hl
      omega
  · unfold gKw
    rw [r.length, rz.length]
    split
    · exact r.append rz
    · exact .nil
theorem fnP {x qual : Str} {st : Stmt} {f : Addr} {k : Nat} {ps : List Str} {sp : Sp} (h : ∃ fd, FnG P w K mg base k f fd ps sp ∧ Binds K fd ps [] ∧ Fun K x qual st f fd) : CallP P w K mg base k (.ref f) sp := by
  obtain ⟨fd, F, hb, _⟩ := h
  have q := F.callP (dvs := []) hb .nil
  rintro A outer s H us ws vs zs Q E room hg e0 rel relz ⟨hz, prom⟩
  exact q A outer s H us ws vs zs Q E room hg e0 rel relz ⟨hz, show sp (vs ++ []) H Q E by rw [List.append_nil]; exact prom⟩
theorem fnK {x qual : Str} {st : Stmt} {f : Addr} {k : Nat} {ps ks : List Str} {sp : Sp} {n m : Nat} (h : ∃ fd, FnG P w K mg base k f fd ps sp ∧ Binds K fd ps [] ∧ Fun K x qual st f fd) (hne : 0 < ps.length)
    (hk : ∀ (kV doc pm : Value) (an : Option Addr) (cdv ct : Value) (us ws : List Value), us.length = n → ws.length = m → bindArgs (PySem.W.fnOf x qual (defArgs st) (defBody st) (defScope st) .none kV doc pm an cdv ct) ⟨us, ks.zip ws⟩ = pure (ps.zip (us ++ ws))) :
    CallG P w K mg base k (.ref f) ks fun vs zs H Q E => sp (gKw n m vs zs) H Q E := by
  obtain ⟨fd, F, _, F2⟩ := h
  exact F.callK (kb_of F2 hne hk)
end
section
variable {K : Frag} {σ : L2.St} {H : Hp} {z : V} {tl te : TE} {tt : TT} {tb : TS} {wi : TI} {vs : List Nat} {xs : List V} {D : Ends}
/-- a for whose turns lay objects and change none; Pr: what stands of the slots -/
theorem s_forE {j : Nat} (Pr : L2.St → Prop) (hi : EvI wi σ H xs) (h0 : Pr σ)
    (hs : ∀ x ∈ xs, ∀ σ' H', Pr σ' → Ex H H' → ∀ N : L2.St → Hp → Prop, (∀ σ2 H2, Pr σ2 → Ex H' H2 → N σ2 H2) → tb { D with nx := N, ct := N, bk := D.nx } (σ'.set j (some x)) H')
    (hd : ∀ σ' H', Pr σ' → Ex H H' → D.nx σ' H') : tFor wi (gName j) tb D σ H :=
  hi H (Ex.refl H) _ fun H2 J G e w hG => for_it w (fun _ σ' H' => Pr σ' ∧ Ex H2 H') ⟨h0, Ex.refl _⟩ (fun i σ' H' _ p => hG H' p.2) (fun i x σ' H3 H4 hi p y => by
    obtain ⟨y1, y2⟩ := y
    subst y1
    exact hs x (List.mem_of_getElem? y2) σ' H4 p.1 (e.trans p.2) _ fun σ2 H2' q1 q2 => ⟨q1, p.2.trans q2⟩) fun σ' H' p => hd σ' H' p.1 (e.trans p.2)
theorem repS_eq {c n : Nat} : (repS c n).cps.toList = List.replicate n c := by simp [repS]
theorem find_rep {c : Nat} (h : hok c = true) : ∀ n, (List.replicate n c).findIdx? (fun c => !hok c) = none := fun n => by
  rw [List.findIdx?_eq_none_iff]
  intro d hd
  rw [(List.mem_replicate.mp hd).2, h]
  rfl
theorem pairs_rep (c : Nat) : ∀ m, pairs (List.replicate (2 * m) c) = List.replicate m (16 * (hval c : Int) + (hval c : Int))
  | 0 => rfl
  | m + 1 => by
    rw [show 2 * (m + 1) = 2 * m + 1 + 1 by omega, List.replicate_succ, List.replicate_succ]
    unfold pairs
    rw [pairs_rep c m, List.replicate_succ]
theorem hexL_rep (i : Int) : ∀ m, hexd (i / 16).toNat = hexd (i % 16).toNat → hexL (List.replicate m i) = List.replicate (2 * m) (hexd (i % 16).toNat)
  | 0, _ => rfl
  | m + 1, h => by
    have ih := hexL_rep i m h
    unfold hexL at ih ⊢
    rw [List.replicate_succ, List.flatMap_cons, ih, show 2 * (m + 1) = 2 * m + 1 + 1 by omega, List.replicate_succ, List.replicate_succ, h]
    rfl
theorem str_ext {x y : Str} (h : x.cps.toList = y.cps.toList) : x = y := by
  cases x with
  | mk a =>
    cases y with
    | mk b =>
      have : a = b := Array.toList_inj.mp h
      rw [this]
theorem hexS_rep (i : Int) (m : Nat) (h : hexd (i / 16).toNat = hexd (i % 16).toNat) : hexS (List.replicate m i) = repS (hexd (i % 16).toNat) (2 * m) := str_ext (by rw [hexS_tl, hexL_rep i m h, repS_eq])
end
end BJ

namespace BJ
open PySem PySem.Spec PyProof.Rows L2 Evl
open PySem.W (Frag kitOne kitAny)
section
variable {X : Cx} {K : Frag}
/-- the same rules where the Frag is named (inside a comprehension) -/
theorem op_eqD' (hK : X.K = K) (hu : X.A.units + 64 < cLine) : OpR X (compareOp .Eq) (rEqD K) := hK ▸ op_eqD hu
theorem op_neD' (hK : X.K = K) (hu : X.A.units + 64 < cLine) : OpR X (compareOp .NotEq) (rNeD K) := hK ▸ op_neD hu
theorem call_isG' (hK : X.K = K) : CallR X (.builtin "isinstance") (rIsG K) := hK ▸ call_isG
theorem call_reprQ' {k : Nat} (hK : X.K = K) (hr : Room k X.A) (hG : X.A.guards = some []) : CallR X (.builtin "repr") (rReprQ K) := hK ▸ call_reprQ hr hG
theorem ix_list' (hK : X.K = K) : IxR X (rIxL K) := hK ▸ ix_list
theorem ix_tup' (hK : X.K = K) : IxR X (rIxT K) := hK ▸ ix_tup
end
theorem dueD_rep {c n m : Nat} (hc : hok c = true) (hn : n = 2 * m) (hm : m ≤ 50000) : dueD (repS c n).cps.toList = dT (List.replicate m (16 * (hval c : Int) + (hval c : Int))) := by
  subst hn
  rw [repS_eq]
  unfold dueD due
  rw [find_rep hc, List.length_replicate]
  simp only
  rw [if_neg (by omega), if_neg (by omega), pairs_rep]
theorem dueD_big {c n : Nat} (hc : hok c = true) (hn : n % 2 = 0) (hm : 100000 < n) : dueD (repS c n).cps.toList = dL [100000] := by
  rw [repS_eq]
  unfold dueD due
  rw [find_rep hc, List.length_replicate]
  simp only
  rw [if_neg (by omega), if_pos hm]
section
variable {K : Frag} {σ : L2.St} {H : Hp} {z : V} {tl te : TE} {tt : TT} {tb tz : TS} {wi : TI} {vs : List Nat} {xs : List V} {D : Ends}
theorem q_forE {j : Nat} (Pr : L2.St → Prop) (hi : EvI wi σ H xs) (h0 : Pr σ)
    (hs : ∀ x ∈ xs, ∀ σ' H', Pr σ' → Ex H H' → ∀ N : L2.St → Hp → Prop, (∀ σ2 H2, Pr σ2 → Ex H' H2 → N σ2 H2) → tb { D with nx := N, ct := N, bk := tz D } (σ'.set j (some x)) H')
    (hd : ∀ σ' H', Pr σ' → Ex H H' → tz D σ' H') : tSeq (tFor wi (gName j) tb) tz D σ H :=
  s_forE (D := { D with nx := tz D }) Pr hi h0 hs hd
theorem rv_mulS {x : Str} {c n : Nat} (hx : x = ⟨#[c]⟩) (h2 : 2 ≤ n) (hn : n ≤ sizeLine) {H : Hp} : RV rMulS (.str x) (.int (n : Int)) H (.str (repS c n)) := fun H1 _ Q q => ⟨c, n, by rw [hx], rfl, h2, hn, q H1 (Ex.refl _)⟩
theorem eu_rep {n : Nat} {v : V} (h : Ev te σ H v) (h2 : 2 ≤ n) (hn : n ≤ 16777216) : EvU (tOp (rRep1 K) (tTup (tCons te tNil)) (tC (.int (n : Int)))) σ H (List.replicate n v) := fun H1 e Q q =>
  h H1 e _ fun H2 e2 => ⟨(by show 1 ≤ sizeLine; decide), fun p hp => ⟨p, n, v, rfl, rfl, st_of upd_same, h2, hn, fun r hr => q r _ (fresh_back (e2.trans (Ex.new hp)) hr) ((e2.trans (Ex.new hp)).trans (Ex.new hr)) upd_same⟩⟩
theorem lc_atA {J : It} {G : Hp → Prop} (w : Walk J xs.length G (YAt xs)) {j : Nat} {H1 : Hp} {Q : Addr → Hp → Prop} (f : V → Bool) (F : V → V) (hn : xs.length ≤ 1000000)
    (hG : ∀ H, Ex H1 H → G H) (hw : ∀ x, wipe ((wipe σ vs).set j (some x)) vs = wipe σ vs)
    (ht : ∀ x ∈ xs, EvT tt ((wipe σ vs).set j (some x)) H1 (f x)) (he : ∀ x ∈ xs, f x = true → Ev te ((wipe σ vs).set j (some x)) H1 (F x))
    (k : ∀ D H', H1 D = none → Ex H1 H' → H' D = some (.lst ((xs.filter f).map F)) → Q D H') :
    ∀ D, H1 D = none → ∃ W : Nat → Nat → Hp → Prop, (∃ m, W 0 m (upd H1 D (.lst []))) ∧ ∀ i m H, W i m H →
      (J.stop i H ∧ Q D H) ∨ (J.go i H ∧ ∃ Nx : Hp → Prop, (∀ H', Nx H' → ∃ m', m' < m ∧ W (i + 1) m' H') ∧ ∀ x H', J.yld i H x H' → gName j x (wipe σ vs) H' fun σ2 H2 => wipe σ2 vs = wipe σ vs ∧ tt σ2 H2 fun b H3 =>
        if b = true then te σ2 H3 fun y H4 => ∃ acc, H4 D = some (.lst acc) ∧ acc.length < sizeLine ∧ Nx (upd H4 D (.lst (acc ++ [y]))) else Nx H3) :=
  lc_at (Q := fun v H => match v with | .ref D => Q D H | _ => False) w f F hn hG hw ht he k
theorem rep_int (n : Nat) (i : Int) : List.replicate n (V.int i) = (List.replicate n i).map V.int := by rw [List.map_replicate]
end
end BJ

/-! own exceptions made with keywords; exceptions as values -/
namespace BJ
open PySem PySem.Spec Builtin Builtin.ObjectAttr
open PySem.W (Looks Frag findIn subIn nsIn typeIn keepIn codeIn hasDictIn clsIn takerIn excInitIn excOver excObj KxsFacts ksFn ksEnv ks_superIn isFn looks_findIn looks_clsIn InstAt kxs_mw)
open HandSPX
section
variable {M : Model} {A : Around} {E : Value → Shared → Prop} {h : Heap} {g : Array GenState} {d : Drawn} {t : Nat} {os : OsState}
variable {nm q : Str} {C N : Addr} {bs bm bmB : List Value} {hdct : Bool} {sn : List Str} {sub : List Value} {ab : Bool} {col : Option Bool} {dd : Option Addr} {k0 k1 k2 k3 k5 : Option Value} {B newId initId : String}
theorem check_new_kw (F : ExcBaseFacts B newId initId bmB) (hT : ∀ X : String, bm.contains (.type X) = bmB.contains (.type X)) {kw : List (Str × Value)} {Q : Unit → Shared → Prop}
    (hC : h.get? C = some (excClassObj nm q C N bs bm hdct sn sub ab col dd k0 k1 k2 k3 k5 newId)) (hq : Q () ⟨h, g, d, t, os⟩) : wpAny M A (checkBuiltinCall newId ⟨[.ref C], kw⟩) Q E ⟨h, g, d, t, os⟩ := by
  have hcont : (Value.ref C :: bm).contains (.type B) = true := by
    rw [List.contains_cons, hT, F.hasB, Bool.or_true]
  have hstar := F.noStar
  simp only [checkBuiltinCall, F.newKind, F.newSplit, F.newRow]
  repeat (first
    | refine wpAny_loadPart_at hC ?_
    | (refine wpAny_isSubtype_exc hC ?_; rw [hcont])
    | refine wpAny_staticBase_exc hC ?_
    | refine wpAny_madeBy_exc hC ?_
    | simp only [bne_self_eq_false, Bool.false_eq_true, if_false]
    | wp_step)
  exact hq
end
section
variable {prog : Program} {w : World} {A : Around} {E : Value → Shared → Prop} {R : Result → Shared → Prop} {h : Heap} {g : Array GenState} {d : Drawn} {t : Nat} {os : OsState}
variable {nm q : Str} {C N : Addr} {bs bm bmB : List Value} {hdct : Bool} {sn : List Str} {sub : List Value} {ab : Bool} {col : Option Bool} {dd : Option Addr} {k0 k1 k2 k3 k5 : Option Value} {B newId initId : String}
theorem new_kw (F : ExcBaseFacts B newId initId bmB) (hT : ∀ X : String, bm.contains (.type X) = bmB.contains (.type X)) {kw : List (Str × Value)}
    (hC : h.get? C = some (excClassObj nm q C N bs bm hdct sn sub ab col dd k0 k1 k2 k3 k5 newId))
    (hq : R (.ok (.ret (.ref (h.objs.size + 1)))) ⟨(h.push { cls := .type "tuple", data := .seq #[] }).push (excO C h.objs.size), g, d, t, os⟩) :
    codeAny (model prog w) A (.builtin newId ⟨[.ref C], kw⟩) R ⟨h, g, d, t, os⟩ := by
  have hends := F.ends
  have hcB : (Value.ref C :: bm).contains (.type B) = true := by
    rw [List.contains_cons, hT, F.hasB, Bool.or_true]
  have hcA : (Value.ref C :: bm).contains (.type "AttributeError") = false := by
    rw [List.contains_cons, hT, F.noAttr]; rfl
  have hcN : (Value.ref C :: bm).contains (.type "NameError") = false := by
    rw [List.contains_cons, hT, F.noName]; rfl
  refine codeAny_builtinAt F.entry ?_
  unfold Builtin.«BaseException.__new__»
  refine wpAt_bind ?_
  show wpAt _ _ _ (stack >>= _) _ _ _
  refine wpAt_bind (wpAt_stack fun p below => wpAt_of_wpAny ?_)
  wp_walk
  refine wpAt_of_wpAny ?_
  rw [F.owner]
  repeat (first
    | with_reducible refine wpAny_madeHere_exc F.canon hC ?_
    | with_reducible refine wpAny_loadPart_at hC ?_
    | (with_reducible refine wpAny_isSubtype_exc hC ?_; first | rw [hcB] | rw [hcA] | rw [hcN])
    | wp_step)
  show R _ _
  rw [Heap.size_push]
  exact hq
theorem type_call_kw (F : ExcBaseFacts B newId initId bmB) (hT : ∀ X : String, bm.contains (.type X) = bmB.contains (.type X)) {kw : List (Str × Value)} {fI : Addr} {Q : Fin → Shared → Prop}
    (hC : h.get? C = some (excClassObj nm q C N bs bm hdct sn sub ab col dd k0 k1 k2 k3 k5 newId))
    (hi : Looks (model prog w) h (typeLookup (.ref C) "__init__") (some (.ref fI))) (hb : ∀ self, Looks (model prog w) h (bindSpecial (.ref fI) self) (.ref fI, [self]))
    (hq : codeAny (model prog w) A (.call (.ref fI) ⟨[.ref (h.objs.size + 1)], kw⟩)
      (fun r s' => match r with | .ok (.ret v) => v = .none ∧ Q (.done (.ret (.ref (h.objs.size + 1)))) s' | .ok _ => False | .error e => E e s')
      ⟨(h.push (PySem.W.kdv_tup [])).push (excO C h.objs.size), g, d, t, os⟩) :
    wpAny (model prog w) A (Builtin.«type.__call__» ⟨[.ref C], kw⟩) Q E ⟨h, g, d, t, os⟩ := by
  repeat (first
    | with_reducible refine wpAny_loadPart_at hC ?_
    | with_reducible refine wpAny_madeBy_exc hC ?_
    | wp_step)
  refine codeAny_call_builtin_code (Code.quiet_builtin _ F.quiet) (check_new_kw F hT hC ?_)
  refine new_kw F hT hC ?_
  show wpAny _ _ _ _ _ _
  have k : ∀ b o, h.get? b = some o → ((h.push (PySem.W.kdv_tup [])).push (excO C h.objs.size)).get? b = some o := fun b o e => Heap.get?_push_of_some _ (Heap.get?_push_of_some _ e)
  have hC₁ := k _ _ hC
  have hget : ((h.push (PySem.W.kdv_tup [])).push (excO C h.objs.size)).get? (h.objs.size + 1) = some (excO C h.objs.size) := by heap_get
  have hcC : (Value.ref C :: bm).contains (.ref C) = true := by simp
  have i1 := hi.keeps k
  have b1 := (hb (.ref (h.objs.size + 1))).keeps k
  unfold isInstance
  repeat (first
    | with_reducible refine wpAny_loadPart_at hget ?_
    | (with_reducible refine wpAny_isSubtype_exc hC₁ ?_; rw [hcC])
    | wp_step)
  show wpAny _ _ (typeLookup (.ref C) _) _ _ _
  refine i1.at ?_
  refine wpAny_holding (wpAny_bind (b1.at ?_))
  refine wpAny_bind (wpAny_call (codeAny_mono hq fun r s' z => ?_))
  rcases r with e | (v | _ | _ | _)
  case error => exact z
  case ok.ret =>
    obtain ⟨rfl, z⟩ := z
    first
      | exact wpAny_pure (wpAny_pure z)
      | (wp_walk; exact z)
  all_goals exact z.elim
theorem check_tc_kw {M : Model} {E : Value → Shared → Prop} {kw : List (Str × Value)} {Q : Unit → Shared → Prop} (hC : h.get? C = some (excClassObj nm q C N bs bm hdct sn sub ab col dd k0 k1 k2 k3 k5 newId))
    (hq : Q () ⟨h, g, d, t, os⟩) : wpAny M A (checkBuiltinCall "type.__call__" ⟨[.ref C], kw⟩) Q E ⟨h, g, d, t, os⟩ := by
  have f3 := tc_sub
  have hTy : (⟨h, g, d, t, os⟩ : Shared).TypeIs (.ref C) "type" := ⟨_, hC, rfl⟩
  simp only [checkBuiltinCall, tc_kind, tc_split]
  repeat (any_goals (first
    | assumption
    | with_reducible refine wpAny_loadPart_at hC ?_
    | with_reducible refine wpAny_onRaise ?_
    | with_reducible refine wpAny_map ?_
    | wp_step))
theorem call_kw (F : ExcBaseFacts B newId initId bmB) (hT : ∀ X : String, bm.contains (.type X) = bmB.contains (.type X)) {kw : List (Str × Value)} {fI : Addr}
    (hC : h.get? C = some (excClassObj nm q C N bs bm hdct sn sub ab col dd k0 k1 k2 k3 k5 newId))
    (hi : Looks (model prog w) h (typeLookup (.ref C) "__init__") (some (.ref fI))) (hb : ∀ self, Looks (model prog w) h (bindSpecial (.ref fI) self) (.ref fI, [self]))
    (hq : codeAny (model prog w) (A.under (.builtin "type.__call__" ⟨[.ref C], kw⟩)) (.call (.ref fI) ⟨[.ref (h.objs.size + 1)], kw⟩) (PySem.W.InitBack (h.objs.size + 1) R)
      ⟨(h.push (PySem.W.kdv_tup [])).push (excO C h.objs.size), g, d, t, os⟩) :
    codeAny (model prog w) A (.call (.ref C) ⟨[], kw⟩) R ⟨h, g, d, t, os⟩ := by
  have f1 := tc_lookup
  have f2 := tc_bind (.ref C)
  have hTy : (⟨h, g, d, t, os⟩ : Shared).TypeIs (.ref C) "type" := ⟨_, hC, rfl⟩
  refine codeAny_of_tree ?_
  show wpAny _ _ (callAny (.ref C) _) _ _ _
  repeat (any_goals (first
    | assumption
    | with_reducible refine wpAny_loadPart_at hC ?_
    | wp_step))
  refine ⟨rfl, ?_⟩
  refine codeAny_call_builtin_at (Code.quiet_builtin _ (by decide +kernel)) entry_typeCall (check_tc_kw hC (type_call_kw F hT hC hi hb ?_))
  refine codeAny_mono hq fun r s' z => ?_
  rcases r with e | (v | _ | _ | _) <;> exact z
end
end BJ
namespace BJ
open PySem PySem.Spec PyProof.Rows L2 Builtin Builtin.ObjectAttr
open PySem.W (Looks Frag findIn subIn nsIn typeIn keepIn codeIn hasDictIn clsIn takerIn excInitIn excOver excObj KxsFacts ksFn ksEnv ks_superIn isFn looks_findIn looks_clsIn InstAt kxs_mw)
/-- how keywords ks bind to the fields (rev: the other way round) -/
def gR (rev : Bool) {α : Type} (ws : List α) : List α := if rev then ws.reverse else ws
theorem vals_rev : ∀ {vs : List V} {us : List Value}, Vals vs us → Vals vs.reverse us.reverse
  | _, _, .nil => .nil
  | _, _, .cons h t => by
    rw [List.reverse_cons, List.reverse_cons]
    exact (vals_rev t).append (.cons h .nil)
theorem gR_vals {rev : Bool} {vs : List V} {us : List Value} (h : Vals vs us) : Vals (gR rev vs) (gR rev us) := by
  cases rev with
  | true => exact vals_rev h
  | false => exact h
theorem gR_len {rev : Bool} {α : Type} (ws : List α) : (gR rev ws).length = ws.length := by cases rev <;> simp [gR]
structure IniKw (K : Frag) (fI : Addr) (fs ks : List Str) (rev : Bool) : Prop where
  len : ks.length = fs.length
  bind : ∀ fd, (∃ oc od osl, K.lookup fI = some ⟨oc, od, .func fd, osl⟩) → ∀ (u : Value) (ws : List Value), ws.length = fs.length → bindArgs fd ⟨[u], ks.zip ws⟩ = pure ((("self" : Str), u) :: fs.zip (gR rev ws))
section
variable {prog : Program} {w : World} {A : Around} {E : Value → Shared → Prop} {R : Result → Shared → Prop} {s : Shared} {K : Frag} {mg : Str → Option Value} {base : Heap}
  {B initId newId : String} {bm : List Value} {C fI cc cda x : Addr} {cn qual t : Str} {fs ks : List Str} {rev : Bool}
theorem err_madeK (T : ErrK prog K mg C fI cc cda B initId newId bm cn fs) (N : IniK K fI cc cda qual t fs) (N2 : IniKw K fI fs ks rev) (M0 : Mod K mg base) {ws : List Value} (hul : ws.length = fs.length)
    (kb : ∀ b o, base.get? b = some o → s.heap.get? b = some o) (hroom : A.depth + 1 < recursionLimit)
    (hq : ∀ h' tk e d, ErrMade s.heap h' e C d (putM fs (fun f => ((fs.zip (gR rev ws)).lookup f).getD .none) fun _ => none) → R (.ok (.ret (.ref e))) { s with heap := h', toks := tk }) :
    codeAny (model prog w) A (.call (.ref C) ⟨[], ks.zip ws⟩) R s := by
  have X : K.In s.heap := M0.kin.keeps kb
  obtain ⟨nm, N', qn, bs, bm', hdct, sn, sub, ab, col, dd, k0, k1, k2, k3, k5, hC, hT⟩ := PySem.W.excInit_of X T.ini
  obtain ⟨oI, hoI, hcI⟩ := err_fn T X
  obtain ⟨hp, g, dr, tk, os⟩ := s
  have old : ∀ b o, hp.get? b = some o → ((hp.push (PySem.W.kdv_tup [])).push (HandSPX.excO C hp.objs.size)).get? b = some o := fun b o e => Heap.get?_push_of_some _ (Heap.get?_push_of_some _ e)
  have hget : ((hp.push (PySem.W.kdv_tup [])).push (HandSPX.excO C hp.objs.size)).get? (hp.objs.size + 1) = some (HandSPX.excO C hp.objs.size) := by heap_get
  have hnx : K.lookup (hp.objs.size + 1) = none := by
    cases e : K.lookup (hp.objs.size + 1) with
    | none => rfl
    | some o => exact absurd (Nat.lt_of_succ_lt (Heap.lt_size (show hp.get? _ = some o from X _ _ e))) (Nat.lt_irrefl _)
  refine call_kw T.fam.FB hT hC (looks_findIn X T.iC) (fun self => PySem.W.exc_bind hoI hcI self) ?_
  refine err_init (x := hp.objs.size + 1) (t0 := hp.objs.size) (us := gR rev ws) (s := ⟨(hp.push (PySem.W.kdv_tup [])).push (HandSPX.excO C hp.objs.size), g, dr, tk, os⟩) T N M0 (by rw [gR_len, hul]) (fun b o e => old b o (kb b o e)) hget hnx ?_
    (fun fd hfd => BindsTo.of_eq (N2.bind fd hfd _ ws hul)) fun h' tk' d t1 k' dz hx n' => ?_
  · show A.depth + 1 < recursionLimit
    exact hroom
  · have dz' : hp.objs.size + 1 + 1 ≤ d := by
      have q := dz
      rw [Heap.size_push, Heap.size_push] at q
      exact q
    exact ⟨rfl, hq h' tk' (hp.objs.size + 1) d ⟨fun b o e => k' b o (Nat.ne_of_lt (Nat.lt_succ_of_lt (Heap.lt_size e))) (old b o e), Nat.le_succ _, ⟨_, hx⟩, Nat.le_trans (Nat.le_trans (Nat.le_succ _) (Nat.le_succ _)) dz', (Nat.ne_of_lt (Nat.lt_of_succ_le dz')).symm, n'⟩⟩
end
section
variable {X : Cx} {C fI cc cda : Addr} {B initId newId : String} {bm : List Value} {cn qual t : Str} {fs ks : List Str} {rev : Bool} {pins : List (Addr × Obj)} {σ : L2.St} {H : Hp} {s : Shared}
/-- a made exception is tracked -/
theorem Inv.made {h' : Heap} {a d : Addr} {tk' : Nat} {vs : List V} {us : List Value} (I : Inv X pins σ H s) (M : ErrMade s.heap h' a C d (putM fs (fun f => ((fs.zip us).lookup f).getD .none) fun _ => none)) (r : Vals vs us) (hvl : vs.length = fs.length) :
    ∃ H2, Inv X pins σ H2 { s with heap := h', toks := tk' } ∧ Evl.Ex H H2 ∧ H a = none ∧ ExcAt H2 a C d (fs.zip vs) := by
  obtain ⟨t0, ha'⟩ := M.obj
  obtain ⟨G', g1, g2⟩ := restrict h' fun b => decide (b ≠ a)
  have gk : ∀ b, b ≠ a → G'.get? b = h'.get? b := fun b hb => g1 b (decide_eq_true hb)
  have ge : G'.get? a = none := g2 a (by simp)
  have gold : ∀ b o, s.heap.get? b = some o → G'.get? b = some o := fun b o q => (gk b (Nat.ne_of_lt (Nat.lt_of_lt_of_le (Heap.lt_size q) M.new))).trans (M.keep b o q)
  have ob : ObjOk X.prog X.w (upd H d (.xd (fs.zip vs))) G' d (.xd (fs.zip vs)) := ⟨_, M.ns.at (fun o q => (gk d M.dne).trans q), relO_putM r hvl⟩
  have J : Inv X pins σ (upd H d (.xd (fs.zip vs))) { s with heap := G', toks := tk' } := I.laid (t' := tk') gold M.dnew ob
  have subs : ∀ b o, G'.get? b = some o → h'.get? b = some o := fun b o q => by
    by_cases hb : b = a
    · rw [hb, ge] at q; cases q
    · exact (gk b hb).symm.trans q
  have ha0 : H a = none := I.hok.fresh M.new
  have hd0 : H d = none := I.hok.fresh M.dnew
  have na : upd H d (.xd (fs.zip vs)) a = none := by rw [upd_ne (Ne.symm M.dne)]; exact ha0
  have J2 : Inv X pins σ (upd (upd H d (.xd (fs.zip vs))) a (ExcK a (.ref C) (some d))) { s with heap := h', toks := tk' } := J.laidN (h' := h') (t' := tk') subs ge na (excK_ok ha' ⟨rfl, rfl⟩ rfl)
  exact ⟨_, J2, (Evl.Ex.new hd0).trans (Evl.Ex.new na), ha0, upd_same, by rw [upd_ne M.dne]; exact upd_same⟩
/-- C(e, ..), the exception as a value -/
def tErrE (C : Addr) (fs : List Str) (ta : TA) : TE := fun σ H Q => ta σ H fun vs H1 => vs.length = fs.length ∧ ∀ a d H2, H1 a = none → Evl.Ex H1 H2 → ExcAt H2 a C d (fs.zip vs) → Q (.ref a) H2
theorem pe_err {e : Expr} {es : List Expr} {ta : TA} {p pos : Pos} (T : ErrK X.prog X.K X.mg C fI cc cda B initId newId bm cn fs) (N : IniK X.K fI cc cda qual t fs) (kC : keepIn X.K (.ref C) = true)
    {k : Nat} (hr : Room k X.A) (ha : PA X (e :: es) ta) (hg : Gl X cn) (hdb : (cn == ("__debug__" : Str)) = false := by decide)
    (he : starEach (e :: es) X.env = (false, eval e X.env) :: starEach es X.env := by rfl) (hpl : (backTo pos (starEach es X.env)).any (·.1) = false := by rfl) :
    PE X (.Call (.Name cn p) (e :: es) [] pos) (tErrE C fs ta) where
  run := by
    intro pins s σ H Q I h
    refine wpAny_Call_Name_kw (ld_glob I hg T.gC ?_ hdb)
    refine PySem.W.callWith_K (h₀ := X.base) I.ok.mod.kin kC (thn (ha.run pos pins s σ H _ I h) ?_) he hpl
    rintro us s1 ⟨vs, H1, I1, r1, hvl, q1⟩
    refine ⟨I1.kIn, ?_⟩
    show wpAny _ _ (call (.ref C) us) _ _ _
    have hul : us.length = fs.length := r1.length.symm.trans hvl
    have hbk := I1.bk
    refine wpAny_call (err_made T N I1.mod hul hbk (by have := hr.dp; omega) fun h' tk' a d M => ?_)
    obtain ⟨H2, J, e2, n2, at2⟩ := Inv.made (tk' := tk') I1 M r1 hvl
    exact ⟨.ref a, H2, J, rfl, q1 a d H2 n2 e2 at2⟩
/-- C(k = e, ..) -/
def tErrKw (C : Addr) (fs : List Str) (rev : Bool) (tk : TA) : TE := fun σ H Q => tk σ H fun zs H1 => zs.length = fs.length ∧ ∀ a d H2, H1 a = none → Evl.Ex H1 H2 → ExcAt H2 a C d (fs.zip (gR rev zs)) → Q (.ref a) H2
theorem pe_errK {kws : List Keyword} {tk : TA} {p pos : Pos} (T : ErrK X.prog X.K X.mg C fI cc cda B initId newId bm cn fs) (N : IniK X.K fI cc cda qual t fs) (N2 : IniKw X.K fI fs ks rev) (kC : keepIn X.K (.ref C) = true)
    {k : Nat} (hr : Room k X.A) (hkw : PK X kws tk) (hg : Gl X cn)
    (hall : (backToKw pos (keywordEach kws X.env)).all (·.1.isSome) = true := by rfl) (hks : (backToKw pos (keywordEach kws X.env)).filterMap (·.1) = ks := by rfl)
    (hdb : (cn == ("__debug__" : Str)) = false := by decide)
    (hpl : ((backTo pos (starEach [] X.env)).any (·.1) || (backToKw pos (keywordEach kws X.env)).any (·.1.isNone)) = false := by rfl) :
    PE X (.Call (.Name cn p) [] kws pos) (tErrKw C fs rev tk) where
  run := by
    intro pins s σ H Q I h
    refine wpAny_Call_Name_kw (ld_glob I hg T.gC ?_ hdb)
    refine PySem.W.callWith_KW0 (h₀ := X.base) I.ok.mod.kin kC hall (thn (hkw.run pos pins s σ H _ I h) ?_) hpl
    rintro ws s2 ⟨zs, H2, I2, rz, hvl, q2⟩
    rw [hks]
    have hul : ws.length = fs.length := rz.length.symm.trans hvl
    refine ⟨I2.kIn, wpAny_call (err_madeK T N N2 I2.mod hul I2.bk (by have := hr.dp; omega) fun h' tk' a d M => ?_)⟩
    obtain ⟨H3, J, e3, n3, at3⟩ := Inv.made (tk' := tk') I2 M (gR_vals rz) (by rw [gR_len, hvl])
    exact ⟨.ref a, H3, J, rfl, q2 a d H3 n3 e3 at3⟩
end
end BJ

/-! data with dicts in it, its repr; list.count(True) -/
namespace BJ
open PySem PySem.Spec PyProof.Rows L2 Evl
open PySem.W (Frag kitOne kitAny)
def keyD : Key → PyData
  | .inl i => .int i
  | .inr x => .str x
mutual
/-- data: atoms, lists, tuples, dicts whose keys are ints or texts -/
inductive Dz (K : Frag) (H : Hp) : V → PyData → Prop
  | non : Dz K H .non .none
  | bl (b : Bool) : Dz K H (.bl b) (.bool b)
  | int (i : Int) : Dz K H (.int i) (.int i)
  | str (x : Str) : Dz K H (.str x) (.str x)
  | lstN {a : Addr} {xs : List V} {ds : List PyData} : SqL K H a xs → sysModules ≠ a → DzAll K H xs ds → Dz K H (.ref a) (.list ds)
  | tup {a : Addr} {xs : List V} {ds : List PyData} : SqT K H a xs → DzAll K H xs ds → Dz K H (.ref a) (.tuple ds)
  | dict {a : Addr} {kvs : List (Key × V)} {ds : List PyData} : H a = some (.dK kvs) → DzAll K H (kvs.map (·.2)) ds → Dz K H (.ref a) (.dict ((kvs.map fun p => keyD p.1).zip ds))
inductive DzAll (K : Frag) (H : Hp) : List V → List PyData → Prop
  | nil : DzAll K H [] []
  | cons {v : V} {vs : List V} {d : PyData} {ds : List PyData} : Dz K H v d → DzAll K H vs ds → DzAll K H (v :: vs) (d :: ds)
end
mutual
theorem dz_ex {K : Frag} {H H' : Hp} (e : Ex H H') : ∀ {x : V} {d : PyData}, Dz K H x d → Dz K H' x d
  | _, _, .non => .non
  | _, _, .bl b => .bl b
  | _, _, .int i => .int i
  | _, _, .str x => .str x
  | _, _, .lstN h1 hs h2 => .lstN (ex_l e h1) hs (dzAll_ex e h2)
  | _, _, .tup h1 h2 => .tup (ex_t e h1) (dzAll_ex e h2)
  | _, _, .dict h1 h2 => .dict (e _ _ h1) (dzAll_ex e h2)
theorem dzAll_ex {K : Frag} {H H' : Hp} (e : Ex H H') : ∀ {xs : List V} {ds : List PyData}, DzAll K H xs ds → DzAll K H' xs ds
  | _, _, .nil => .nil
  | _, _, .cons h1 h2 => .cons (dz_ex e h1) (dzAll_ex e h2)
end
theorem Dz.lst {K : Frag} {H : Hp} {a : Addr} {xs : List V} {ds : List PyData} (h : SqL K H a xs) (hs : sysModules < a) (ha : DzAll K H xs ds) : Dz K H (.ref a) (.list ds) := .lstN h (Nat.ne_of_lt hs) ha
theorem dzAll_len {K : Frag} {H : Hp} : ∀ {xs : List V} {ds : List PyData}, DzAll K H xs ds → xs.length = ds.length
  | _, _, .nil => rfl
  | _, _, .cons _ h => by rw [List.length_cons, List.length_cons, dzAll_len h]
theorem dzAll_rep {K : Frag} {H : Hp} {x : V} {d : PyData} (h : Dz K H x d) : ∀ n, DzAll K H (List.replicate n x) (List.replicate n d)
  | 0 => .nil
  | n + 1 => .cons h (dzAll_rep h n)
theorem dz_ty {K : Frag} {H : Hp} {x : V} {d : PyData} (h : Dz K H x d) : TyX K H x (.type (tyN d)) := by
  cases h with
  | non => exact .base .non
  | bl b => exact .base (.bl b)
  | int i => exact .base (.int i)
  | str x => exact .base (.str x)
  | lstN h _ _ => exact ty_lst h
  | tup h _ => exact ty_tup h
  | dict h _ => exact .base (.dK h)
theorem key_reads {h : Heap} : ∀ {es : List DictEntry} {kvs : List (Key × Value)} {P : Program} {w : World}, Pairs (mixKind P w) es kvs → ReadsAll h (es.map (·.key)) (kvs.map fun p => keyD p.1) [] ∧ es.map (·.val) = kvs.map (·.2)
  | _, _, _, _, .nil => ⟨.nil, rfl⟩
  | _, _, _, _, .cons (e := e) (kv := kv) h1 h2 h3 => by
    obtain ⟨ih1, ih2⟩ := key_reads (h := h) h3
    refine ⟨?_, by rw [List.map_cons, List.map_cons, ih2, h2]⟩
    rw [List.map_cons, List.map_cons]
    obtain ⟨k, v⟩ := kv
    have rd : Reads h e.key (keyD k) [] := by
      rcases keyIs_shape h1 with ⟨i, t, rfl, h⟩ | ⟨x, t, rfl, h⟩
      · rw [h]; exact .int i t
      · rw [h]; exact .str x t
    exact .cons (as := []) (bs := []) rd ih1
section
variable {X : Cx} {pins : List (Addr × Obj)} {σ : L2.St} {H : Hp} {s : Shared}
theorem kv_of {kvs : List (Key × V)} {vs : List (Key × Value)} (h : KV kvs vs) : kvs.map (·.1) = vs.map (·.1) ∧ Vals (kvs.map (·.2)) (vs.map (·.2)) := by
  induction h with
  | nil => exact ⟨rfl, .nil⟩
  | cons h t ih => exact ⟨by rw [List.map_cons, List.map_cons, ih.1, h.1], .cons h.2 ih.2⟩
theorem dz_go {ds : List PyData} (ih : ∀ d ∈ ds, ∀ (v : V) (u : Value), Dz X.K H v d → RelV v u → ∃ as, Reads s.heap u d as ∧ sysModules ∉ as) :
    ∀ (es : List PyData) (ws : List V) (us : List Value), (∀ d ∈ es, d ∈ ds) → DzAll X.K H ws es → Vals ws us → ∃ bs, ReadsAll s.heap us es bs ∧ sysModules ∉ bs
  | [], _, _, _, h, r => by
    cases h
    cases r
    exact ⟨_, .nil, by simp⟩
  | d :: es, _, _, hm, h, r => by
    cases h with
    | cons h1 h2 =>
      cases r with
      | cons r1 r2 =>
        obtain ⟨as, q1, n1⟩ := ih d (hm d List.mem_cons_self) _ _ h1 r1
        obtain ⟨bs, q2, n2⟩ := dz_go ih es _ _ (fun d hd => hm d (List.mem_cons_of_mem _ hd)) h2 r2
        exact ⟨_, .cons q1 q2, fun z => (List.mem_append.mp z).elim n1 n2⟩
theorem dz_reads_n (I : Inv X pins σ H s) : ∀ (n : Nat) (d : PyData), sizeOf d ≤ n → ∀ (v : V) (u : Value), Dz X.K H v d → RelV v u → ∃ as, Reads s.heap u d as ∧ sysModules ∉ as := by
  intro n
  induction n with
  | zero =>
    intro d h
    cases d <;> simp at h
  | succ n ihn =>
    intro d hn v u h r
    cases h with
    | non =>
      cases r
      exact ⟨_, Reads.none, by simp⟩
    | bl b =>
      cases r
      exact ⟨_, Reads.bool b, by simp⟩
    | int i =>
      obtain ⟨t, rfl⟩ := r
      exact ⟨_, Reads.int i t, by simp⟩
    | str x =>
      obtain ⟨t, rfl⟩ := r
      exact ⟨_, Reads.str x t, by simp⟩
    | @lstN a xs ds hq hs ha =>
      cases r
      obtain ⟨its, rv, ⟨o, n, ho, hc, _, hd⟩, _⟩ := I.list hq
      obtain ⟨as, hr, hno⟩ := dz_go (fun d hd => ihn d (by have := List.sizeOf_lt_of_mem hd; simp at hn; omega)) ds _ its (fun _ h => h) ha rv
      refine ⟨_, Reads.list ho hc hd hr, fun hm => ?_⟩
      rcases List.mem_cons.mp hm with e | hm
      · exact absurd e hs
      · exact hno hm
    | @tup a xs ds hq ha =>
      cases r
      obtain ⟨its, rv, ⟨o, ho, hc, n, hd⟩, _⟩ := I.tuple hq
      obtain ⟨as, hr, hno⟩ := dz_go (fun d hd => ihn d (by have := List.sizeOf_lt_of_mem hd; simp at hn; omega)) ds _ its (fun _ h => h) ha rv
      exact ⟨_, Reads.tuple ho hc hd hr, hno⟩
    | @dict a kvs ds hq ha =>
      cases r
      obtain ⟨_, hsys, vs, hkv, o, es, ep, h1, h2, h3, _, h5, _⟩ := (show ObjOk X.prog X.w H s.heap a (.dK kvs) from I.hok a _ hq)
      obtain ⟨k1, k2⟩ := kv_of hkv
      obtain ⟨r1, r2⟩ := key_reads (h := s.heap) h5
      have hl : kvs.length = ds.length := by rw [← dzAll_len ha, List.length_map]
      have e1 : (((kvs.map fun p => keyD p.1).zip ds).map (·.1)) = vs.map fun p => keyD p.1 := by
        rw [List.map_fst_zip (by rw [List.length_map]; omega)]
        have := congrArg (List.map keyD) k1
        rw [List.map_map, List.map_map] at this
        exact this
      have e2 : (((kvs.map fun p => keyD p.1).zip ds).map (·.2)) = ds := List.map_snd_zip (by rw [List.length_map]; omega)
      have hsz : ∀ d ∈ ds, sizeOf d ≤ n := fun d hd => by
        have m1 : d ∈ ((kvs.map fun p => keyD p.1).zip ds).map (·.2) := by rw [e2]; exact hd
        obtain ⟨p, hp, rfl⟩ := List.mem_map.mp m1
        have := List.sizeOf_lt_of_mem hp
        obtain ⟨p1, p2⟩ := p
        simp only [PyData.dict.sizeOf_spec, Prod.mk.sizeOf_spec] at this hn
        show sizeOf p2 ≤ n
        omega
      obtain ⟨bs, q2, n2⟩ := dz_go (fun d hd => ihn d (hsz d hd)) ds _ _ (fun _ h => h) ha k2
      refine ⟨_, Reads.dict (as := []) (bs := bs) h1 h2.1 h3 (by rw [e1]; exact r1) (by rw [e2, r2]; exact q2), fun hm => ?_⟩
      rcases List.mem_cons.mp hm with e | hm
      · rw [← e] at hsys
        simp at hsys
      · exact n2 (by simpa using hm)
theorem dz_reads (I : Inv X pins σ H s) (d : PyData) (v : V) (u : Value) (h : Dz X.K H v d) (r : RelV v u) : ∃ as, Reads s.heap u d as ∧ sysModules ∉ as := dz_reads_n I _ d (Nat.le_refl _) v u h r
end
/-- what repr asks of data, dicts among it -/
structure ShowsZ (d : PyData) : Prop where
  s : d.showable = true
  p : d.depth ≤ 40
  z : d.shown.length ≤ sizeLine
section
variable {X : Cx} {K : Frag}
def rReprZ (K : Frag) : List V → Hp → VK → Prop := fun xs H Q => ∃ (x : V) (d : PyData), xs = [x] ∧ Dz K H x d ∧ ShowsZ d ∧ Q (.str d.shown) H
theorem call_reprZ {k : Nat} (hK : X.K = K) (hr : Room k X.A) (hG : X.A.guards = some []) : CallR X (.builtin "repr") (rReprZ K) := by
  subst hK
  rintro pins s σ H xs us Q I r ⟨x, d, rfl, hd, sh, q⟩
  obtain ⟨u, rfl, r1⟩ := vals1 r
  obtain ⟨as, hrd, hn⟩ := dz_reads I d x u hd r1
  have fin : ∀ (h' : Heap) (t : Tok) (tk : Nat), (∀ b o, s.heap.get? b = some o → h'.get? b = some o) → EP X pins σ Q (.str d.shown t) { s with heap := h', toks := tk } := fun h' t tk kk => ⟨.str d.shown, H, I.kept (t' := tk) kk, ⟨t, rfl⟩, q⟩
  have hsz := sh.z
  have hdep := sh.p
  cases hrd with
  | none => exact PySem.P.repr_of_none (by simpa [PyData.shown] using fin s.heap _ _ fun _ _ e => e)
  | bool b => exact PySem.P.repr_of_bool (by cases b <;> simpa [PyData.shown] using fin s.heap _ _ fun _ _ e => e)
  | int i t => exact PySem.P.repr_of_int (by simpa [PyData.showable] using sh.s) (by simpa [PyData.shown] using fin s.heap _ _ fun _ _ e => e)
  | str y t => exact PySem.P.repr_of_str (by simpa [PyData.shown] using fin s.heap _ _ fun _ _ e => e) (by simpa [PyData.shown] using hsz)
  | list h1 h2 h3 h4 => exact repr_of_reads' (.list h1 h2 h3 h4) sh.s (fun _ => hn) hG (by have := hr.un; omega) (fun _ _ e => e) (fun h' t tk kk => fin h' t tk kk) hsz
  | tuple h1 h2 h3 h4 => exact repr_of_reads' (.tuple h1 h2 h3 h4) sh.s (fun _ => hn) hG (by have := hr.un; omega) (fun _ _ e => e) (fun h' t tk kk => fin h' t tk kk) hsz
  | dict h1 h2 h3 h4 h5 => exact repr_of_reads' (.dict h1 h2 h3 h4 h5) sh.s (fun _ => hn) hG (by have := hr.un; omega) (fun _ _ e => e) (fun h' t tk kk => fin h' t tk kk) hsz

/-! ### bs.count(b), a list of bools -/
def eqb (k : Bool) (v : Value) : Bool := match v with
  | .bool n => n == k
  | _ => false
theorem bools_of_vals : ∀ {bs : List Bool} {us : List Value}, Vals (bs.map V.bl) us → us = bs.map Value.bool
  | [], _, h => by cases h; rfl
  | b :: bs, _, .cons h t => by
    cases (show _ = Value.bool b from h)
    rw [bools_of_vals t]
    rfl
theorem eqb_count (k : Bool) : ∀ bs : List Bool, (bs.map Value.bool).countP (eqb k) = bs.count k
  | [] => rfl
  | b :: bs => by
    rw [List.map_cons, List.countP_cons, List.count_cons, eqb_count k bs]
    rfl
def rCntB (K : Frag) : V → List V → Hp → VK → Prop := fun x xs H Q => ∃ (p : Addr) (bs : List Bool) (k : Bool), x = .ref p ∧ xs = [.bl k] ∧ SqL K H p (bs.map V.bl) ∧ Q (.int (bs.count k : Nat)) H
theorem mt_bcount : MtR X "list.count" (rCntB X.K) := by
  intro pins s σ H x xs v us Q I rx rxs h
  obtain ⟨p, bs, k, rfl, rfl, hs, q⟩ := h
  cases rx
  obtain ⟨u, rfl, ru⟩ := rxs.one
  cases (show u = Value.bool k from ru)
  obtain ⟨its, rv, ⟨⟨cls, dd, data, sl⟩, n, ho, hc, hdn, hd⟩, hlen⟩ := I.list hs
  simp only at hc hd
  subst hc hd
  have hi := bools_of_vals rv
  subst hi
  refine call_meets PySem.F.slot_list_count ⟨_, ho, rfl⟩ PySem.F.entry_list_count (PySem.F.args_list_count_2 _ _)
    (SeqAt.list_countAt p (bs.map Value.bool).toArray n dd sl (.bool k) (eqb k)) ⟨ho, fun y hy => ?_, ?_⟩
  · have hy' : y ∈ bs.map Value.bool := by simpa using hy
    obtain ⟨b, _, rfl⟩ := List.mem_map.mp hy'
    exact SeqAt.EqAt.bool_bool b k
  · refine ⟨.int (bs.count k : Nat), H, I.tok _, ⟨s.toks, ?_⟩, q⟩
    show Value.int (((bs.map Value.bool).toArray.toList.countP (eqb k) : Nat) : Int) s.toks = Value.int ((bs.count k : Nat) : Int) s.toks
    rw [show (bs.map Value.bool).toArray.toList = bs.map Value.bool from rfl, eqb_count]
end
end BJ

/-! lists of exceptions -/
namespace BJ
open PySem PySem.Spec PyProof.Rows L2 Evl
open PySem.W (Frag kitOne kitAny)
theorem excAt_ex {H H' : Hp} (e : Ex H H') {a C d : Addr} {fs : List (Str × V)} (h : ExcAt H a C d fs) : ExcAt H' a C d fs := ⟨e _ _ h.1, e _ _ h.2⟩
/-- the values vs are exceptions of the classes cs, their fields in turn the values ws -/
inductive EL (H : Hp) (ws : List V) : List (Addr × List Str) → List V → Prop
  | nil : EL H ws [] []
  | cons {C : Addr} {fs : List Str} {cs : List (Addr × List Str)} {e d : Addr} {vs : List V} : ExcAt H e C d (fs.zip ws) → EL H ws cs vs → EL H ws ((C, fs) :: cs) (.ref e :: vs)
theorem EL.mono {H H' : Hp} {ws : List V} (x : Ex H H') {cs : List (Addr × List Str)} {vs : List V} (h : EL H ws cs vs) : EL H' ws cs vs := by
  induction h with
  | nil => exact .nil
  | cons h t ih => exact .cons (excAt_ex x h) ih
theorem EL.append {H : Hp} {ws : List V} {cs cs' : List (Addr × List Str)} {vs vs' : List V} (h : EL H ws cs vs) (h' : EL H ws cs' vs') : EL H ws (cs ++ cs') (vs ++ vs') := by
  induction h with
  | nil => exact h'
  | cons h t ih => exact .cons h ih
theorem EL.length {H : Hp} {ws : List V} {cs : List (Addr × List Str)} {vs : List V} (h : EL H ws cs vs) : vs.length = cs.length := by
  induction h with
  | nil => rfl
  | cons h t ih => rw [List.length_cons, List.length_cons, ih]
theorem EL.get {H : Hp} {ws : List V} {cs : List (Addr × List Str)} {vs : List V} (h : EL H ws cs vs) : ∀ (i : Nat) (C : Addr) (fs : List Str), cs[i]? = some (C, fs) → ∃ e d, vs[i]? = some (.ref e) ∧ ExcAt H e C d (fs.zip ws) := by
  induction h with
  | nil => intro i C fs h; simp at h
  | cons h t ih =>
    intro i C fs hi
    cases i with
    | zero =>
      simp at hi
      obtain ⟨rfl, rfl⟩ := hi
      exact ⟨_, _, rfl, h⟩
    | succ i =>
      simp only [List.getElem?_cons_succ] at hi
      exact ih i C fs hi
section
variable {K : Frag} {σ : L2.St} {H : Hp} {te : TE} {ta tr : TA} {ws : List V} {cs cs' : List (Addr × List Str)}
def EvAE (ta : TA) (σ : L2.St) (H : Hp) (ws : List V) (cs : List (Addr × List Str)) : Prop := ∀ H1, Ex H H1 → ∀ Q : List V → Hp → Prop, (∀ vs H2, Ex H1 H2 → EL H2 ws cs vs → Q vs H2) → ta σ H1 Q
def EvLE (te : TE) (σ : L2.St) (H : Hp) (ws : List V) (cs : List (Addr × List Str)) : Prop := ∀ H1, Ex H H1 → ∀ Q : VK, (∀ p vs H2, Ex H1 H2 → H2 p = some (.lst vs) → EL H2 ws cs vs → Q (.ref p) H2) → te σ H1 Q
theorem eae_nil : EvAE tNil σ H ws [] := fun H1 _ _ q => q [] H1 (Ex.refl _) .nil
/-- C(x, ..), then the rest: the values given are the first of ws -/
theorem eae_cons {C : Addr} {fs : List Str} {zs : List V} (h : EvA ta σ H zs) (hl : zs.length = fs.length) (hz : fs.zip zs = fs.zip ws) (hr : EvAE tr σ H ws cs) : EvAE (tCons (tErrE C fs ta) tr) σ H ws ((C, fs) :: cs) := fun H1 e Q q =>
  h H1 e _ fun H2 e2 => ⟨hl, fun a d H3 ha e3 hat => hr H3 ((e.trans e2).trans e3) _ fun vs H4 e4 el => q _ H4 ((e2.trans e3).trans e4) (.cons (excAt_ex e4 (hz ▸ hat)) el)⟩
theorem ele_lst (h : EvAE ta σ H ws cs) (hl : cs.length ≤ 100000) : EvLE (tLst ta) σ H ws cs := fun H1 e Q q =>
  h H1 e _ fun vs H2 e2 el => ⟨sz_of (by rw [el.length]; exact hl), fun p hp => q p vs _ (e2.trans (Ex.new hp)) upd_same (el.mono (Ex.new hp))⟩
theorem ele_cat {t1 t2 : TE} (h1 : EvLE t1 σ H ws cs) (h2 : EvLE t2 σ H ws cs') (hl : cs.length + cs'.length ≤ 100000) : EvLE (tOp (rCatS K) t1 t2) σ H ws (cs ++ cs') := fun H1 e Q q =>
  h1 H1 e _ fun p vs H2 e2 hp el => h2 H2 (e.trans e2) _ fun p' vs' H3 e3 hp' el' => ⟨p, p', vs, vs', rfl, rfl, .inl (.inl (e3 _ _ hp)), .inl (.inl hp'), sz_of (by rw [el.length, el'.length]; exact hl), fun l hl' =>
    q l _ _ ((e2.trans e3).trans (Ex.new hl')) upd_same (((el.mono e3).append el').mono (Ex.new hl'))⟩
theorem ele_var {i : Nat} {p : Addr} {vs : List V} (h : σ[i]? = some (some (.ref p))) (hp : H p = some (.lst vs)) (el : EL H ws cs vs) : EvLE (tVar i) σ H ws cs := fun H1 e Q q => ⟨_, h, q p vs H1 (Ex.refl _) (e _ _ hp) (el.mono e)⟩
/-- list + list that evaluate -/
theorem el_cat {t1 t2 : TE} {xs ys : List V} (h1 : EvL t1 σ H xs) (h2 : EvL t2 σ H ys) (hl : xs.length + ys.length ≤ 100000) : EvL (tOp (rCatS K) t1 t2) σ H (xs ++ ys) := fun H1 e Q q =>
  h1 H1 e _ fun p H2 n2 e2 hp => h2 H2 (e.trans e2) _ fun p' H3 n3 e3 hp' => ⟨p, p', xs, ys, rfl, rfl, .inl (.inl (e3 _ _ hp)), .inl (.inl hp'), sz_of hl, fun l hl' => q l _ (fresh_back (e2.trans e3) hl') ((e2.trans e3).trans (Ex.new hl')) upd_same⟩
/-- a variable that holds a list, as the first of a sum -/
theorem el_catV {t2 : TE} {i : Nat} {p : Addr} {xs ys : List V} (h : σ[i]? = some (some (.ref p))) (hp : H p = some (.lst xs)) (h2 : EvL t2 σ H ys) (hl : xs.length + ys.length ≤ 100000) : EvL (tOp (rCatS K) (tVar i) t2) σ H (xs ++ ys) := fun H1 e Q q =>
  ⟨_, h, h2 H1 e _ fun p' H3 n3 e3 hp' => ⟨p, p', xs, ys, rfl, rfl, .inl (.inl (e3 _ _ (e _ _ hp))), .inl (.inl hp'), sz_of hl, fun l hl' => q l _ (fresh_back e3 hl') (e3.trans (Ex.new hl')) upd_same⟩⟩
/-- isinstance(e, C) of a held exception -/
theorem rc_isE {e C D d : Addr} {fs : List (Str × V)} {b : Bool} (h : ExcAt H e C d fs) (R : ErrR K C) (k : kitOne K (.ref C) (.ref D) = some b) : RC (rIsG K) [.ref e, .ref D] H (.bl b) :=
  fun H1 x Q q => ⟨_, _, .ref C, .ref D, b, rfl, .own D, .exc (excAt_ex x h) R, k, q H1 (Ex.refl _)⟩
theorem rc_isEt {e C d : Addr} {n : String} {fs : List (Str × V)} {b : Bool} (h : ExcAt H e C d fs) (R : ErrR K C) (k : kitOne K (.ref C) (.type n) = some b) : RC (rIsG K) [.ref e, .ty n] H (.bl b) :=
  fun H1 x Q q => ⟨_, _, .ref C, .type n, b, rfl, .ty n, .exc (excAt_ex x h) R, k, q H1 (Ex.refl _)⟩
/-- e.f -/
theorem ev_exf {e C d : Addr} {f : Str} {fs : List (Str × V)} {v : V} (he : Ev te σ H (.ref e)) (h : ExcAt H e C d fs) (R : ErrR K C) (nf : PySem.W.findIn K (.ref C) f = some none) (hl : fs.lookup f = some v) : Ev (tExf K te f) σ H v := fun H1 x Q q =>
  he H1 x _ fun H2 x2 => ⟨e, C, d, fs, v, rfl, excAt_ex (x.trans x2) h, R, nf, hl, q H2 x2⟩
end
end BJ

/-! new lists of which it is known that they are not the modules' dict -/
namespace BJ
open PySem PySem.Spec PyProof.Rows L2 Evl
open PySem.W (Frag kitOne kitAny)
section
variable {X : Cx}
/-- list + list -/
def rCatN (K : Frag) : R2 := fun x y H Q => ∃ l b xs zs, x = .ref l ∧ y = .ref b ∧ Scr K H l xs ∧ Scr K H b zs ∧ xs.length + zs.length ≤ sizeLine ∧ ∀ p, H p = none → sysModules < p → Q (.ref p) (upd H p (.lst (xs ++ zs)))
theorem op_catN : OpR X (binaryOp .Add) (rCatN X.K) := by
  rintro pins s σ H x y v u Q I rx ry ⟨l, b, xs, zs, rfl, rfl, hH, hB, hz, q⟩
  cases rx
  cases ry
  obtain ⟨its, n, r, e, hl⟩ := hH.at I
  obtain ⟨its2, n2, r2, e2, hl2⟩ := hB.at I
  have q1 := r.length
  have q2 := r2.length
  refine PySem.P.add_list e e2 ?_ (by rw [List.size_toArray, List.size_toArray]; omega)
  rw [show its.toArray ++ its2.toArray = (its ++ its2).toArray from by simp]
  exact ⟨.ref _, _, I.lnew (t' := s.toks) (r.append r2) (by rw [List.length_append]; omega), rfl, q _ I.fresh I.big⟩
/-- [..] -/
def tLstN (t : TA) : TE := fun σ H Q => t σ H fun xs H1 => xs.length ≤ sizeLine ∧ ∀ p, H1 p = none → sysModules < p → Q (.ref p) (upd H1 p (.lst xs))
theorem pe_lstN {es : List Expr} {t : TA} {pos : Pos} (h : PA X es t) : PE X (.List es pos) (tLstN t) where
  run := by
    intro pins s σ H Q I hq
    refine wpAny_List_spliced (thn (h.run pos pins s σ H _ I hq) ?_)
    rintro us s1 ⟨xs, H1, I1, r, z, q⟩
    refine ⟨by rw [← r.length]; exact z, ?_⟩
    refine ⟨.ref s1.heap.objs.size, upd H1 s1.heap.objs.size (.lst xs), I1.laid (t' := s1.toks) (fun b u e => Heap.get?_push_of_some _ e) (Nat.le_refl _) ?_, rfl, q _ (I1.hok.fresh (Nat.le_refl _)) I1.big⟩
    exact ⟨z, us, 0, r, Heap.get?_push_size _ rfl⟩
/-- [x] * n -/
def rRepN : R2 := fun x y H Q => ∃ (l : Addr) (n : Nat) (v : V), x = .ref l ∧ y = .int (n : Int) ∧ H l = some (.lst [v]) ∧ n ≤ 1000000 ∧ ∀ p, H p = none → sysModules < p → Q (.ref p) (upd H p (.lst (List.replicate n v)))
theorem op_repN : OpR X (binaryOp .Mult) rRepN := by
  rintro pins s σ H x y v u Q I rx ry ⟨l, m, w, rfl, rfl, hH, hm, q⟩
  cases rx
  obtain ⟨t, rfl⟩ := ry
  obtain ⟨z, its, n, r, hl, e⟩ := I.lstM hH
  have h1 : (1 : Nat) = its.length := hl
  obtain ⟨k, hk⟩ : ∃ k : Int, k = (m : Int) := ⟨_, rfl⟩
  have hkm : k.toNat = m := by omega
  rw [← hk]
  have hms : its.toArray.size * k.toNat ≤ sizeLine := by
    rw [List.size_toArray, ← h1, hkm, sizeLine_eq]
    omega
  have c1 : ¬ (!Builtin.List.listFitsIndex k) = true := by
    rw [fitsIndex_both (by omega) (by omega)]
    exact Bool.false_ne_true
  have c2 : ¬ its.toArray.size * k.toNat > (2 ^ 63 - 1) / 8 := by
    rw [List.size_toArray, ← h1, hkm]
    omega
  have c3 : ¬ Builtin.List.listTooLong (its.toArray.size * k.toNat) = true := by
    rw [notLongL hms]
    exact Bool.false_ne_true
  have ez : List.foldl (fun x1 x2 => x1 ++ x2) #[] (List.replicate (if its.toArray.isEmpty = true then 0 else k.toNat) its.toArray) = (List.replicate m its).flatten.toArray := by
    cases its with
    | nil => simp at h1
    | cons a r' => rw [if_neg (by simp), size_rep, hkm]
  refine wpAny_binaryOp_repeat_ref (T := "list") (U := "int") (by decide) ⟨_, e, rfl⟩ (fun s' => typeIs_int s' k t) noFill_list_mul F.fills_int_mul F.slot_int_rmul repeat_list F.slot_int_index.lookup
    (call_meets F.slot_int_rmul (typeIs_int s k t) F.entry_int_rmul (F.args_int_rmul_2 _ _)
      (int___rmul___int_list k t l its.toArray n) ⟨e, rfl, ⟨_, e, rfl⟩, call_meets F.slot_list_mul ⟨_, e, rfl⟩ F.entry_list_mul (F.args_list_mul_2 _ _)
        (AutoListH.list___mul___list_int_3 l its.toArray n k t c1 c2 c3) ⟨e, ?_⟩⟩)
  rw [ez]
  have rr : Vals (List.replicate m w) (List.replicate m its).flatten := by
    cases r with
    | cons rw' rn =>
      cases rn
      rw [flat1]
      exact vals_rep rw' m
  exact ⟨.ref _, _, I.lnew (t' := s.toks) rr (by rw [List.length_replicate]; rw [List.size_toArray, ← h1, hkm] at hms; omega), rfl, q _ I.fresh I.big⟩
end
section
variable {K : Frag} {σ : L2.St} {H : Hp} {te : TE}
def EvLN (te : TE) (σ : L2.St) (H : Hp) (xs : List V) : Prop := ∀ H1, Ex H H1 → ∀ Q : VK, (∀ p H2, H1 p = none → sysModules < p → Ex H1 H2 → H2 p = some (.lst xs) → Q (.ref p) H2) → te σ H1 Q
theorem eln_catV {t2 : TE} {i : Nat} {p : Addr} {xs ys : List V} (h : σ[i]? = some (some (.ref p))) (hp : H p = some (.lst xs)) (h2 : EvL t2 σ H ys) (hl : xs.length + ys.length ≤ 100000) : EvLN (tOp (rCatN K) (tVar i) t2) σ H (xs ++ ys) := fun H1 e Q q =>
  ⟨_, h, h2 H1 e _ fun p' H3 n3 e3 hp' => ⟨p, p', xs, ys, rfl, rfl, .inl (.inl (e3 _ _ (e _ _ hp))), .inl (.inl hp'), sz_of hl, fun l hl' hs => q l _ (fresh_back e3 hl') hs (e3.trans (Ex.new hl')) upd_same⟩⟩
theorem EvLN.l {xs : List V} (h : EvLN te σ H xs) : EvL te σ H xs := fun H1 e Q q => h H1 e Q fun p H2 n _ e2 hp => q p H2 n e2 hp
/-- [x] * n -/
theorem eln_rep {n : Nat} {v : V} (h : Ev te σ H v) (hn : n ≤ 1000000) : EvLN (tOp rRepN (tLst (tCons te tNil)) (tC (.int (n : Int)))) σ H (List.replicate n v) := fun H1 e Q q =>
  h H1 e _ fun H2 e2 => ⟨(by show 1 ≤ sizeLine; decide), fun p hp => ⟨p, n, v, rfl, rfl, upd_same, hn, fun r hr hs => q r _ (fresh_back (e2.trans (Ex.new hp)) hr) hs ((e2.trans (Ex.new hp)).trans (Ex.new hr)) upd_same⟩⟩
end
end BJ

/-! the law's call where the text makes lambdas: the tables of the code objects are tracked from the start -/
namespace BJ
open PySem PySem.Spec PyProof.Rows L2 LamX
open PySem.W (Frag)
/-- the tables, and the script unless it is written -/
def hpT (K : Frag) (T : List Addr) (a : Addr) (u : HO) : Hp := fun b => if b ∈ T then some (.tbl #[]) else if K.lookup a = none ∧ b = a then some u else none
theorem hpT_in {K : Frag} {T : List Addr} {a b : Addr} {u : HO} (h : b ∈ T) : hpT K T a u b = some (.tbl #[]) := if_pos h
theorem hpT_a {K : Frag} {T : List Addr} {a : Addr} {u : HO} (h : a ∉ T) (hk : K.lookup a = none) : hpT K T a u a = some u := (if_neg h).trans (if_pos ⟨hk, rfl⟩)
theorem hpT_some {K : Frag} {T : List Addr} {a b : Addr} {u v : HO} (h : hpT K T a u b = some v) : (b ∈ T ∧ v = .tbl #[]) ∨ (b ∉ T ∧ K.lookup a = none ∧ b = a ∧ v = u) := by
  unfold hpT at h
  by_cases hb : b ∈ T
  · rw [if_pos hb] at h
    cases h
    exact .inl ⟨hb, rfl⟩
  · rw [if_neg hb] at h
    by_cases h2 : K.lookup a = none ∧ b = a
    · rw [if_pos h2] at h
      cases h
      exact .inr ⟨hb, h2.1, h2.2, rfl⟩
    · rw [if_neg h2] at h
      cases h
theorem lawGT {P : Program} {w : World} {K : Frag} {mg mb : Str → Option Value} {k : Nat} {fa a : Addr} {cs : List (Addr × Addr)} {sp : Sp} {s₁ : Shared} {vs : List Value} {ns : List Int}
    (KX : K.In s₁.heap) (hns : s₁.heap.Ns mainGlobals mg) (hb : s₁.heap.Ns builtinsNs mb) (hbb : ∀ x : Str, x ≠ "__name__" → mb x = bootBuiltins x) (hlim : s₁.heap.NoLimit) (hg : s₁.gens = #[])
    (hT : ∀ p ∈ cs, s₁.heap.get? p.2 = some { cls := .none, data := .fields #[] }) (nT : ∀ p ∈ cs, K.lookup p.2 = none) (C : ∀ p ∈ cs, PySem.W.CodeHd s₁.heap p.1 p.2)
    (hbm : ∃ (bm : Addr) (ob : Obj), mg "__builtins__" = some (.ref bm) ∧ bm ≠ builtinsNs ∧ s₁.heap.get? bm = some ob ∧ ob.cls = .type "module" ∧ ob.dict = some builtinsNs ∧ ob.data = .plain)
    (ha : s₁.heap.get? a = some { cls := .type "list", data := .seq vs.toArray }) (hi : IntsAre vs ns) (hl : ns.length ≤ sizeLine) (hr : Room k callerA)
    (F : ∀ base : Heap, K.In base → base.Ns mainGlobals mg → (∀ p ∈ cs, TabB base mg p.1 p.2) → CallP P w K mg base k (.ref fa) sp)
    (hsp : ∀ H : Hp, (∀ p ∈ cs, H p.2 = some (.tbl #[])) → Scr K H a (ns.map V.int) → sp [.ref a] H (fun v _ => v = .bl true) fun _ _ _ => False) :
    codeAny (model P w) callerA (.call (.ref fa) ⟨[.ref a], []⟩) (fun r s' => r = .ok (.ret (.bool true)) ∧ OldK s₁.heap s'.heap ∧ s'.os = s₁.os ∧ AllBare s'.gens) s₁ := by
  have rv := vals_ints hi
  have lenV := hi.length
  generalize hTe : cs.map (·.2) = T
  have memT : ∀ p ∈ cs, p.2 ∈ T := fun p hp => hTe ▸ List.mem_map.mpr ⟨p, hp, rfl⟩
  have fromT : ∀ b ∈ T, ∃ p ∈ cs, p.2 = b := fun b hb => List.mem_map.mp (hTe ▸ hb)
  have isT : ∀ b ∈ T, s₁.heap.get? b = some { cls := .none, data := .fields #[] } := fun b hb => by
    obtain ⟨p, hp, rfl⟩ := fromT b hb
    exact hT p hp
  have aT : a ∉ T := fun z => by
    have q := (isT a z).symm.trans ha
    cases q
  obtain ⟨H, hH⟩ : ∃ H : Hp, H = hpT K T a (.frz { cls := .type "list", data := .seq vs.toArray } (.lst (ns.map V.int))) := ⟨_, rfl⟩
  -- what is tracked is a table or the script
  have free : ∀ {b : Addr} {o : Obj}, s₁.heap.get? b = some o → o.data ≠ .fields #[] → o.data ≠ .seq vs.toArray → H b = none := fun {b o} e h1 h2 => by
    cases q : H b with
    | none => rfl
    | some u =>
      rw [hH] at q
      rcases hpT_some q with ⟨hb', _⟩ | ⟨_, _, rfl, _⟩
      · rw [isT b hb'] at e
        cases e
        exact (h1 rfl).elim
      · rw [ha] at e
        cases e
        exact (h2 rfl).elim
  have keepB : ∀ {b : Addr} {o : Obj}, s₁.heap.get? b = some o → H b = none → (hidT s₁.heap H).get? b = some o := fun e n => hidT_get e n
  have nsK : ∀ {b : Addr} {m : Str → Option Value}, s₁.heap.Ns b m → (hidT s₁.heap H).Ns b m := by
    rintro b m ⟨o, es, ep, e, d, r⟩
    exact ⟨o, es, ep, keepB e (free e (fun z => by rw [d] at z; cases z) fun z => by rw [d] at z; cases z), d, r⟩
  have kin : K.In (hidT s₁.heap H) := by
    intro b o e
    refine keepB (KX b o e) ?_
    cases q : H b with
    | none => rfl
    | some u =>
      rw [hH] at q
      rcases hpT_some q with ⟨hb', _⟩ | ⟨_, hk, rfl, _⟩
      · obtain ⟨p, hp, rfl⟩ := fromT b hb'
        rw [nT p hp] at e
        cases e
      · rw [hk] at e
        cases e
  obtain ⟨mc, l1, l2⟩ := id hlim
  have md : Mod K mg (hidT s₁.heap H) := ⟨kin, nsK hns, ⟨mb, nsK hb, hbb⟩, ⟨mc, nsK l1, l2⟩⟩
  have TB : ∀ p ∈ cs, TabB (hidT s₁.heap H) mg p.1 p.2 := fun p hp => by
    have hTp := hT p hp
    obtain ⟨og, esg, epg, eg, dg, _⟩ := id hns
    refine ⟨?_, ?_, fun z => ?_⟩
    · obtain ⟨o, us, file, tf, flags, tg, inF, text, tt, e1, r1, r2, r3, r⟩ := C p hp
      exact ⟨o, us, file, tf, flags, tg, inF, text, tt, keepB e1 (free e1 (fun z => by rw [r2] at z; cases z; simp at r3) fun z => by rw [r2] at z; cases z), r1, r2, r3, r⟩
    · obtain ⟨bm, ob, b1, b2, b3, b4, b5, b6⟩ := hbm
      refine ⟨bm, ob, b1, b2, fun q => ?_, fun q => ?_, keepB b3 (free b3 (fun z => by rw [b6] at z; cases z) fun z => by rw [b6] at z; cases z), b4, b5, b6⟩
      · rw [q, eg] at b3
        cases b3
        rw [dg] at b6
        cases b6
      · rw [q, hTp] at b3
        cases b3
        cases b6
    · rw [z, hTp] at eg
      cases eg
      cases dg
  have hok : HOk P w H s₁.heap := fun b u z => by
    rw [hH] at z
    rcases hpT_some z with ⟨hb', rfl⟩ | ⟨_, _, rfl, rfl⟩
    · exact isT b hb'
    · exact ⟨ha, by rw [List.length_map]; exact hl, vs, _, rv, ha⟩
  have hS : Scr K H a (ns.map V.int) := by
    cases hk : K.lookup a with
    | some o =>
      have e := KX a o hk
      rw [ha] at e
      cases e
      exact .inr ⟨vs, 0, hk, rv, by rw [List.length_map]; exact hl⟩
    | none => exact .inl (.inr ⟨_, by rw [hH]; exact hpT_a aT hk⟩)
  have hHT : ∀ p ∈ cs, H p.2 = some (.tbl #[]) := fun p hp => by rw [hH]; exact hpT_in (memT p hp)
  have e0 : Env0 P w K mg (hidT s₁.heap H) callerA [] s₁ H :=
    ⟨rfl, md, fun b o e => of_hidT e, Nat.le_of_eq (hidT_size _ _), trivial, (fun b hb => absurd (show b ∈ ([] : List Addr) from hb) (by simp)), hok, AllBare.of_eq hg⟩
  refine codeAny_mono (F _ kin (nsK hns) TB callerA [] s₁ H [.ref a] [] [.ref a] [] _ _ hr rfl e0 (.cons rfl .nil) .nil ⟨rfl, hsp H hHT hS⟩) ?_
  intro r s' h
  match r, h with
  | .error e, ⟨_, _, _, _, _, _, _, _, _, _, _, _, z⟩ => exact z.elim
  | .ok (.ret u), ⟨v, H', os, bare, un, hok', r', q⟩ =>
    obtain rfl : v = .bl true := q
    obtain rfl : u = Value.bool true := r'
    have key : ∀ b o, b ∉ T → s₁.heap.get? b = some o → s'.heap.get? b = some o := fun b o nb e => by
      cases q : H b with
      | none => exact un.keep b o e q (fun z => nomatch (show b ∈ ([] : List Addr) from z)) (fun z => nomatch z)
      | some u =>
        have q' := q
        rw [hH] at q'
        rcases hpT_some q' with ⟨hb', _⟩ | ⟨_, _, rfl, rfl⟩
        · exact absurd hb' nb
        · have e1 := (hok b _ q).1
          have e2 := (hok' b _ (un.frzs b _ _ q)).1
          rw [e] at e1
          cases e1
          exact e2
    have grown : ∀ p ∈ cs, ∃ more : Array Value, s'.heap.get? p.2 = some { cls := .none, data := .fields more } := fun p hp => by
      obtain ⟨more, z⟩ := un.tbls p.2 #[] (hHT p hp)
      exact ⟨_, hok' p.2 _ z⟩
    refine ⟨rfl, ⟨fun b o e => ?_, fun b o e => ?_⟩, os, bare⟩
    · by_cases hb' : b ∈ T
      · obtain ⟨p, hp, rfl⟩ := fromT b hb'
        obtain ⟨more, hm⟩ := grown p hp
        rw [hT p hp] at e
        cases e
        exact .inr (.inl ⟨((C p hp).tab (hT p hp)).isCodeTable, rfl, #[], more, rfl, by rw [Array.empty_append]; exact hm⟩)
      · exact .inl (key b o hb' e)
    · by_cases hb' : b ∈ T
      · obtain ⟨p, hp, rfl⟩ := fromT b hb'
        obtain ⟨more, hm⟩ := grown p hp
        exact ⟨_, hm⟩
      · exact ⟨o, key b o hb' e⟩
open PySem.W in
/-- the end of a proof, the text making lambdas -/
theorem walkGT {l : OpenLaw} {n k : Nat} {q : Program} {loose : List Str} {XP : (Str → Option Value) → Heap → Prop} {YP : World → Heap → Prop} {d : DefRec} {K : Params → Frag}
    (hn : l.most = some n) (hn2 : n ≤ sizeLine) (hdf : d.params.defaults = []) (hr : Room k callerA) (hY : ∀ (w : World) (h : Heap), YP w h → (K w.params).In h)
    (F : ∀ (w : World) (mg : Str → Option Value) (fa : Addr) (h : Heap), YP w h → (K w.params).In h → h.Ns mainGlobals mg → mg d.name = some (.ref fa) →
      ∃ (cs : List (Addr × Addr)) (sp : Sp), (∀ p ∈ cs, h.get? p.2 = some { cls := .none, data := .fields #[] }) ∧ (∀ p ∈ cs, (K w.params).lookup p.2 = none) ∧ (∀ p ∈ cs, PySem.W.CodeHd h p.1 p.2) ∧
        (∀ (H : Hp) (a : Addr) (ns : List Int), ns.length ≤ n → (∀ z ∈ ns, Builtin.Int.intBits z ≤ 1048576) → (∀ p ∈ cs, H p.2 = some (.tbl #[])) → Scr (K w.params) H a (ns.map V.int) → sp [.ref a] H (fun v _ => v = .bl true) fun _ _ _ => False) ∧
        ∀ base : Heap, (K w.params).In base → base.Ns mainGlobals mg → (∀ p ∈ cs, TabB base mg p.1 p.2) → CallP l.prog w (K w.params) mg base k (.ref fa) sp) :
    WalkO q loose XP YP l.row.toRowW d [] (fun f vs => PySem.call f vs) := by
  refine Att.attach_callB hn hdf fun w s₀ s₁ mg mb fa o pm cd doc a vs ns G Y ho hd hcd hmg hobj hints hlen hbits hg => ?_
  have KX := hY w _ Y
  obtain ⟨cs, sp, hT, nT, C, hsp, hF⟩ := F w mg fa _ Y KX G.T.g hmg
  exact lawGT KX G.T.g G.T.b G.T.builtins G.T.nolimit hg hT nT C G.T.bmain hobj hints (Nat.le_trans hlen hn2) hr hF fun H hH hS => hsp H a ns hlen hbits hH hS
end BJ

/-! defs whose promise holds for every Around (they call no repr); written dicts of text keys -/
namespace BJ
open PySem PySem.Spec PyProof.Rows L2 Evl
open PySem.W (Frag)
/-- a promise for every Around -/
def CallO (P : Program) (w : World) (K : Frag) (mg : Str → Option Value) (base : Heap) (k : Nat) (u : Value) (sp : Sp) : Prop :=
  ∀ (A : Around) (outer : List Env) (s : Shared) (H : Hp) (us : List Value) (vs : List V) (Q : VK) (E : XK),
    Room k A → Env0 P w K mg base A outer s H → Vals vs us → sp vs H Q E → codeAny (model P w) A (.call u ⟨us, []⟩) (CR (L2.CX P w) outer P w H s Q E) s
section
variable {P : Program} {w : World} {K : Frag} {mg : Str → Option Value} {base : Heap}
theorem CallO.mono {j k : Nat} {u : Value} {sp : Sp} (F : CallO P w K mg base j u sp) (h : j ≤ k) : CallO P w K mg base k u sp := fun A o s H us vs Q E hr => F A o s H us vs Q E (hr.mono h)
theorem CallO.p {k : Nat} {u : Value} {sp : Sp} (F : CallO P w K mg base k u sp) : CallP P w K mg base k u sp := by
  rintro A outer s H us ws vs zs Q E room hg e0 rel relz ⟨rfl, prom⟩
  cases relz
  exact F A outer s H us vs Q E room e0 rel prom
theorem FnG.ofOk {k : Nat} {f : Addr} {fd : FuncData} {ps : List Str} {sp : Sp} (F : FnOk P w K mg base (L2.CX P w) k f fd ps sp) : FnG P w K mg base k f fd ps sp :=
  ⟨F.len, fun A o s H a us vs Q E hr _ => F.run A o s H a us vs Q E hr⟩
/-- the rule for a def, for every Around -/
theorem DefAt.okX {x qual : Str} {st : Stmt} {f : Addr} {N ps : List Str} {k : Nat} {sp : Sp} (D : DefAt K x qual st f ps) (S : FnScope N ps (defScope st))
    (len : ∀ vs H Q E, sp vs H Q E → vs.length = ps.length)
    (hbody : ∀ (cdv : Value) (A : Around) (outer : List Env) (s : Shared) (H : Hp) (vs : List V) (Q : VK) (E : XK),
      Room k (A.deeper (envOfC qual (defScope st) s.heap.objs.size f cdv)) → sp vs H Q E →
      ∃ t, PSs (cxOf (L2.CX P w) P w K mg base N qual (defScope st) f cdv A outer s H E) (defBody st) t ∧ t { nx := fun _ H' => Q .non H', rt := Q } (start N vs) H) :
    ∃ fd, FnOk P w K mg base (L2.CX P w) (k + 1) f fd ps sp ∧ Binds K fd ps [] ∧ Fun K x qual st f fd := by
  obtain ⟨fd, F, hb⟩ := D.fn
  exact ⟨fd, F.okX S len hbody, hb, F⟩
theorem fnO {x qual : Str} {st : Stmt} {f : Addr} {k : Nat} {ps : List Str} {sp : Sp} (h : ∃ fd, FnOk P w K mg base (L2.CX P w) k f fd ps sp ∧ Binds K fd ps [] ∧ Fun K x qual st f fd) : CallO P w K mg base k (.ref f) sp := by
  obtain ⟨fd, F, hb, _⟩ := h
  intro A outer s H us vs Q E room e0 rel prom
  have hl : (us ++ []).length = ps.length := by
    rw [List.append_nil]
    exact rel.length.symm.trans (F.len _ _ _ _ prom)
  have KX : K.In s.heap := e0.mod.kin.keeps fun b o e => (e0.bs b o e).1
  have b := hb s us KX hl
  rw [List.append_nil] at b
  exact F.run A outer s H ⟨us, []⟩ us vs Q E room e0 b rel prom
theorem fnOG {x qual : Str} {st : Stmt} {f : Addr} {k : Nat} {ps : List Str} {sp : Sp} (h : ∃ fd, FnOk P w K mg base (L2.CX P w) k f fd ps sp ∧ Binds K fd ps [] ∧ Fun K x qual st f fd) : ∃ fd, FnG P w K mg base k f fd ps sp ∧ Binds K fd ps [] ∧ Fun K x qual st f fd := by
  obtain ⟨fd, F, r⟩ := h
  exact ⟨fd, FnG.ofOk F, r⟩
end
section
variable {X : Cx} {k : Nat} {u : Value} {sp : Sp} {W : WX} {x : Str} {p pos : Pos} {e : Expr} {es : List Expr} {t : TA}
theorem run_callO {pins : List (Addr × Obj)} {σ : L2.St} {H : Hp} {s : Shared} {Q : VK} {us : List Value} {vs : List V}
    (F : CallO X.prog X.w X.K X.mg X.base k u sp) (hr : Room k X.A) (tkW : Takes X W) (I : Inv X pins σ H s) (r : Vals vs us) (h : sp vs H Q fun cls d H' => W cls d σ H') :
    wpAny (model X.prog X.w) X.A (call u us) (EP X pins σ Q) X.xe s := by
  refine wpAny_call (codeAny_mono (F X.A X.stack s H us vs Q _ hr I.env0 r h) ?_)
  intro res s' hq
  match res, hq with
  | .error e, hq => exact tkW e s' (XE.of_call I (fun _ _ _ z => z) hq)
  | .ok (.ret u), hq => exact I.after hq
/-- f(e, ..) by such a promise -/
theorem pe_co (F : CallO X.prog X.w X.K X.mg X.base k u sp) (hr : Room k X.A) (hg : Gl X x) (hm : X.mg x = some u)
    (hk : PySem.W.keepIn X.K u = true) (tkW : Takes X W) (ha : PA X (e :: es) t) (hdb : (x == ("__debug__" : Str)) = false := by decide)
    (he : starEach (e :: es) X.env = (false, eval e X.env) :: starEach es X.env := by rfl)
    (hpl : (backTo pos (starEach es X.env)).any (·.1) = false := by rfl) : PE X (.Call (.Name x p) (e :: es) [] pos) (tCa sp W t) where
  run := by
    intro pins s σ H Q I h
    refine wpAny_Call_Name_kw (ld_glob I hg hm ?_ hdb)
    refine PySem.W.callWith_K (h₀ := X.base) I.ok.mod.kin hk (thn (ha.run pos pins s σ H _ I h) ?_) he hpl
    rintro us s1 ⟨vs, H1, I1, r, q⟩
    exact ⟨I1.kIn, run_callO F hr tkW I1 r q⟩
end
/-- the written dict at a, its keys texts -/
structure KD (K : Frag) (w : World) (a : Addr) : Prop where
  ex : ∃ es n, K.lookup a = some ⟨.type "dict", none, .dict es n, #[]⟩ ∧ PySem.W.KeysLit w.params es.toList
  low : (a == sysModules) = false
section
variable {X : Cx}
/-- text in d, d written -/
def rInKD (K : Frag) (w : World) (neg : Bool) : R2 := fun x y H Q => ∃ (z : Str) (a : Addr) (r : Option Value), x = .str z ∧ y = .ref a ∧ KD K w a ∧ PySem.W.nsIn K a z = some r ∧ Q (.bl (if neg then !r.isSome else r.isSome)) H
theorem op_inKD : OpR X (compareOp .In) (rInKD X.K X.w false) := by
  rintro pins s σ H x y v u Q I rx ry ⟨z, a, r, rfl, rfl, ⟨⟨es, n, hl, hk⟩, low⟩, hn, q⟩
  obtain ⟨t, rfl⟩ := rx
  cases (show u = Value.ref a from ry)
  have hm := PySem.W.mapOf_K (prog := X.prog) (w := X.w) I.kIn hl hk
  refine wpAny_in_of (strKind_is X.prog X.w z t) low hm ⟨_, H, I.tok _, ?_, q⟩
  have e := PySem.W.find_K hl hn
  show Value.bool _ = Value.bool _
  rw [e]
  rfl
end
end BJ

/-! written tuples of tuples, written dicts of text keys: what they hold, read off the written part -/
namespace BJ
open PySem PySem.Spec PyProof.Rows L2 Evl
open PySem.W (Frag)
def atomV : Value → Option V
  | .int i _ => some (.int i)
  | .str x _ => some (.str x)
  | _ => none
theorem atomV_rel {u : Value} {v : V} (h : atomV u = some v) : RelV v u := by
  cases u <;> simp [atomV] at h
  · subst h; exact ⟨_, rfl⟩
  · subst h; exact ⟨_, rfl⟩
def tupIn (K : Frag) (a : Addr) : Option (List Value) := match K.lookup a with
  | some ⟨c, _, .seq its _, _⟩ => if (c == .type "tuple") && decide (its.size ≤ 1000) then some its.toList else none
  | _ => none
theorem tupIn_at {K : Frag} {a : Addr} {l : List Value} (h : tupIn K a = some l) : ∃ (o : Obj) (its : Array Value) (n : Nat), K.lookup a = some o ∧ o.cls = .type "tuple" ∧ o.data = .seq its n ∧ its.size ≤ sizeLine ∧ its.toList = l := by
  unfold tupIn at h
  split at h
  · rename_i c dd its n sl e
    split at h
    · rename_i hc
      rw [Bool.and_eq_true] at hc
      cases h
      exact ⟨_, its, n, e, eq_of_beq hc.1, rfl, Nat.le_trans (of_decide_eq_true hc.2) (by decide), rfl⟩
    · cases h
  · cases h
/-- a tuple of atoms -/
def rowIn (K : Frag) : Value → Option (List V)
  | .ref b => (tupIn K b).bind fun l => l.mapM atomV
  | _ => none
def rowsIn (K : Frag) (a : Addr) : Option (List (List V)) := (tupIn K a).bind fun l => l.mapM (rowIn K)
theorem mapM_vals : ∀ {l : List Value} {vs : List V}, l.mapM atomV = some vs → Vals vs l
  | [], vs, h => by
    simp at h
    subst h
    exact .nil
  | u :: l, vs, h => by
    rw [List.mapM_cons] at h
    simp only [Option.bind_eq_bind, Option.bind_eq_some_iff, Option.pure_def, Option.some.injEq] at h
    obtain ⟨v, hv, ws, hw, rfl⟩ := h
    exact .cons (atomV_rel hv) (mapM_vals hw)
theorem rowIn_at {K : Frag} {u : Value} {r : List V} (h : rowIn K u = some r) : ∃ b, u = .ref b ∧ ∀ H : Hp, SqT K H b r := by
  cases u with
  | ref b =>
    obtain ⟨l, h1, h2⟩ := Option.bind_eq_some_iff.mp (show (tupIn K b).bind (fun l => l.mapM atomV) = some r from h)
    obtain ⟨o, its, n, e1, e2, e3, e4, rfl⟩ := tupIn_at h1
    exact ⟨b, rfl, fun H => .inr ⟨o, its, n, e1, e2, e3, e4, mapM_vals h2⟩⟩
  | _ => simp [rowIn] at h
theorem mapM_rows {K : Frag} : ∀ {l : List Value} {rows : List (List V)}, l.mapM (rowIn K) = some rows → ∃ bs : List Addr, Vals (bs.map V.ref) l ∧ bs.length = rows.length ∧ ∀ (i : Nat) (r : List V), rows[i]? = some r → ∃ b, bs[i]? = some b ∧ ∀ H : Hp, SqT K H b r
  | [], rows, h => by
    simp at h
    subst h
    exact ⟨[], .nil, rfl, fun i r h => by simp at h⟩
  | u :: l, rows, h => by
    rw [List.mapM_cons] at h
    simp only [Option.bind_eq_bind, Option.bind_eq_some_iff, Option.pure_def, Option.some.injEq] at h
    obtain ⟨v, hv, ws, hw, rfl⟩ := h
    obtain ⟨bs, hv2, hl, hget⟩ := mapM_rows hw
    obtain ⟨b, rfl, hb⟩ := rowIn_at hv
    refine ⟨b :: bs, .cons rfl hv2, by rw [List.length_cons, List.length_cons, hl], fun i r hi => ?_⟩
    cases i with
    | zero =>
      simp at hi
      subst hi
      exact ⟨b, rfl, hb⟩
    | succ i =>
      simp only [List.getElem?_cons_succ] at hi ⊢
      exact hget i r hi
theorem rowsIn_at {K : Frag} {a : Addr} {rows : List (List V)} (h : rowsIn K a = some rows) : ∃ bs : List Addr, (∀ H : Hp, SqT K H a (bs.map V.ref)) ∧ bs.length = rows.length ∧ ∀ (i : Nat) (r : List V), rows[i]? = some r → ∃ b, bs[i]? = some b ∧ ∀ H : Hp, SqT K H b r := by
  unfold rowsIn at h
  simp only [Option.bind_eq_some_iff] at h
  obtain ⟨l, h1, h2⟩ := h
  obtain ⟨o, its, n, e1, e2, e3, e4, rfl⟩ := tupIn_at h1
  obtain ⟨bs, hv, hl, hg⟩ := mapM_rows h2
  exact ⟨bs, fun H => .inr ⟨o, its, n, e1, e2, e3, e4, hv⟩, hl, hg⟩
/-- the written dict at a, its keys texts, its values atoms, in their order -/
structure KDL (K : Frag) (P : Params) (a : Addr) (L : List (Str × V)) : Prop where
  ex : ∃ es n, K.lookup a = some ⟨.type "dict", none, .dict es n, #[]⟩ ∧ PySem.W.KeysLit P es.toList ∧ es.toList.any (·.refKey) = false ∧ es.toList.map (fun e => (match e.key with | .str x _ => x | _ => Str.empty, atomV e.val)) = L.map fun p => (p.1, some p.2)
  low : (a == sysModules) = false
theorem KDL.kd {K : Frag} {w : World} {a : Addr} {L : List (Str × V)} (h : KDL K w.params a L) : KD K w a := by
  obtain ⟨⟨es, n, h1, h2, _⟩, h3⟩ := h
  exact ⟨⟨es, n, h1, h2⟩, h3⟩
theorem find_of : ∀ {es : List DictEntry} {L : List (Str × V)} {P : Params}, PySem.W.KeysLit P es → es.map (fun e => (match e.key with | .str x _ => x | _ => Str.empty, atomV e.val)) = L.map (fun p => (p.1, some p.2)) → ∀ z : Str,
    match es.find? (·.key.isStr z), L.lookup z with
    | some e, some v => atomV e.val = some v
    | none, none => True
    | _, _ => False
  | [], [], _, _, _, z => trivial
  | e :: es, [], _, _, h, z => by simp at h
  | [], p :: L, _, _, h, z => by simp at h
  | e :: es, (x, v) :: L, P, ⟨⟨y, t, hk, hh⟩, hr⟩, h, z => by
    rw [List.map_cons, List.map_cons] at h
    injection h with h1 h2
    have ih := find_of hr h2 z
    rw [hk] at h1
    simp only [Prod.mk.injEq] at h1
    obtain ⟨rfl, h1⟩ := h1
    have ek : e.key.isStr z = (y == z) := by rw [hk]; rfl
    by_cases hz : z = y
    · subst hz
      rw [List.find?_cons_of_pos (by rw [ek]; simp), lookup_cons_if, if_pos rfl]
      exact h1
    · rw [List.find?_cons_of_neg (by rw [ek]; simpa using fun q => hz q.symm), lookup_cons_if, if_neg hz]
      exact ih
theorem KDL.look {K : Frag} {P : Params} {a : Addr} {L : List (Str × V)} (h : KDL K P a L) (z : Str) : match L.lookup z with
    | some v => ∃ u, PySem.W.nsIn K a z = some (some u) ∧ RelV v u
    | none => PySem.W.nsIn K a z = some none := by
  obtain ⟨⟨es, n, h1, h2, h3, h4⟩, _⟩ := h
  have f := find_of h2 h4 z
  have e : PySem.W.nsIn K a z = (match es.toList.find? (·.key.isStr z) with | some e => some (some e.val) | none => some none) := by
    unfold PySem.W.nsIn
    rw [h1]
    dsimp only
    rw [h3]
    rfl
  rw [e]
  cases hf : es.toList.find? (·.key.isStr z) with
  | some en =>
    rw [hf] at f
    cases hl : L.lookup z with
    | some v =>
      rw [hl] at f
      exact ⟨_, rfl, atomV_rel f⟩
    | none => rw [hl] at f; exact f.elim
  | none =>
    rw [hf] at f
    cases hl : L.lookup z with
    | some v => rw [hl] at f; exact f.elim
    | none => rfl
end BJ

/-! a def whose code object is known (it makes lambdas); its table -/
namespace BJ
open PySem PySem.Spec PyProof.Rows L2 Evl
open PySem.W (Frag)
structure DefAtC (K : Frag) (x qual : Str) (st : Stmt) (f c : Addr) (ps : List Str) : Prop where
  fn : ∃ (oc : Value) (od : Option Addr) (kV doc pm : Value) (an : Option Addr) (ct : Value) (osl : Array (Option Value)),
    K.lookup f = some ⟨oc, od, .func (PySem.W.fnOf x qual (defArgs st) (defBody st) (defScope st) .none kV doc pm an (.ref c) ct), osl⟩ ∧ PySem.W.codeIn K (.ref c) qual = true ∧
      Binds K (PySem.W.fnOf x qual (defArgs st) (defBody st) (defScope st) .none kV doc pm an (.ref c) ct) ps []
section
variable {P : Program} {w : World} {K : Frag} {mg : Str → Option Value} {base : Heap}
theorem DefAtC.ok {x qual : Str} {st : Stmt} {f c : Addr} {N ps : List Str} {k : Nat} {sp : Sp} (D : DefAtC K x qual st f c ps) (S : FnScope N ps (defScope st))
    (len : ∀ vs H Q E, sp vs H Q E → vs.length = ps.length)
    (hbody : ∀ (A : Around) (outer : List Env) (s : Shared) (H : Hp) (vs : List V) (Q : VK) (E : XK),
      Room k (A.deeper (envOfC qual (defScope st) s.heap.objs.size f (.ref c))) → A.guards = some [] → sp vs H Q E →
      ∃ t, PSs (cxOf (L2.CX P w) P w K mg base N qual (defScope st) f (.ref c) A outer s H E) (defBody st) t ∧ t { nx := fun _ H' => Q .non H', rt := Q } (start N vs) H) :
    CallP P w K mg base (k + 1) (.ref f) sp := by
  obtain ⟨oc, od, kV, doc, pm, an, ct, osl, lk, hcd, hb⟩ := D.fn
  have F : FnG P w K mg base (k + 1) f (PySem.W.fnOf x qual (defArgs st) (defBody st) (defScope st) .none kV doc pm an (.ref c) ct) ps sp :=
    fnG_of lk hcd S len fun A outer s H vs Q E hr hg hsp => hbody A outer s H vs Q E hr hg hsp
  have q := F.callP (dvs := []) hb .nil
  rintro A outer s H us ws vs zs Q E room hg e0 rel relz ⟨hz, prom⟩
  exact q A outer s H us ws vs zs Q E room hg e0 rel relz ⟨hz, show sp (vs ++ []) H Q E by rw [List.append_nil]; exact prom⟩
end
/-- the table's address in the code object at c -/
def tabOf (K : Frag) (c : Addr) : Option Addr := match K.lookup c with
  | some ⟨_, _, .fields vs, _⟩ => (match vs.getD 11 .none with | .ref p => some p | _ => none)
  | _ => none
end BJ

/-! x(lambda: body), the def that gets it knowing its own slots where the lambda's call raises -/
namespace BJ
open PySem PySem.Spec PyProof.Rows L2 LamX Evl
open PySem.W (Frag)
section
variable {X : Cx} {pins : List (Addr × Obj)} {σ : L2.St} {H : Hp} {s : Shared}
/-- call(), in the def that got the lambda; what is raised is wished at that def's slots -/
theorem pe_act2 {CXg : CXT} {Eg : XK} {Ng : List Str} {qg : Str} {sg : Scope} {g f c' : Addr} {cdg pm ctv : Value} {params : Arguments} {body : Expr} {scope : Scope} {k i : Nat} {a : Str}
    {pn : List (Addr × Obj)} {xe : Value → Shared → Prop} {W : WX} {t : XK → TE} {p1 p2 : Pos} (I : Inv X pins σ H s) (L : LamS X.env.scope scope)
    (hf : s.heap.get? f = some (PySem.W.kla_obj "<lambda>" (X.env.qual ++ "<lambda>") params body scope (cloFrom X.env.cells scope.names []) pm c' ctv)) (hfn : H f = none) (hfr : f ∉ frs X.stack)
    (hbind : bindArgs (PySem.W.kla_fn "<lambda>" (X.env.qual ++ "<lambda>") params body scope (cloFrom X.env.cells scope.names []) pm (.ref c') ctv) ⟨[], []⟩ = pure [])
    (tk : Takes ((cxOf CXg X.prog X.w X.K X.mg X.base Ng qg sg g cdg X.A X.stack s H Eg).tr pn xe) W) (hr : Room (k + 1) (X.A.deeper (envOfC qg sg s.heap.objs.size g cdg)))
    (hbody : ∀ (E : XK) (A : Around) (outer : List Env) (s : Shared) (H : Hp), Room k (A.deeper (lamEnv X scope s.heap.objs.size f c')) → PE (lamCx X A outer s H E scope f c') body (t E))
    (hN : Ng[i]? = some a) (hv : Vis sg a) (hd : (a == ("__debug__" : Str)) = false := by decide) (hcd : (a == ("__classdict__" : Str)) = false := by decide) :
    PE ((cxOf CXg X.prog X.w X.K X.mg X.base Ng qg sg g cdg X.A X.stack s H Eg).tr pn xe) (.Call (.Name a p1) [] [] p2)
      (fun σZ HZ Q => σZ[i]? = some (some (.ref f)) ∧ HZ c' = some (CodeO c' (X.env.qual ++ "<lambda>")) ∧ t (fun cls d H' => W cls d σZ H') σ HZ Q) where
  run := by
    rintro pinsZ sZ σZ HZ Q IZ ⟨hs, hc, ht⟩
    refine wpAny_Call_Name_kw (thn ((pe_var (pos := p1) (i := i) hN hv hd hcd).run pinsZ sZ σZ HZ (fun v H1 => v = .ref f ∧ H1 = HZ) IZ ⟨.ref f, hs, rfl, rfl⟩) ?_)
    rintro u s1 ⟨v, H1, I1, r1, rfl, eH⟩
    rw [eH] at I1
    cases (show u = Value.ref f from r1)
    have nof : f ∉ ([] : List Addr) := fun z => nomatch z
    have atF := I1.base.keep f _ hf hfn hfr nof
    refine PySem.W.callWith_F0 ⟨_, _, _, _, atF⟩ ?_
    have un : Un (frs X.stack) [] H HZ s.heap s1.heap := I1.base
    obtain ⟨⟨oc, cvs, ct, hoc, hdc, hvc⟩, _, _⟩ := I1.hok c' _ hc
    have go : codeAny (model X.prog X.w) (X.A.deeper (envOfC qg sg s.heap.objs.size g cdg)) (.call (.ref f) ⟨[], []⟩)
        (CR (L2.CX X.prog X.w) (envOfC qg sg s.heap.objs.size g cdg :: X.stack) X.prog X.w HZ s1 Q fun cls d H' => W cls d σZ H') s1 := by
      refine PySem.W.kla_callFunE hr.depth atF rfl L.co L.gen rfl ⟨c', oc, cvs, ct, rfl, hoc, hdc, hvc⟩ ?_
      rw [hbind]
      refine wpAny_pure (wpAny_newFunctionEnv (fun y hy => (L.own y hy).2) (fun y hy => absurd hy (by simp)) (fun h₁ hns hsb => ⟨I1.nolimit.fresh _ hsb, ?_⟩) L.kind)
      show codeAny _ _ (.expr body (lamEnv X scope s1.heap.objs.size f c')) _ _
      have grow : ∀ b o, s1.heap.get? b = some o → h₁.get? b = some o := fun b o e =>
        hsb.extBut b o (Nat.ne_of_lt (Heap.lt_size e)) (Heap.get?_push_of_some _ e)
      have J := lam_start2 (E := fun cls d H' => W cls d σZ H') (f := f) (c' := c') I L I1.env0 hr.hd un hns grow (tk := s1.toks + ([] : List (Str × Value)).length)
      refine PySem.W.kla_codeExpr (wpAny_mono ((hbody (fun cls d H' => W cls d σZ H') _ _ s1 HZ (hr.deeper _)).run [] _ _ HZ Q J ht) ?_ fun e s' hq => hq)
      rintro v s' ⟨w', H', J', rv, q⟩
      exact ⟨w', H', J'.os, J'.bare, J'.base, J'.hok, rv, q⟩
    refine wpAny_call (codeAny_mono go ?_)
    intro res s' hq
    match res, hq with
    | .error e, hq => exact tk e s' (XE.of_call I1 (fun _ _ _ z => z) hq)
    | .ok (.ret u), hq => exact I1.after hq
end
/-- what such a def gives, the lambda's call known by tl -/
def Gives2 (X : Cx) (Ng : List Str) (x : Str) (sg : Scope) (g : Addr) (cdg : Value) (bg : List Stmt) (a : Str) (q : Str) (TT : (XK → Hp → VK → Prop) → Hp → VK → Prop) : Prop :=
  ∀ (f c' : Addr) (s : Shared) (H : Hp) (Q : VK) (tl : XK → Hp → VK → Prop),
    (∀ (W : WX) (pn : List (Addr × Obj)) (xe : Value → Shared → Prop) (p1 p2 : Pos), Takes ((cxOf CX0 X.prog X.w X.K X.mg X.base Ng x sg g cdg X.A X.stack s H E0).tr pn xe) W →
      PE ((cxOf CX0 X.prog X.w X.K X.mg X.base Ng x sg g cdg X.A X.stack s H E0).tr pn xe) (.Call (.Name a p1) [] [] p2)
        (fun σZ HZ Q => σZ[0]? = some (some (.ref f)) ∧ HZ c' = some (CodeO c' q) ∧ tl (fun cls d H' => W cls d σZ H') HZ Q)) →
    H c' = some (CodeO c' q) → TT tl H Q →
    ∃ t, PSs (cxOf CX0 X.prog X.w X.K X.mg X.base Ng x sg g cdg X.A X.stack s H E0).nox bg t ∧ t { nx := fun _ H' => Q .non H', rt := Q } (L2.start Ng [.ref f]) H
section
variable {X : Cx}
/-- x(lambda: body) -/
theorem pe_lam2 {T : List (Addr × Str)} {TT : (XK → Hp → VK → Prop) → Hp → VK → Prop} {x a : Str} {g c P : Addr} {k : Nat} {pg : Arguments} {bg : List Stmt} {sg : Scope} {dV kV doc pm cdv ct oc : Value} {an od : Option Addr}
    {osl : Array (Option Value)} {Ng : List Str} {params : Arguments} {body : Expr} {scope : Scope} {t : XK → TE} {p lpos pos : Pos} (hg : Gl X x) (hm : X.mg x = some (.ref g)) (hk : PySem.W.keepIn X.K (.ref g) = true)
    (lk : X.K.lookup g = some ⟨oc, od, .func (PySem.W.fnOf x x pg bg sg dV kV doc pm an cdv ct), osl⟩) (hcg : PySem.W.codeIn X.K cdv x = true) (hb : L2.Binds X.K (PySem.W.fnOf x x pg bg sg dV kV doc pm an cdv ct) [a] [])
    (Sg : FnScope Ng [a] sg) (hNg : Ng[0]? = some a) (hva : Vis sg a) (hG : Gives2 X Ng x sg g cdv bg a (X.env.qual ++ "<lambda>") TT) (TB : TabB X.base X.mg c P) (hcode : X.env.code = .ref c)
    (hmT : (P, X.env.qual ++ "<lambda>") ∈ T) (hu : ∀ p ∈ T, p.1 = P → p.2 = X.env.qual ++ "<lambda>") (hr : Room (k + 2) X.A) (L : LamS X.env.scope scope) (hdef : defaultsOf params X.env = ([], []))
    (hbind : ∀ (q : Str) (cl : List (Str × Addr)) (pm cv ctv : Value), bindArgs (PySem.W.kla_fn "<lambda>" q params body scope cl pm cv ctv) ⟨[], []⟩ = pure [])
    (hbody : ∀ (E : XK) (A : Around) (outer : List Env) (s : Shared) (H : Hp) (f c' : Addr), Room k (A.deeper (lamEnv X scope s.heap.objs.size f c')) → PE (lamCx X A outer s H E scope f c') body (t E))
    (hdb : (x == ("__debug__" : Str)) = false := by decide) (hd : (a == ("__debug__" : Str)) = false := by decide) (hcd : (a == ("__classdict__" : Str)) = false := by decide) :
    PE X (.Call (.Name x p) [.Lambda params body scope lpos] [] pos) (tLam T TT t) where
  run := by
    rintro pins s σ H Q I ⟨hT, h⟩
    refine wpAny_Call_Name_kw (ld_glob I hg hm ?_ hdb)
    refine PySem.W.callWith_K (h₀ := X.base) I.ok.mod.kin hk ?_ (by rfl) (by rfl)
    show wpAny _ _ (spliced ((false, eval (.Lambda params body scope lpos) X.env) :: backTo pos (starEach [] X.env))) _ _ s
    refine Calls.spliced_cons (lam_make2 I TB hcode hmT hu hT hdef (L.has I.ok) ?_)
    intro f c' pm' ctv H1 s' I1 eN T1 hf hfn hfr hco
    refine Calls.spliced_nil ⟨I1.kIn, ?_⟩
    have go : codeAny (model X.prog X.w) X.A (.call (.ref g) ⟨[.ref f], []⟩) (CR CX0 X.stack X.prog X.w H1 s' Q E0) s' := by
      refine run_ofS (N := Ng) (ps := [a]) (us := [.ref f]) (vs := [.ref f]) lk hcg Sg hr I1.env0 (hb s' [.ref f] I1.kIn rfl) (.cons rfl .nil) rfl fun hr' => ?_
      obtain ⟨t', ht', hq'⟩ := hG f c' s' H1 Q (fun E H' Q' => t E σ H' Q') (fun W pn xe p1 p2 tk =>
        pe_act2 (i := 0) I1 L hf hfn hfr (hbind _ _ _ _ _) tk hr' (fun E A outer s H hr2 => hbody E A outer s H f c' hr2) hNg hva hd hcd) hco (h H1 eN T1)
      exact ⟨t', ht'.nox, hq'⟩
    refine wpAny_call (codeAny_mono go ?_)
    intro res s2 hq
    match res, hq with
    | .error e, hq => exact (show False from hq).elim
    | .ok (.ret u), hq => exact I1.after hq
end
end BJ

/-! a def whose body has a token (str.replace asks it); the part of a heap that stands while numbers are drawn and lambdas made -/
namespace BJ
open PySem PySem.Spec PyProof.Rows L2 Evl LamX
open PySem.W (Frag)
section
variable {X : Cx} {e : Expr} {es : List Expr} {te : TE} {t : TA} {pos : Pos}
theorem PAT.of' (h : PA X es t) : PAT X es t := fun pos pins s σ H Q _ I q => h.run pos pins s σ H Q I q
theorem pat_cons2 (h1 : PET X e te) (hr : PAT X es t) (hs : starEach (e :: es) X.env = (false, eval e X.env) :: starEach es X.env := by rfl) : PAT X (e :: es) (tCons te t) := by
  intro pos pins s σ H Q h0 I h
  rw [hs]
  show wpAny _ _ (spliced ((false, eval e X.env) :: backTo pos (starEach es X.env))) _ _ s
  refine Calls.spliced_cons (wpAny_mono (PySem.wpAny_toks (h1 pins s σ H _ h0 I h)) (fun u s1 q => ?_) fun _ _ z => z.2)
  obtain ⟨hk, x, H1, I1, r1, q1⟩ := q
  exact thn (hr pos pins s1 σ H1 _ (Nat.le_trans h0 hk) I1 q1) fun us s2 ⟨xs, H2, I2, r2, q2⟩ => ⟨x :: xs, H2, I2, .cons r1 r2, q2⟩
theorem pet_lst2 (h : PAT X es t) : PET X (.List es pos) (tLst t) := by
  intro pins s σ H Q h0 I hq
  refine wpAny_List_spliced (thn (h pos pins s σ H _ h0 I hq) fun us s1 ⟨xs, H1, I1, r, z, q⟩ => ⟨by rw [← r.length]; exact z, ?_⟩)
  have hf : H1 s1.heap.objs.size = none := I1.hok.fresh (Nat.le_refl _)
  refine ⟨.ref s1.heap.objs.size, upd H1 s1.heap.objs.size (.lst xs), I1.laid (t' := s1.toks) (fun b u e => Heap.get?_push_of_some _ e) (Nat.le_refl _) ?_, rfl, q _ hf⟩
  exact ⟨z, us, 0, r, Heap.get?_push_size _ rfl⟩
theorem pst_set2 {i : Nat} {x : Str} {pos' : Pos} (hN : X.N.Nodup) (hi : X.N[i]? = some x) (hx : Loc X.env.scope x) (he : PET X e te) (hs : swapsWith e (some (.Name x pos')) pos.line X.env = pure false := by rfl) (hf : X.fn x = true ∨ X.env.scope.names.lookup x = some .local := by first | exact .inl rfl | exact .inr rfl | assumption) :
    PST X (.Assign [.Name x pos'] e pos) (tAsg te (gName i)) := by
  intro pins s σ H D h0 I h
  refine wpAny_Assign_Name (thn (he pins s σ H _ h0 I h) fun v s1 ⟨y, H1, I1, r1, q1⟩ => ?_) hs
  exact store_ok I1 hN hi hx r1 (fun s2 I2 => ⟨_, H1, I2, q1⟩) hf
end
section
variable {P : Program} {w : World} {K : Frag} {mg : Str → Option Value} {base : Heap}
/-- the rule for a def of at least one parameter, none of its names a cell: a token is out when the body begins -/
theorem DefAt.okT {x qual : Str} {st : Stmt} {f : Addr} {N ps : List Str} {k : Nat} {sp : Sp} (D : DefAt K x qual st f ps) (S : FnScope N ps (defScope st)) (hnc : ∀ y ∈ (defScope st).names, y.2 ≠ .cell) (hps : 1 ≤ ps.length)
    (len : ∀ vs H Q E, sp vs H Q E → vs.length = ps.length)
    (hbody : ∀ (cdv : Value) (A : Around) (outer : List Env) (s : Shared) (H : Hp) (vs : List V) (Q : VK) (E : XK),
      Room k (A.deeper (envOfC qual (defScope st) s.heap.objs.size f cdv)) → sp vs H Q E →
      ∃ t, PSsT (cxOf (L2.CX P w) P w K mg base N qual (defScope st) f cdv A outer s H E) (defBody st) t ∧ t { nx := fun _ H' => Q .non H', rt := Q } (start N vs) H) :
    ∃ fd, FnOk P w K mg base (L2.CX P w) (k + 1) f fd ps sp ∧ Binds K fd ps [] ∧ Fun K x qual st f fd := by
  obtain ⟨fd, F, hb⟩ := D.fn
  refine ⟨fd, ?_, hb, F⟩
  obtain ⟨oc, od, kV, doc, pm, an, cdv, ct, osl, rfl, lk, hcd⟩ := F.ex
  exact fn_ofT lk hcd S hnc hps len fun A outer s H vs Q E hr hsp => hbody cdv A outer s H vs Q E hr hsp
end
/-! ### what stands while numbers are drawn and lambdas made -/
def cutH (d : Addr) (H : Hp) : Hp := fun p => if p = d then none else match H p with
  | some (.tbl _) => none
  | o => o
/-- S: the draws' dict is not in it, nor a table -/
structure Stab (d : Addr) (S : Hp) : Prop where
  off : S d = none
  tbl : ∀ p ps, S p ≠ some (.tbl ps)
theorem cut_stab (d : Addr) (H : Hp) : Stab d (cutH d H) := ⟨if_pos rfl, fun p ps h => by
  unfold cutH at h
  split at h
  · cases h
  · split at h
    · cases h
    · rename_i hh
      exact hh _ h⟩
theorem cut_ex (d : Addr) (H : Hp) : Ex (cutH d H) H := fun p o h => by
  unfold cutH at h
  split at h
  · cases h
  · split at h
    · cases h
    · exact h
theorem cut_at {d p : Addr} {H : Hp} {o : HO} (h : H p = some o) (hp : p ≠ d) (ht : ∀ ps, o ≠ .tbl ps) : cutH d H p = some o := by
  unfold cutH
  rw [if_neg hp, h]
  cases o <;> first | rfl | exact absurd rfl (ht _)
theorem Stab.to_cut {d : Addr} {S H : Hp} (st : Stab d S) (e : Ex S H) : Ex S (cutH d H) := fun p o h => cut_at (e p o h) (fun q => by rw [q, st.off] at h; cases h) (fun ps q => st.tbl p ps (q ▸ h))
theorem Stab.but {d : Addr} {S H H' : Hp} (st : Stab d S) (e : Ex S H) (b : SameBut d H H') : Ex S H' := fun p o h => b p o (fun q => by rw [q, st.off] at h; cases h) (e p o h)
theorem Stab.extN {d : Addr} {S H H' : Hp} (st : Stab d S) (e : Ex S H) (b : ExtN H H') : Ex S H' := fun p o h => b p o (e p o h) (fun ps q => st.tbl p ps (q ▸ h))
theorem Dr.extN {H H' : Hp} {d c : Addr} {cells : List Int} {n : Nat} (D : Dr H d c cells n) (s : ExtN H H') : Dr H' d c cells n := by
  obtain ⟨⟨a, l, u, h1, h2⟩, hl, hn, hz⟩ := D
  exact ⟨⟨a, l, u, s _ _ h1 (fun ps z => nomatch z), h2⟩, s _ _ hl (fun ps z => nomatch z), hn, hz⟩
theorem Tabs.but {T : List (Addr × Str)} {d : Addr} {H H' : Hp} {kvs : List (Key × V)} (t : Tabs T H) (hd : H d = some (.dK kvs)) (b : SameBut d H H') : Tabs T H' := fun p hp => by
  obtain ⟨ps, h1, h2, h3⟩ := t p hp
  refine ⟨ps, b _ _ (ne_of h1 hd (fun z => nomatch z)) h1, h2, fun pos cv hc => ?_⟩
  obtain ⟨c, e1, e2⟩ := h3 pos cv hc
  exact ⟨c, e1, b _ _ (ne_of e2 hd (fun z => nomatch z)) e2⟩
theorem Dr.atd {H : Hp} {d c : Addr} {cells : List Int} {n : Nat} (D : Dr H d c cells n) : ∃ kvs, H d = some (.dK kvs) := by
  obtain ⟨a, l, u, h, _⟩ := D.dict
  exact ⟨_, h⟩
end BJ

/-! calls by promises for every Around: keywords, stars, a class, a method, a property, a classmethod; the receiver's class is told by the reading -/
namespace BJ
open PySem PySem.Spec PyProof.Rows L2 Evl StX ClX
open PySem.W (Frag)
abbrev SpK := List V → List V → Hp → VK → XK → Prop
/-- a promise for every Around, with the keywords ks -/
def CallX (P : Program) (w : World) (K : Frag) (mg : Str → Option Value) (base : Heap) (k : Nat) (u : Value) (ks : List Str) (sp : SpK) : Prop :=
  ∀ (A : Around) (outer : List Env) (s : Shared) (H : Hp) (us ws : List Value) (vs zs : List V) (Q : VK) (E : XK),
    Room k A → Env0 P w K mg base A outer s H → Vals vs us → Vals zs ws → sp vs zs H Q E → codeAny (model P w) A (.call u ⟨us, ks.zip ws⟩) (CR (L2.CX P w) outer P w H s Q E) s
section
variable {P : Program} {w : World} {K : Frag} {mg : Str → Option Value} {base : Heap}
theorem CallX.mono {j k : Nat} {u : Value} {ks : List Str} {sp : SpK} (F : CallX P w K mg base j u ks sp) (h : j ≤ k) : CallX P w K mg base k u ks sp := fun A o s H us ws vs zs Q E hr => F A o s H us ws vs zs Q E (hr.mono h)
theorem CallX.imp {k : Nat} {u : Value} {ks : List Str} {sp sp' : SpK} (F : CallX P w K mg base k u ks sp) (h : ∀ vs zs H Q E, sp' vs zs H Q E → sp vs zs H Q E) : CallX P w K mg base k u ks sp' := fun A o s H us ws vs zs Q E hr e r rz q => F A o s H us ws vs zs Q E hr e r rz (h _ _ _ _ _ q)
theorem CallO.imp {k : Nat} {u : Value} {sp sp' : Sp} (F : BJ.CallO P w K mg base k u sp) (h : ∀ vs H Q E, sp' vs H Q E → sp vs H Q E) : BJ.CallO P w K mg base k u sp' := fun A o s H us vs Q E hr e r q => F A o s H us vs Q E hr e r (h _ _ _ _ q)
theorem CallO.x {k : Nat} {u : Value} {sp : Sp} (F : BJ.CallO P w K mg base k u sp) : CallX P w K mg base k u [] fun vs zs H Q E => zs = [] ∧ sp vs H Q E := by
  rintro A o s H us ws vs zs Q E hr e r rz ⟨rfl, q⟩
  cases rz
  exact F A o s H us vs Q E hr e r q
theorem CallX.o {k : Nat} {u : Value} {sp : SpK} (F : CallX P w K mg base k u [] sp) : BJ.CallO P w K mg base k u fun vs H Q E => sp vs [] H Q E := fun A o s H us vs Q E hr e r q => F A o s H us [] vs [] Q E hr e r .nil q
theorem CallX.g {k : Nat} {u : Value} {ks : List Str} {sp : SpK} (F : CallX P w K mg base k u ks sp) : CallG P w K mg base k u ks sp := fun A o s H us ws vs zs Q E hr _ e r rz q => F A o s H us ws vs zs Q E hr e r rz q
/-- from a def's promise by a way its parameters are bound -/
theorem callX_of {k : Nat} {f : Addr} {fd : FuncData} {ps ks : List Str} {sp : Sp} {n : Nat} {g : List Value → List Value → List Value} {gV : List V → List V → List V} (F : FnOk P w K mg base (L2.CX P w) k f fd ps sp)
    (hb : KBn K fd ps n ks g gV) : CallX P w K mg base k (.ref f) ks fun vs zs H Q E => vs.length = n ∧ zs.length = ks.length ∧ sp (gV vs zs) H Q E := by
  rintro A outer s H us ws vs zs Q E hr e0 r rz ⟨hn, hm, q⟩
  have KX : K.In s.heap := e0.mod.kin.keeps fun b o e => (e0.bs b o e).1
  have r2 := hb.rel r rz
  have hl : (g us ws).length = ps.length := r2.length.symm.trans (F.len _ _ _ _ q)
  exact F.run A outer s H ⟨us, ks.zip ws⟩ (g us ws) (gV vs zs) Q E hr e0 (hb.to s us ws KX (r.length.symm.trans hn) (rz.length.symm.trans hm)) r2 q
/-- a class by its __init__ -/
def spMk (C : Addr) (sp : SpK) : SpK := fun vs zs H Q E => ∀ x dx, H x = none → H dx = none → dx ≠ x → sysModules < x → sp (.ref x :: vs) zs (upd (upd H dx (.own x)) x (.ins C dx [])) (fun v H2 => v = .non ∧ Q (.ref x) H2) E
theorem CallX.make {k : Nat} {C f : Addr} {ks : List Str} {sp : SpK} (M : Mk K C f) (F : CallX P w K mg base k (.ref f) ks sp) : CallX P w K mg base (k + 1) (.ref C) ks (spMk C sp) := by
  intro A outer s H us ws vs zs Q E hr e0 r rz h
  have KX : K.In s.heap := e0.mod.kin.keeps fun b o e => (e0.bs b o e).1
  have n1 : H s.heap.objs.size = none := e0.hok.fresh (Nat.le_refl _)
  have n2 : H (s.heap.objs.size + 1) = none := e0.hok.fresh (Nat.le_succ _)
  have big := env0_big e0
  have hq := h (s.heap.objs.size + 1) s.heap.objs.size n2 n1 (Nat.ne_of_lt (Nat.lt_succ_self _)) (Nat.lt_succ_of_lt big)
  have e1' : (s.heap.push PySem.W.emptyDict).get? s.heap.objs.size = some PySem.W.emptyDict := Heap.get?_push_size s.heap rfl
  have z1 : (s.heap.push PySem.W.emptyDict).objs.size = s.heap.objs.size + 1 := Heap.size_push _ _
  have e2' : ((s.heap.push PySem.W.emptyDict).push (PySem.W.instObj C s.heap.objs.size)).get? (s.heap.objs.size + 1) = some (PySem.W.instObj C s.heap.objs.size) := by
    have := Heap.get?_push_size (s.heap.push PySem.W.emptyDict) (o := PySem.W.instObj C s.heap.objs.size) rfl
    rwa [Heap.size_push] at this
  have e3 : (s.heap.push PySem.W.emptyDict).Ns s.heap.objs.size (fun _ => none) := ⟨PySem.W.emptyDict, #[], _, e1', rfl, (fun e he => absurd he (by simp)), fun _ => rfl⟩
  have E1 := env0_laid (o := PySem.W.emptyDict) (u := .own (s.heap.objs.size + 1)) e0 ⟨_, e1'⟩
  have ne : s.heap.objs.size ≠ s.heap.objs.size + 1 := Nat.ne_of_lt (Nat.lt_succ_self _)
  have E2 : Env0 P w K mg base A outer { s with heap := (s.heap.push PySem.W.emptyDict).push (PySem.W.instObj C s.heap.objs.size) } (upd (upd H s.heap.objs.size (.own (s.heap.objs.size + 1))) (s.heap.objs.size + 1) (.ins C s.heap.objs.size [])) := by
    have new : ObjOk P w (upd (upd H s.heap.objs.size (.own (s.heap.objs.size + 1))) (s.heap.push PySem.W.emptyDict).objs.size (.ins C s.heap.objs.size [])) ((s.heap.push PySem.W.emptyDict).push (PySem.W.instObj C s.heap.objs.size)) (s.heap.push PySem.W.emptyDict).objs.size (.ins C s.heap.objs.size []) := by
      rw [z1]
      exact ⟨by rw [upd_ne ne, upd_same], Nat.zero_le _, ne, e2', fun _ => none, (Heap.Ns1.of_empty e3).at fun o q => Heap.get?_push_of_some _ q, fun _ => True.intro, fun y hy => absurd rfl hy⟩
    have := env0_laid (s := { s with heap := s.heap.push PySem.W.emptyDict }) (o := PySem.W.instObj C s.heap.objs.size) (u := .ins C s.heap.objs.size []) E1 new
    have e : ({ s with heap := s.heap.push PySem.W.emptyDict } : Shared).heap.objs.size = s.heap.objs.size + 1 := z1
    rw [e] at this
    exact this
  have un : Un (frs outer) [] H (upd (upd H s.heap.objs.size (.own (s.heap.objs.size + 1))) (s.heap.objs.size + 1) (.ins C s.heap.objs.size [])) s.heap ((s.heap.push PySem.W.emptyDict).push (PySem.W.instObj C s.heap.objs.size)) := by
    have u1 := un_laid (fs := frs outer) (s := s) (o := PySem.W.emptyDict) (u := .own (s.heap.objs.size + 1)) n1
    have u2 := un_laid (fs := frs outer) (s := { s with heap := s.heap.push PySem.W.emptyDict }) (H := upd H s.heap.objs.size (.own (s.heap.objs.size + 1))) (o := PySem.W.instObj C s.heap.objs.size) (u := .ins C s.heap.objs.size []) (by
      show upd H s.heap.objs.size (.own (s.heap.objs.size + 1)) (s.heap.push PySem.W.emptyDict).objs.size = none
      rw [z1, upd_ne ne.symm]
      exact n2)
    have e : ({ s with heap := s.heap.push PySem.W.emptyDict } : Shared).heap.objs.size = s.heap.objs.size + 1 := z1
    rw [e] at u2
    exact u1.trans u2
  refine make_map (f := f) KX M.makes M.init (beq_iff_eq.mp M.fn) (codeAny_mono (F _ outer _ _ (Value.ref (s.heap.objs.size + 1) :: us) ws (V.ref (s.heap.objs.size + 1) :: vs) zs _ E (hr.make C us (ks.zip ws)) (E2.make C us (ks.zip ws)) (.cons rfl r) rz hq) fun res s' hq' => ?_)
  cases res with
  | error e => exact cxUp (P := P) (w := w) outer s H { s with heap := (s.heap.push PySem.W.emptyDict).push (PySem.W.instObj C s.heap.objs.size) } _ E e s' un (fun b o q => Heap.get?_push_of_some _ (Heap.get?_push_of_some _ q)) rfl hq'
  | ok fl =>
    cases fl with
    | ret u =>
      obtain ⟨v, H', os, bare, u3, hok, rv, ev, q3⟩ := hq'
      subst ev
      exact ⟨rv, V.ref (s.heap.objs.size + 1), H', os, bare, un.trans u3, hok, rfl, q3⟩
    | next => exact False.elim hq'
    | brk => exact False.elim hq'
    | cont => exact False.elim hq'
end

section
variable {X : Cx} {k : Nat} {u : Value} {ks : List Str} {sp : Sp} {spk : SpK} {W : WX} {x m f : Str} {p p2 pos apos : Pos} {e o : Expr} {es : List Expr} {kws : List Keyword} {ta te : TE} {t tk : TA} {pl : Sem Bool}
theorem run_callX {pins : List (Addr × Obj)} {σ : L2.St} {H : Hp} {s : Shared} {Q : VK} {us ws : List Value} {vs zs : List V}
    (F : CallX X.prog X.w X.K X.mg X.base k u ks spk) (hr : Room k X.A) (tkW : Takes X W) (I : Inv X pins σ H s) (r : Vals vs us) (rz : Vals zs ws) (h : spk vs zs H Q fun cls d H' => W cls d σ H') :
    wpAny (model X.prog X.w) X.A (call u us (ks.zip ws)) (EP X pins σ Q) X.xe s := by
  refine wpAny_call (codeAny_mono (F X.A X.stack s H us ws vs zs Q _ hr I.env0 r rz h) ?_)
  intro res s' hq
  match res, hq with
  | .error e, hq => exact tkW e s' (XE.of_call I (fun _ _ _ z => z) hq)
  | .ok (.ret u), hq => exact I.after hq
/-- f(e, .., k = v, ..) | f(k = v, ..) | f() -/
theorem pe_cx (F : CallX X.prog X.w X.K X.mg X.base k u ks spk) (hr : Room k X.A) (hg : Gl X x) (hm : X.mg x = some u)
    (hk : PySem.W.keepIn X.K u = true) (tkW : Takes X W) (ha : PA X (e :: es) t) (hkw : PK X kws tk)
    (hall : (backToKw pos (keywordEach kws X.env)).all (·.1.isSome) = true := by rfl) (hks : (backToKw pos (keywordEach kws X.env)).filterMap (·.1) = ks := by rfl)
    (hdb : (x == ("__debug__" : Str)) = false := by decide) (he : starEach (e :: es) X.env = (false, eval e X.env) :: starEach es X.env := by rfl)
    (hpl : ((backTo pos (starEach (e :: es) X.env)).any (·.1) || (backToKw pos (keywordEach kws X.env)).any (·.1.isNone)) = false := by rfl) :
    PE X (.Call (.Name x p) (e :: es) kws pos) (tCaK spk W t tk) where
  run := by
    intro pins s σ H Q I h
    refine wpAny_Call_Name_kw (ld_glob I hg hm ?_ hdb)
    refine PySem.W.callWith_KW (h₀ := X.base) I.ok.mod.kin hk hall (thn (ha.run pos pins s σ H _ I h) ?_) hpl he
    rintro us s1 ⟨vs, H1, I1, r, q⟩
    refine thn (hkw.run pos pins s1 σ H1 _ I1 q) ?_
    rintro ws s2 ⟨zs, H2, I2, rz, q2⟩
    rw [hks]
    exact ⟨I2.kIn, run_callX F hr tkW I2 r rz q2⟩
theorem pe_cx0 (F : CallX X.prog X.w X.K X.mg X.base k u ks spk) (hr : Room k X.A) (hg : Gl X x) (hm : X.mg x = some u)
    (hk : PySem.W.keepIn X.K u = true) (tkW : Takes X W) (hkw : PK X kws tk)
    (hall : (backToKw pos (keywordEach kws X.env)).all (·.1.isSome) = true := by rfl) (hks : (backToKw pos (keywordEach kws X.env)).filterMap (·.1) = ks := by rfl)
    (hdb : (x == ("__debug__" : Str)) = false := by decide)
    (hpl : ((backTo pos (starEach [] X.env)).any (·.1) || (backToKw pos (keywordEach kws X.env)).any (·.1.isNone)) = false := by rfl) :
    PE X (.Call (.Name x p) [] kws pos) (tCaK spk W tNil tk) where
  run := by
    intro pins s σ H Q I h
    refine wpAny_Call_Name_kw (ld_glob I hg hm ?_ hdb)
    refine PySem.W.callWith_KW0 (h₀ := X.base) I.ok.mod.kin hk hall (thn (hkw.run pos pins s σ H _ I h) ?_) hpl
    rintro ws s2 ⟨zs, H2, I2, rz, q2⟩
    rw [hks]
    exact ⟨I2.kIn, run_callX (us := []) (vs := []) F hr tkW I2 .nil rz q2⟩
theorem pe_co0 (F : BJ.CallO X.prog X.w X.K X.mg X.base k u sp) (hr : Room k X.A) (hg : Gl X x) (hm : X.mg x = some u)
    (hk : PySem.W.keepIn X.K u = true) (tkW : Takes X W) (hdb : (x == ("__debug__" : Str)) = false := by decide) : PE X (.Call (.Name x p) [] [] pos) (tCa sp W tNil) where
  run := by
    intro pins s σ H Q I h
    refine wpAny_Call_Name_kw (ld_glob I hg hm ?_ hdb)
    exact PySem.W.callWith_K0 I.kIn hk (BJ.run_callO (us := []) (vs := []) F hr tkW I .nil h)
/-- v(*e), v() where v is a name of the def that holds a def or a class of the text -/
def tVs (X : Cx) (W : WX) (i : Nat) (te : TE) : TE := fun σ H Q => ∃ (u : Addr) (k : Nat) (sp : Sp), σ[i]? = some (some (.ref u)) ∧ PySem.W.keepIn X.K (.ref u) = true ∧ BJ.CallO X.prog X.w X.K X.mg X.base k (.ref u) sp ∧ Room k X.A ∧
  te σ H fun y H1 => ∃ a xs, y = V.ref a ∧ (SqT X.K H1 a xs ∨ SqL X.K H1 a xs) ∧ sp xs H1 Q fun cls d H' => W cls d σ H'
theorem pe_vs {i : Nat} {sp_ : Pos} (hN : X.N[i]? = some x) (hv : Vis X.env.scope x) (tkW : Takes X W) (he : PE X e te) (hd : (x == ("__debug__" : Str)) = false := by decide) (hcd : (x == ("__classdict__" : Str)) = false := by decide)
    (hst : starEach [.Starred e sp_] X.env = [(true, eval e X.env)] := by rfl) :
    PE X (.Call (.Name x p) [.Starred e sp_] [] pos) (tVs X W i te) where
  run := by
    rintro pins s σ H Q I ⟨u, k, sp, hi, hk, F, hr, h⟩
    refine wpAny_Call_Name_kw (thn ((pe_var (pos := p) (i := i) hN hv hd hcd).run pins s σ H (fun v H1 => v = .ref u ∧ H1 = H) I ⟨.ref u, hi, rfl, rfl⟩) ?_)
    rintro uu s1 ⟨v, H1, I1, r1, rfl, eH⟩
    subst eH
    cases (show uu = Value.ref u from r1)
    refine PySem.W.callWith_S (h₀ := X.base) I1.ok.mod.kin hk (thn (he.run pins s1 σ H1 _ I1 h) fun v s2 ⟨y, H2, I2, ry, a, xs, ey, hxs, q⟩ => ?_) hst
    subst ey
    obtain rfl : v = Value.ref a := ry
    exact star_any I2 hxs fun us s3 I3 rv => ⟨I3.kIn, BJ.run_callO F hr tkW I3 rv q⟩
def tV0 (X : Cx) (W : WX) (i : Nat) : TE := fun σ H Q => ∃ (u : Addr) (k : Nat) (sp : Sp), σ[i]? = some (some (.ref u)) ∧ PySem.W.keepIn X.K (.ref u) = true ∧ BJ.CallO X.prog X.w X.K X.mg X.base k (.ref u) sp ∧ Room k X.A ∧ sp [] H Q fun cls d H' => W cls d σ H'
theorem pe_v0 {i : Nat} (hN : X.N[i]? = some x) (hv : Vis X.env.scope x) (tkW : Takes X W) (hd : (x == ("__debug__" : Str)) = false := by decide) (hcd : (x == ("__classdict__" : Str)) = false := by decide) :
    PE X (.Call (.Name x p) [] [] pos) (tV0 X W i) where
  run := by
    rintro pins s σ H Q I ⟨u, k, sp, hi, hk, F, hr, h⟩
    refine wpAny_Call_Name_kw (thn ((pe_var (pos := p) (i := i) hN hv hd hcd).run pins s σ H (fun v H1 => v = .ref u ∧ H1 = H) I ⟨.ref u, hi, rfl, rfl⟩) ?_)
    rintro uu s1 ⟨v, H1, I1, r1, rfl, eH⟩
    subst eH
    cases (show uu = Value.ref u from r1)
    exact PySem.W.callWith_K0 I1.kIn hk (BJ.run_callO (us := []) (vs := []) F hr tkW I1 .nil h)
/-- o.m(..): the receiver's class and the method's promise are told by the reading -/
def tMe (X : Cx) (m : Str) (W : WX) (ta : TE) (t tk : TA) (ks : List Str) : TE := fun σ H Q => ta σ H fun x H1 => ∃ (a C dx g : Addr) (fs : List (Str × V)) (k : Nat) (spk : SpK), x = .ref a ∧ H1 a = some (.ins C dx fs) ∧ fs.lookup m = none ∧ Cls X.K C ∧ Meth X.K C m g ∧
  CallX X.prog X.w X.K X.mg X.base k (.ref g) ks spk ∧ Room k X.A ∧ t σ H1 fun vs H2 => tk σ H2 fun zs H3 => spk (x :: vs) zs H3 Q fun cls d H' => W cls d σ H'
theorem pe_me (he : PE X o ta) (tkW : Takes X W) (ha : PA X (e :: es) t) (hkw : PK X kws tk)
    (hall : (backToKw pos (keywordEach kws X.env)).all (·.1.isSome) = true := by rfl) (hks : (backToKw pos (keywordEach kws X.env)).filterMap (·.1) = ks := by rfl)
    (hst : starEach (e :: es) X.env = (false, eval e X.env) :: starEach es X.env := by rfl)
    (hpl : ((backTo pos (starEach (e :: es) X.env)).any (·.1) || (backToKw pos (keywordEach kws X.env)).any (·.1.isNone)) = false := by rfl)
    (ht : eval (.Call (.Attribute o m apos) (e :: es) kws pos) X.env = (do
      let ov ← eval o X.env
      standAt apos.atName
      let (f, first) ← holding [ov] (getMethod ov m pl)
      callWith pos f first (backTo pos (starEach (e :: es) X.env)) (backToKw pos (keywordEach kws X.env))) := by rfl) :
    PE X (.Call (.Attribute o m apos) (e :: es) kws pos) (tMe X m W ta t tk ks) := by
  refine ⟨fun pins s σ H Q I h => ?_⟩
  refine PySem.W.methodCall_KW (pl := pl) (thn (he.run pins s σ H _ I h) fun u s1 ⟨x, H1, I1, rx, a, C, dx, g, fs, k, spk, ex, ea, l, c, hm, F, hr, q⟩ => ?_) ht
  subst ex
  obtain rfl : u = Value.ref a := rx
  refine getmeth_ok I1 ea c hm l ?_
  refine PySem.W.callWith_KW (first := [.ref a]) (h₀ := X.base) I.ok.mod.kin hm.kp hall (thn (ha.run pos pins s1 σ H1 _ I1 q) fun us s2 ⟨vs, H2, I2, r, q2⟩ => ?_) hpl hst
  refine thn (hkw.run pos pins s2 σ H2 _ I2 q2) ?_
  rintro ws s3 ⟨zs, H3, I3, rz, q3⟩
  rw [hks]
  exact ⟨I3.kIn, run_callX (us := .ref a :: us) (vs := .ref a :: vs) F hr tkW I3 (.cons rfl r) rz q3⟩
theorem pe_me0 (he : PE X o ta) (tkW : Takes X W) (hkw : PK X kws tk)
    (hall : (backToKw pos (keywordEach kws X.env)).all (·.1.isSome) = true := by rfl) (hks : (backToKw pos (keywordEach kws X.env)).filterMap (·.1) = ks := by rfl)
    (hpl : ((backTo pos (starEach [] X.env)).any (·.1) || (backToKw pos (keywordEach kws X.env)).any (·.1.isNone)) = false := by rfl)
    (ht : eval (.Call (.Attribute o m apos) [] kws pos) X.env = (do
      let ov ← eval o X.env
      standAt apos.atName
      let (f, first) ← holding [ov] (getMethod ov m pl)
      callWith pos f first (backTo pos (starEach [] X.env)) (backToKw pos (keywordEach kws X.env))) := by rfl) :
    PE X (.Call (.Attribute o m apos) [] kws pos) (tMe X m W ta tNil tk ks) := by
  refine ⟨fun pins s σ H Q I h => ?_⟩
  refine PySem.W.methodCall_KW (pl := pl) (thn (he.run pins s σ H _ I h) fun u s1 ⟨x, H1, I1, rx, a, C, dx, g, fs, k, spk, ex, ea, l, c, hm, F, hr, q⟩ => ?_) ht
  subst ex
  obtain rfl : u = Value.ref a := rx
  refine getmeth_ok I1 ea c hm l ?_
  refine PySem.W.callWith_KW0 (first := [.ref a]) (h₀ := X.base) I.ok.mod.kin hm.kp hall (thn (hkw.run pos pins s1 σ H1 _ I1 q) ?_) hpl
  rintro ws s3 ⟨zs, H3, I3, rz, q3⟩
  rw [hks]
  exact ⟨I3.kIn, run_callX (us := [.ref a]) (vs := [.ref a]) F hr tkW I3 (.cons rfl .nil) rz q3⟩
/-- o.f, a property: its def raises nothing -/
def tPr (X : Cx) (f : Str) (ta : TE) : TE := fun σ H Q => ta σ H fun x H1 => ∃ (a C dx p g : Addr) (fs : List (Str × V)) (k : Nat) (sp : Sp), x = .ref a ∧ H1 a = some (.ins C dx fs) ∧ Cls X.K C ∧ PropOf X.K C f p g ∧
  BJ.CallO X.prog X.w X.K X.mg X.base k (.ref g) sp ∧ Room (k + 1) X.A ∧ sp [x] H1 Q fun _ _ _ => False
theorem pe_pr (he : PE X o ta) (hab : attributeBase o f X.env (eval o X.env) = eval o X.env := by rfl) : PE X (.Attribute o f pos) (tPr X f ta) := by
  refine ⟨fun pins s σ H Q I h => ?_⟩
  refine attr_of hab (thn (he.run pins s σ H _ I h) fun u s1 ⟨x, H1, I1, rx, a, C, dx, p, g, fs, k, sp, ex, ea, c, hp, F, hr, q⟩ => ?_)
  subst ex
  obtain rfl : u = Value.ref a := rx
  obtain ⟨mA, O, _, _, _, _⟩ := ins_get I1.hok ea
  obtain ⟨od, J, _⟩ := O.look
  obtain ⟨rest, hrec⟩ := hp.rec_
  have I2 := I1.tok (s1.toks + 1)
  have hc : (PySem.W.clsIn X.K C).isSome = true := by
    obtain ⟨cd, hc, _⟩ := PySem.W.any_some c.hd
    rw [hc]
    rfl
  refine PySem.W.get_bind I1.kIn J (PySem.W.plainGet_of (c.get f)).1 (PySem.W.findObj_data hc hp.at_ hp.get hp.tak) (PySem.W.plainGet_of (c.get f)).2 (wpAny_call (PySem.W.prop_get (s := { s1 with toks := s1.toks + 1 }) I1.kIn hrec ?_))
  refine codeAny_mono (F X.A.in1 X.stack { s1 with toks := s1.toks + 1 } H1 [.ref a] [.ref a] Q _ hr.in1 I2.env0.in1 (.cons rfl .nil) q) fun r s' hq => ?_
  cases r with
  | error er =>
    obtain ⟨_, _, _, _, _, _, _, _, _, _, _, _, z⟩ := hq
    exact z.elim
  | ok fl =>
    cases fl with
    | ret u =>
      obtain ⟨v, H', I3, rv, q3⟩ := I2.after hq
      show wpAny _ _ (handedOut u) _ _ _
      rw [PySem.W.handedOut_of (handed_of rv)]
      exact wpAny_pure ⟨v, H', I3, rv, q3⟩
    | next => exact False.elim hq
    | brk => exact False.elim hq
    | cont => exact False.elim hq
/-- C.m(..), a classmethod of the class at C -/
def tCm (sp : SpK) (C : Addr) (W : WX) (ta : TE) (t tk : TA) : TE := fun σ H Q => ta σ H fun x H1 => x = .ref C ∧ t σ H1 fun vs H2 => tk σ H2 fun zs H3 => sp (.ref C :: vs) zs H3 Q fun cls d H' => W cls d σ H'
theorem run_cmX {C g : Addr} {pins : List (Addr × Obj)} {σ : L2.St} {H : Hp} {s : Shared} {q : Addr} {Q : VK} {us ws : List Value} {vs zs : List V} (F : CallX X.prog X.w X.K X.mg X.base k (.ref g) ks spk) (hr : Room k X.A) (tkW : Takes X W) (I : Inv X ((q, PySem.W.methodObj (.ref g) (.ref C)) :: pins) σ H s)
    (r : Vals vs us) (rz : Vals zs ws) (h : spk (.ref C :: vs) zs H Q fun cls d H' => W cls d σ H') : wpAny (model X.prog X.w) X.A (call (.ref q) us (ks.zip ws)) (EP X pins σ Q) X.xe s := by
  have z : wpAny (model X.prog X.w) X.A (call (.ref q) us (ks.zip ws)) (EP X ((q, PySem.W.methodObj (.ref g) (.ref C)) :: pins) σ Q) X.xe s := by
    refine wpAny_call (PySem.W.method_call (pin_at I) (codeAny_mono (F X.A X.stack s H (.ref C :: us) ws (.ref C :: vs) zs Q _ hr I.env0 (.cons rfl r) rz h) ?_))
    intro res s' hq
    match res, hq with
    | .error e, hq => exact tkW e s' (XE.of_call I (fun _ _ _ z => z) hq)
    | .ok (.ret u), hq => exact I.after hq
  exact thn z fun _ _ y => unpinE y
theorem pe_cm {C p g : Addr} {mc : Value} (he : PE X o ta) (r : CRead X.K C mc) (c : CMet X.K C mc m p g) (F : CallX X.prog X.w X.K X.mg X.base k (.ref g) ks spk) (hr : Room k X.A) (tkW : Takes X W) (ha : PA X (e :: es) t) (hkw : PK X kws tk)
    (hall : (backToKw pos (keywordEach kws X.env)).all (·.1.isSome) = true := by rfl) (hks : (backToKw pos (keywordEach kws X.env)).filterMap (·.1) = ks := by rfl)
    (hst : starEach (e :: es) X.env = (false, eval e X.env) :: starEach es X.env := by rfl)
    (hpl : ((backTo pos (starEach (e :: es) X.env)).any (·.1) || (backToKw pos (keywordEach kws X.env)).any (·.1.isNone)) = false := by rfl)
    (ht : eval (.Call (.Attribute o m apos) (e :: es) kws pos) X.env = (do
      let ov ← eval o X.env
      standAt apos.atName
      let (f, first) ← holding [ov] (getMethod ov m pl)
      callWith pos f first (backTo pos (starEach (e :: es) X.env)) (backToKw pos (keywordEach kws X.env))) := by rfl) :
    PE X (.Call (.Attribute o m apos) (e :: es) kws pos) (tCm spk C W ta t tk) := by
  refine ⟨fun pins s σ H Q I h => ?_⟩
  refine PySem.W.methodCall_KW (pl := pl) (thn (he.run pins s σ H _ I h) fun u s1 ⟨x, H1, I1, rx, ex, q⟩ => ?_) ht
  subst ex
  obtain rfl : u = Value.ref C := rx
  refine getmethcm_ok I1 r c fun s2 I2 => ?_
  refine PySem.W.callWith_of hpl (PySem.W.keeps_M (self := .ref C) c.fi) (evalArgs_kw2 hall (thn (ha.run pos _ s2 σ H1 _ I2 q) fun us s3 ⟨vs, H2, I3, rv, q2⟩ => ?_) hst)
  refine thn (hkw.run pos _ s3 σ H2 _ I3 q2) ?_
  rintro ws s4 ⟨zs, H3, I4, rz, q3⟩
  rw [hks]
  exact ⟨⟨pin_at I4, I4.kIn⟩, run_cmX F hr tkW I4 rv rz q3⟩
theorem pe_cm0 {C p g : Addr} {mc : Value} (he : PE X o ta) (r : CRead X.K C mc) (c : CMet X.K C mc m p g) (F : CallX X.prog X.w X.K X.mg X.base k (.ref g) ks spk) (hr : Room k X.A) (tkW : Takes X W) (hkw : PK X kws tk)
    (hall : (backToKw pos (keywordEach kws X.env)).all (·.1.isSome) = true := by rfl) (hks : (backToKw pos (keywordEach kws X.env)).filterMap (·.1) = ks := by rfl)
    (hpl : ((backTo pos (starEach [] X.env)).any (·.1) || (backToKw pos (keywordEach kws X.env)).any (·.1.isNone)) = false := by rfl)
    (ht : eval (.Call (.Attribute o m apos) [] kws pos) X.env = (do
      let ov ← eval o X.env
      standAt apos.atName
      let (f, first) ← holding [ov] (getMethod ov m pl)
      callWith pos f first (backTo pos (starEach [] X.env)) (backToKw pos (keywordEach kws X.env))) := by rfl) :
    PE X (.Call (.Attribute o m apos) [] kws pos) (tCm spk C W ta tNil tk) := by
  refine ⟨fun pins s σ H Q I h => ?_⟩
  refine PySem.W.methodCall_KW (pl := pl) (thn (he.run pins s σ H _ I h) fun u s1 ⟨x, H1, I1, rx, ex, q⟩ => ?_) ht
  subst ex
  obtain rfl : u = Value.ref C := rx
  refine getmethcm_ok I1 r c fun s2 I2 => ?_
  refine PySem.W.callWith_of hpl (PySem.W.keeps_M (self := .ref C) c.fi) (evalArgs_kw2_nil hall (thn (hkw.run pos _ s2 σ H1 _ I2 q) ?_))
  rintro ws s4 ⟨zs, H3, I4, rz, q3⟩
  rw [hks]
  exact ⟨⟨pin_at I4, I4.kIn⟩, run_cmX (us := []) (vs := []) F hr tkW I4 .nil rz q3⟩
end
end BJ

/-! generators whose body is one «yield from»; what consumes them may change objects of its own between two items -/
namespace BJ
open PySem PySem.Spec PyProof.Rows L2 Evl GenW
open PySem.W (Frag)
/-- while a generator sleeps only the objects at ws change -/
structure Doze (ws : List Addr) (s t : Shared) : Prop where
  os : t.os = s.os
  bare : AllBare t.gens
  keep : ∀ b o, b ∉ ws → s.heap.get? b = some o → t.heap.get? b = some o
  there : ∀ b ∈ ws, ∃ o, t.heap.get? b = some o ∧ ∀ v, o.data ≠ .cell v
/-- what stands around a generator that was made at sc, its object go at a: the heap was H, is H' -/
structure Cn (P : Program) (w : World) (outer : List Env) (H H' : Hp) (sc : Shared) (ws : List Addr) (a : Addr) (go : Obj) (s : Shared) : Prop where
  os : s.os = sc.os
  bare : AllBare s.gens
  un : Un (frs outer) [] H H' sc.heap s.heap
  hok : HOk P w H' s.heap
  lim : s.heap.NoLimit
  gen : s.heap.get? a = some go
  off : ∀ b ∈ ws, H' b = none
section
variable {P : Program} {w : World} {outer : List Env} {H H' : Hp} {sc s t : Shared} {ws : List Addr} {a : Addr} {go : Obj}
/-- the objects at ch change, none of them known to anybody -/
theorem Cn.step (c : Cn P w outer H H' sc ws a go s) {ch : List Addr} (ho : t.os = s.os) (hb : AllBare t.gens) (k : ∀ b o, b ∉ ch → s.heap.get? b = some o → t.heap.get? b = some o)
    (hf : ∀ b ∈ ch, sc.heap.objs.size ≤ b ∧ H' b = none ∧ b ≠ cStatics ∧ b ≠ a) : Cn P w outer H H' sc ws a go t := by
  have old : ∀ b o, sc.heap.get? b = some o → b ∉ ch := fun b o e hm => absurd (Nat.lt_of_lt_of_le (Heap.lt_size e) (hf b hm).1) (Nat.lt_irrefl _)
  refine ⟨ho.trans c.os, hb, ⟨fun b o e n h1 h2 => k b o (old b o e) (c.un.keep b o e n h1 h2), fun b o e n h1 h2 => ?_, c.un.free, fun b o e hx => ?_, c.un.tups, c.un.frzs, c.un.tbls⟩, fun b u q => ?_, ?_, k a go (fun hm => (hf a hm).2.2.2 rfl) c.gen, c.off⟩
  · obtain ⟨sl, q⟩ := c.un.slot b o e n h1 h2
    exact ⟨sl, k b _ (old b o e) q⟩
  · obtain ⟨o', q⟩ := c.un.there b o e hx
    exact ⟨o', k b _ (old b o e) q⟩
  · refine (c.hok b u q).stay (fun x y hc e => k x y (fun hm => ?_) e) (fun _ z => z) (fun _ _ z => z)
    have n := (hf x hm).2.1
    rcases hc with z | z
    · rw [z, q] at n
      cases n
    · rw [z] at n
      cases n
  · obtain ⟨mc, hns, hnn⟩ := c.lim
    exact ⟨mc, hns.at' fun o e => k _ o (fun hm => (hf _ hm).2.2.1 rfl) e, hnn⟩
end
/-- the protocol of a generator that hands out xs: item n from the end -/
def YItm (P : Program) (w : World) (outer : List Env) (H : Hp) (sc : Shared) (ws : List Addr) (a : Addr) (go : Obj) (xs : List V) (Q : Hp → Prop) : Protocol := fun n s₀ v s kap =>
  ∃ (x : V) (H' : Hp), xs[xs.length - (n + 1)]? = some x ∧ RelV x v ∧ n < xs.length ∧ Cn P w outer H H' sc ws a go s ∧ Q H' ∧ (∀ b ∈ ws, ∀ o, s₀.heap.get? b = some o → s.heap.get? b = some o) ∧ ∀ t, Doze ws s t → kap (.send .none) t
def YEnd (P : Program) (w : World) (outer : List Env) (H : Hp) (sc : Shared) (ws : List Addr) (a : Addr) (go : Obj) (Q : Hp → Prop) : GenEnd := fun n s₀ r s =>
  (r = .ok (.ret .none) ∨ r = .ok .next) ∧ n = 0 ∧ ∃ H', Cn P w outer H H' sc ws a go s ∧ Q H' ∧ ∀ b ∈ ws, ∀ o, s₀.heap.get? b = some o → s.heap.get? b = some o
section
variable {X : Cx} {A : Around} {outer : List Env} {H H' : Hp} {sc : Shared} {ws : List Addr} {a it : Addr} {go : Obj} {fs : List Frame} {xs : List V} {St : Nat → Heap → Prop} {Q : Hp → Prop} {R : GenEnd}
/-- it hands out what is left of xs -/
theorem seg_yg (q : QIt X H' it xs St) (hq : Q H') (hw : ∀ b ∈ ws, sc.heap.objs.size ≤ b ∧ b ≠ cStatics ∧ b ≠ a) (hit : sc.heap.objs.size ≤ it) (hH : H' it = none) (hs : it ≠ cStatics) (hia : it ≠ a) (hiw : it ∉ ws)
    (ho : (A.over (.builtin "proto.yield_from" ⟨[.ref it, .bool false, .none], []⟩) fs).handled = none) (hsp : splitAtGen fs = none) (hgd : fs.any Frame.guarded = false)
    (hend : ∀ (s₀ s : Shared), Cn X.prog X.w outer H H' sc ws a go s → (∀ b ∈ ws, ∀ o, s₀.heap.get? b = some o → s.heap.get? b = some o) →
      Seg (model X.prog X.w) A R (YItm X.prog X.w outer H sc ws a go xs Q) 0 s₀ (.builtin "proto.yield_from" ⟨[.ref it, .bool false, .none], []⟩) (.pure (.done (.ret .none))) fs s) :
    ∀ (n : Nat) (s₀ s : Shared), n ≤ xs.length → Cn X.prog X.w outer H H' sc ws a go s → (∀ b ∈ ws, ∀ o, s₀.heap.get? b = some o → s.heap.get? b = some o) → St (xs.length - n) s.heap →
      Seg (model X.prog X.w) A R (YItm X.prog X.w outer H sc ws a go xs Q) n s₀ (.builtin "proto.yield_from" ⟨[.ref it, .bool false, .none], []⟩) ((model X.prog X.w).den (.builtin "proto.yield_from" ⟨[.ref it, .bool false, .none], []⟩)) fs s := by
  obtain ⟨T, hT, hcl, hng⟩ := q.ty
  have turn : ∀ {s : Shared} {h' : Heap} {tk : Nat}, Cn X.prog X.w outer H H' sc ws a go s → (∀ b o, b ≠ it → s.heap.get? b = some o → h'.get? b = some o) → Cn X.prog X.w outer H H' sc ws a go { s with heap := h', toks := tk } := fun {s h' tk} c k =>
    c.step (t := { s with heap := h', toks := tk }) (ch := [it]) rfl c.bare (fun b o hb e => k b o (fun z => hb (by rw [z]; exact List.mem_singleton.mpr rfl)) e) (fun b hb => by rw [List.mem_singleton.mp hb]; exact ⟨hit, hH, hs, hia⟩)
  intro n
  induction n with
  | zero =>
    intro s₀ s hn c k0 st
    rw [Nat.sub_zero] at st
    rw [den_yf]; unfold Builtin.«proto.yield_from»; (try dsimp only); refine seg_bind (wpAny_pure ?_); (try dsimp only)
    refine seg_bind (wpAny_attempt (wpAny_holding ?_)); rw [if_neg Bool.false_ne_true, if_pos (show (Value.none == Value.none) = true from rfl)]
    refine wpAny_bind (wpAny_rule (wpAny_bind ?_)); refine q.done _ s _ _ ho st fun e h' tk hS hk => ?_
    obtain ⟨x, o, vs, rfl, hoa, hcls, hdat, h5⟩ := hS
    (try dsimp only); refine seg_bind (wpAny_endsTurn hoa hcls ?_); (try dsimp only); rw [if_pos rfl]
    (first | refine seg_bind (wpAny_rule ?_) | (rw [if_neg Bool.false_ne_true]; refine seg_bind (wpAny_rule ?_)) | (rw [if_neg Bool.false_ne_true]; refine seg_bind (wpAny_pure ?_); refine seg_bind (wpAny_rule ?_)))
    refine seg_bind (wpAny_field hoa hdat h5 ?_)
    exact hend s₀ _ (turn c hk) fun b hb o e => hk b o (fun z => hiw (z ▸ hb)) (k0 b hb o e)
  | succ n ih =>
    intro s₀ s hn c k0 st
    obtain ⟨x, hx⟩ : ∃ x, xs[xs.length - (n + 1)]? = some x := ⟨xs[xs.length - (n + 1)]'(by omega), List.getElem?_eq_getElem (by omega)⟩
    rw [den_yf]; unfold Builtin.«proto.yield_from»; (try dsimp only); refine seg_bind (wpAny_pure ?_); (try dsimp only)
    refine seg_bind (wpAny_attempt (wpAny_holding ?_)); rw [if_neg Bool.false_ne_true, if_pos (show (Value.none == Value.none) = true from rfl)]
    refine wpAny_bind (wpAny_rule (wpAny_bind ?_)); refine q.item _ _ x s _ _ ho hx st fun v h' tk rv st' hk => ?_
    have e1 : xs.length - (n + 1) + 1 = xs.length - n := by omega
    rw [e1] at st'
    have c' := turn (tk := tk) c hk
    obtain ⟨oi, hoi, hoc⟩ := hT _ h' st'
    refine wpAny_pure ?_; (try dsimp only); refine seg_bind (wpAny_typeOf (T := T) ⟨oi, hoi, hoc⟩ ?_); (try dsimp only)
    (first | (refine seg_bind (wpAny_of_eq hcl ?_); refine seg_bind (wpAny_pure ?_)) | refine seg_bind (wpAny_bind (wpAny_of_eq hcl (wpAny_pure ?_))) | refine seg_bind (wpAny_of_eq hcl ?_))
    (try dsimp only); refine seg_bind (wpAny_sleptOver hoi hoc hng ?_); refine seg_yield hsp rfl hgd ?_
    refine ⟨x, H', hx, rv, by omega, c', hq, fun b hb o e => hk b o (fun z => hiw (z ▸ hb)) (k0 b hb o e), fun t z => ?_⟩
    have st2 : St (xs.length - n) t.heap := q.frame _ h' t.heap st' fun b o hb e => z.keep b o (fun hm => by
      rcases hb with y | y
      · exact hiw (y ▸ hm)
      · exact y (c'.off b hm)) e
    obtain ⟨oj, hoj, hojc⟩ := hT _ t.heap st2
    show Seg _ _ _ _ n t _ (Builtin.Generator.sleptOver (.ref it) false >>= fun _ => _) fs t
    refine seg_bind (wpAny_sleptOver hoj hojc hng ?_); (try dsimp only); refine seg_bind (wpAny_pure ?_)
    have c2 : Cn X.prog X.w outer H H' sc ws a go t := c'.step (ch := ws) z.os z.bare z.keep fun b hb => ⟨(hw b hb).1, c'.off b hb, (hw b hb).2.1, (hw b hb).2.2⟩
    exact seg_again (plainId_quiet plain_yf _) (ih t t (by omega) c2 (fun _ _ _ e => e) st2)
end
end BJ

/-! the call of such a generator's def -/
namespace BJ
open PySem PySem.Spec PyProof.Rows L2 Evl GenW
open PySem.W (Frag)
/-- a generator def's promise: the arguments, the heap, what it hands out, what is wanted of the heap -/
abbrev SpY := List V → Hp → List V → (Hp → Prop) → Prop
/-- a generator that has not begun, and how it goes on -/
def YMade (P : Program) (w : World) (k : Nat) (outer : List Env) (H : Hp) (s : Shared) (xs : List V) (Q : Hp → Prop) (u : Value) (s' : Shared) : Prop :=
  ∃ (a : Addr) (g : Nat) (c : Code) (go : Obj), u = .ref a ∧ s.heap.objs.size ≤ a ∧ a < s'.heap.objs.size ∧ s'.heap.get? a = some go ∧ (∀ h : Heap, h.get? a = some go → h.IsGen a g) ∧ s'.gens[g]? = some (.fresh c) ∧ s'.os = s.os ∧ AllBare s'.gens ∧ s'.heap.NoLimit ∧
    (∀ b o, s.heap.get? b = some o → s'.heap.get? b = some o) ∧ ∀ (A : Around) (ws : List Addr) (t : Shared), Room k A → A.frames = some outer → (∀ b ∈ ws, s'.heap.objs.size ≤ b) → (∀ b o, s'.heap.get? b = some o → t.heap.get? b = some o) →
      (∀ b ∈ ws, ∃ o, t.heap.get? b = some o ∧ ∀ v, o.data ≠ .cell v) → t.os = s.os → AllBare t.gens → Seg (model P w) A (YEnd P w outer H s ws a go Q) (YItm P w outer H s ws a go xs Q) xs.length t c ((model P w).den c) [] t
def YFn (P : Program) (w : World) (K : Frag) (mg : Str → Option Value) (base : Heap) (k : Nat) (f : Addr) (sp : SpY) : Prop :=
  ∀ (A : Around) (outer : List Env) (s : Shared) (H : Hp) (us : List Value) (vs xs : List V) (Q : Hp → Prop), Room k A → Env0 P w K mg base A outer s H → Vals vs us → sp vs H xs Q →
    codeAny (model P w) A (.call (.ref f) ⟨us, []⟩) (fun r s' => match r with | .ok (.ret u) => YMade P w k outer H s xs Q u s' | _ => False) s
section
variable {P : Program} {w : World} {K : Frag} {mg : Str → Option Value} {base : Heap}
theorem yfn_of {k : Nat} {f : Addr} {name qual : Str} {params : Arguments} {body : List Stmt} {e : Expr} {yp pos : Pos} {scope : Scope} {dV kV doc pm cdv ct oc : Value} {an od : Option Addr} {osl : Array (Option Value)} {N ps : List Str} {sp : SpY}
    (lk : K.lookup f = some ⟨oc, od, .func (PySem.W.fnOf name qual params body scope dV kV doc pm an cdv ct), osl⟩) (hbo : body = [.Expr (.YieldFrom e yp) pos]) (hcd : PySem.W.codeIn K cdv qual = true) (S : GScope N ps scope) (hi : ∀ n : Addr, interactive (envOfC qual scope n f cdv) = false) (hb : Binds K (PySem.W.fnOf name qual params body scope dV kV doc pm an cdv ct) ps [])
    (len : ∀ vs H xs Q, sp vs H xs Q → vs.length = ps.length)
    (hbody : ∀ (A : Around) (outer : List Env) (s : Shared) (H : Hp) (vs xs : List V) (Q : Hp → Prop) (pn : List (Addr × Obj)), Room k (A.deeper (envOfC qual scope s.heap.objs.size f cdv)) → sp vs H xs Q →
      ∃ t, YfE (gcxOf P w K mg base N qual scope f cdv A outer s H (fun _ _ _ => False) pn).nox e t ∧ t (L2.start N vs) H fun ys H' => ys = xs ∧ Q H') : YFn P w K mg base (k + 1) f sp := by
  subst hbo
  intro A outer s H us vs xs Q hr e0 r hsp
  have hl := len _ _ _ _ hsp
  have KX : K.In s.heap := e0.mod.kin.keeps fun b o e => (e0.bs b o e).1
  have lim : s.heap.NoLimit := e0.mod.nolimit.keeps fun b o e => (e0.bs b o e).1
  have hul : (us ++ []).length = ps.length := by rw [List.append_nil, ← r.length, hl]
  have hbind := hb s us KX hul
  rw [List.append_nil] at hbind
  refine codeAny_call_generator hr.depth (KX _ _ lk) rfl S.co S.gen rfl (PySem.W.codeRec_of KX hcd) (hbind _ _ _ _ ?_)
  refine wpAny_newFunctionEnv_cells S.kind (fun y hy => ?_) fun env he s1 x => ?_
  · rcases S.par y.1 (List.of_mem_zip (show (y.1, y.2) ∈ _ from hy)).1 with q | q
    · exact .inl q
    · exact .inr ⟨q, PySem.W.cellsFrom_some _ _ _ (.inl q)⟩
  subst he
  have lim1 : s1.heap.NoLimit := lim.keeps x.toInCall.keep
  refine ⟨lim1, ?_⟩
  obtain ⟨h1, tk, es1, hk1⟩ := x.done
  have os1 : s1.os = s.os := by rw [es1]
  have gen1 : s1.gens = s.gens := by rw [es1]
  have lt1 : s.heap.objs.size < s1.heap.objs.size := x.toInCall.ns.lt
  have kp1 : ∀ b o, s.heap.get? b = some o → s1.heap.get? b = some o := x.toInCall.keep
  have main : ∀ (go : Obj) (nm qn : Value) (tk2 : Nat), go.cls = .type "generator" → go.data = .fields #[.int s1.gens.size 0, nm, qn] → go.slots = #[] → (∀ h : Heap, (h.push go).get? h.objs.size = some go) →
      YMade P w (k + 1) outer H s xs Q (.ref s1.heap.objs.size) { s1 with gens := s1.gens.push (.fresh (.func [.Expr (.YieldFrom e yp) pos] (envOfC qual scope s.heap.objs.size f cdv))), toks := tk2, heap := s1.heap.push go } := by
    intro go nm qn tk2 hgc hgd0 hgs hgp
    have hpushed : (s1.heap.push go).get? s1.heap.objs.size = some go := hgp _
    refine ⟨s1.heap.objs.size, s1.gens.size, _, go, rfl, Nat.le_of_lt lt1, ?_, hpushed, fun h e => ⟨go, nm, qn, e, hgc, hgd0, hgs⟩, Array.getElem?_push_size .., os1, AllBare.push (by rw [gen1]; exact e0.bare) rfl, lim1.keeps fun b o e => Heap.get?_push_of_some _ e, fun b o e => Heap.get?_push_of_some _ (kp1 b o e), ?_⟩
    · show _ < (s1.heap.push _).objs.size
      rw [Heap.size_push]
      exact Nat.lt_succ_self _
    intro Aw ws t hrw hfr hws hkt hwo hos hba
    have hws' : ∀ b ∈ ws, s1.heap.objs.size < b := fun b hb => by
      have := hws b hb
      have z : (s1.heap.push go).objs.size ≤ b := this
      rw [Heap.size_push] at z
      exact z
    have e0w : Env0 P w K mg base Aw outer s H := ⟨hfr, e0.mod, e0.bs, e0.bsz, e0.funs, e0.frf, e0.hok, e0.bare⟩
    have I1 : Inv (gcxOf P w K mg base N qual scope f cdv Aw outer s H (fun _ _ _ => False) []) [] (L2.start N vs) H s1 := inv_startG S hrw.hd e0w hl r x
    have kpt : ∀ b o, s1.heap.get? b = some o → t.heap.get? b = some o := fun b o e => hkt b o (Heap.get?_push_of_some _ e)
    have I2 : Inv (gcxOf P w K mg base N qual scope f cdv Aw outer s H (fun _ _ _ => False) []) [] (L2.start N vs) H t := I1.call' (ch := []) (hos.trans os1.symm) (Un.kept kpt) (I1.hok.kept kpt) hba fun b z => by simp at z
    have hea : t.heap.get? s1.heap.objs.size = some go := hkt s1.heap.objs.size go hpushed
    have young : ∀ b, s1.heap.objs.size ≤ b → H b = none ∧ b ≠ s.heap.objs.size ∧ b ∉ frs outer := fun b hb => ⟨I1.hok.fresh hb, Nat.ne_of_gt (Nat.lt_of_lt_of_le lt1 hb), I1.nofs hb⟩
    have I3 : Inv (gcxOf P w K mg base N qual scope f cdv Aw outer s H (fun _ _ _ => False) [(s1.heap.objs.size, go)]) (pinsAt ws t.heap) (L2.start N vs) H t := Inv.pinnedG I2 fun p hp => by
      rcases List.mem_append.mp hp with z | z
      · rw [List.mem_singleton.mp z]
        obtain ⟨y1, y2, y3⟩ := young s1.heap.objs.size (Nat.le_refl _)
        exact ⟨hea, y1, y2, y3, fun v q => by rw [hgd0] at q; cases q⟩
      · obtain ⟨hb, e⟩ := of_pinsAt z
        obtain ⟨y1, y2, y3⟩ := young p.1 (Nat.le_of_lt (hws' p.1 hb))
        obtain ⟨o, e2, hd⟩ := hwo p.1 hb
        rw [e] at e2
        cases e2
        exact ⟨e, y1, y2, y3, hd⟩
    obtain ⟨ty, hty, hq⟩ := hbody Aw outer s H vs xs Q [(s1.heap.objs.size, go)] (hrw.deeper _) hsp
    have hcs : cStatics < s.heap.objs.size := by
      obtain ⟨mc, hns, _⟩ := lim
      exact hns.lt
    refine seg_func (seg_execs_cons ?_)
    rw [exec_Expr _ _ pos (hi _) rfl]
    refine seg_at (segw_bind2 ?_)
    rw [over_func]
    refine wpAny_mono (hty.run (pinsAt ws t.heap) t _ H _ (I3.wish _) hq) (fun v s3 hv => ?_) fun x s' hx => (show False from hx).elim
    obtain ⟨T, hT, hne, hit⟩ := hv
    refine seg_at ?_
    show Seg _ _ _ _ _ _ _ ((yieldFrom _ v).wrap _ _ id id) [] s3
    unfold yieldFrom
    refine seg_bind_wrap (wpAny_typeOf hT ?_)
    rw [if_neg (by rw [hne]; exact Bool.false_ne_true)]
    refine seg_bind_wrap (wpAny_holding ?_)
    rw [over_func]
    refine wpAny_mono hit (fun u s4 hu => ?_) fun x s' hx => (show False from hx).elim
    obtain ⟨it, H', ys, St, rfl, I4, q1, q2, q3, q4, q5, q6, q7, rfl, hQ⟩ := hu
    refine seg_call fun p => ?_
    have q1' : s.heap.objs.size ≤ it := q1.resolve_left (fun z => by cases z)
    have c4 : Cn P w outer H H' s ws s1.heap.objs.size go s4 := ⟨I4.os, I4.bare, I4.base, I4.hok, I4.nolimit, (I4.pin (s1.heap.objs.size, go) (List.mem_append_left _ (List.mem_singleton.mpr rfl))).1, fun b hb => by
      obtain ⟨o, e, _⟩ := hwo b hb
      exact (I4.pin (b, o) (List.mem_append_right _ (mem_pinsAt hb e))).2.1⟩
    have hitw : it ∉ ws := fun hm => by
      obtain ⟨o, e, _⟩ := hwo it hm
      exact q5 (it, o) (List.mem_append_right _ (mem_pinsAt hm e)) rfl
    have hita : it ≠ s1.heap.objs.size := fun z => q5 (s1.heap.objs.size, go) (List.mem_append_left _ (List.mem_singleton.mpr rfl)) z.symm
    refine seg_yg (X := (gcxOf P w K mg base N qual scope f cdv Aw outer s H (fun _ _ _ => False) [(s1.heap.objs.size, go)]).nox) (outer := outer) (H := H) (sc := s) (ws := ws) (a := s1.heap.objs.size) (go := go) (Q := Q) q7 hQ (fun b hb => ⟨Nat.le_trans (Nat.le_of_lt lt1) (Nat.le_of_lt (hws' b hb)), Nat.ne_of_gt (Nat.lt_of_lt_of_le hcs (Nat.le_trans (Nat.le_of_lt lt1) (Nat.le_of_lt (hws' b hb)))), Nat.ne_of_gt (hws' b hb)⟩)
      q1' q4 (Nat.ne_of_gt (Nat.lt_of_lt_of_le hcs q1')) hita hitw ?_ rfl rfl (fun s₀ s' c k0 => ?_) ys.length t s4 (Nat.le_refl _) c4 (fun b hb o e => (I4.pin (b, o) (List.mem_append_right _ (mem_pinsAt hb e))).1) (by rw [Nat.sub_self]; exact q6)
    · show (Aw.over (.func [.Expr (.YieldFrom e yp) pos] (envOfC qual scope s.heap.objs.size f cdv)) []).handled = none
      rw [over_func]
      exact hrw.hd
    · have fin : Seg (model P w) Aw (YEnd P w outer H s ws s1.heap.objs.size go Q) (YItm P w outer H s ws s1.heap.objs.size go ys Q) 0 s₀ (.func [.Expr (.YieldFrom e yp) pos] (envOfC qual scope s.heap.objs.size f cdv)) (leafOf (.ok (.ret .none))) [] s' :=
        seg_end (.ok (.ret .none)) ⟨.inl rfl, rfl, H', c, hQ, k0⟩
      exact seg_leaf (.ok (.ret .none)) fin
  exact main _ _ _ _ rfl rfl rfl fun h => Heap.get?_push_size _ rfl
end
end BJ

/-! [x for x in g] where g is such a generator -/
namespace BJ
open PySem PySem.Spec PyProof.Rows L2 Evl GenW
open PySem.W (Frag)
/-- an expression whose value is such a generator, not begun -/
abbrev TYx := L2.St → Hp → (List V → Hp → Prop) → Prop
structure PY (X : Cx) (k : Nat) (e : Expr) (ty : TYx) : Prop where
  run : ∀ (pins : List (Addr × Obj)) (s : Shared) (σ : L2.St) (H : Hp) (cont : List V → Hp → Prop), Inv X pins σ H s → ty σ H cont → wpAny (model X.prog X.w) X.A (eval e X.env)
    (fun u s1 => ∃ sc H1 xs, Inv X pins σ H1 sc ∧ YMade X.prog X.w k X.stack H1 sc xs (cont xs) u s1) X.xe s
/-- the comprehension's list and its names are no cells -/
theorem two_there {h : Heap} {D : Addr} {acc : Array Value} {cc : Nat} {m : Str → Option Value} (h1 : h.get? D = some (lstObj acc cc)) (h2 : h.Ns (D + 1) m) : ∀ b ∈ [D, D + 1], ∃ o, h.get? b = some o ∧ ∀ v, o.data ≠ .cell v := fun b hb => by
  simp only [List.mem_cons, List.not_mem_nil, or_false] at hb
  rcases hb with rfl | rfl
  · exact ⟨_, h1, fun v z => nomatch z⟩
  · obtain ⟨o, es, ep, e, d, _⟩ := h2
    exact ⟨o, e, fun v z => by rw [d] at z; cases z⟩
def tLcY (ty : TYx) : TE := fun σ H Q => ty σ H fun xs H1 => xs.length ≤ sizeLine ∧ ∀ D, H1 D = none → sysModules < D → Q (.ref D) (upd H1 D (.lst xs))
section
variable {X : Cx} {k : Nat} {iter : Expr} {ty : TYx} {x : Str} {p1 p2 pos : Pos} {scope : Scope}
theorem pe_lcY (hc : X.calm = true) (h : PY X k iter ty) (hr : Room (k + 1) X.A) (hk : scope.kind = .function) (hn : scope.names = [((".0" : Str), NameKind.local), (x, NameKind.local)]) (hx0 : (x == (".0" : Str)) = false := by decide) (hd : (x == ("__debug__" : Str)) = false := by decide)
    (hs : ∀ y, foldedSetIterable iter X.env y = pure y := by intro _; rfl) : PE X (.ListComp (.Name x p1) [⟨.Name x p2, iter, [], 0⟩] scope pos) (tLcY ty) := by
  refine ⟨fun pins s σ H Q I hq => ?_⟩
  have lk0 : scope.names.lookup (".0" : Str) = some .local := by rw [hn]; rfl
  have lkx : scope.names.lookup x = some .local := by rw [hn, List.lookup_cons, hx0, List.lookup_cons_self]
  refine wpAny_ListComp (fun y hy => ?_) hk (fun y hy e => ?_) (thn (h.run pins s σ H _ I hq) fun u s1 hu => ?_) hs
  · rw [hn] at hy
    simp only [List.mem_cons, List.not_mem_nil, or_false] at hy
    rcases hy with rfl | rfl <;> exact fun z => nomatch z
  · rw [hn] at hy
    simp only [List.mem_cons, List.not_mem_nil, or_false] at hy
    rcases hy with rfl | rfl
    · exact lk0
    · exact lkx
  obtain ⟨sc, H1, xs, Ic, a, g, c, go, rfl, ha1, ha2, hgo, hgen, hgs, hos, hb, hl, hkp, wake⟩ := hu
  refine wpAny_pyIter_gen (hgen _ hgo) ?_
  refine wpAny_newObj_type (newEnv_comp ?_) (by show 0 ≤ sizeLine; decide)
  have hcs : cStatics < s1.heap.objs.size := by
    obtain ⟨mc, hns, _⟩ := hl
    exact hns.lt
  have hsz : sc.heap.objs.size ≤ s1.heap.objs.size := Nat.le_of_lt (Nat.lt_of_le_of_lt ha1 ha2)
  generalize hD : s1.heap.objs.size = D at *
  have zC : (s1.heap.push ({ cls := .type "list", data := .seq ([] : List Value).toArray } : Obj)).objs.size = D + 1 := by rw [Heap.size_push, hD]
  have ec : ∀ (n : Nat), cellsFrom n scope.names [] = [] := fun n => by rw [hn]; rfl
  have pc : ∀ hh : Heap, pushCells hh scope.names = hh := fun hh => by rw [hn]; rfl
  show codeAny _ _ (.compStart _ 0 (.ref a) (.ref D) { newEnv scope (s1.heap.push ({ cls := .type "list", data := .seq ([] : List Value).toArray } : Obj)).objs.size X.env.globals (cellsFrom ((s1.heap.push ({ cls := .type "list", data := .seq ([] : List Value).toArray } : Obj)).objs.size + 1) scope.names []) X.env.qual none .none (some X.env) builtinsNs with scope := scope }) _
    { s1 with heap := pushCells ((s1.heap.push ({ cls := .type "list", data := .seq ([] : List Value).toArray } : Obj)).push { cls := .type "dict", data := .dict #[] }) scope.names }
  rw [zC, ec, pc]
  generalize hce : ({ newEnv scope (D + 1) X.env.globals [] X.env.qual none .none (some X.env) builtinsNs with scope := scope } : Env) = ce
  have cL : ce.locals = D + 1 := by rw [← hce]; rfl
  have csc : ce.scope = scope := by rw [← hce]
  have hko : ce.kindOf x = some .local := by
    unfold Env.kindOf
    rw [csc]
    exact lkx
  generalize hh4 : (s1.heap.push ({ cls := .type "list", data := .seq ([] : List Value).toArray } : Obj)).push { cls := .type "dict", data := .dict #[] } = h4
  have k4 : ∀ b o, s1.heap.get? b = some o → h4.get? b = some o := fun b o e => by rw [← hh4]; exact Heap.get?_push_of_some _ (Heap.get?_push_of_some _ e)
  have gD : h4.get? D = some (lstObj #[] 0) := by
    rw [← hh4, ← hD]
    exact Heap.get?_push_of_some _ (Heap.get?_push_size _ rfl)
  have gC : h4.get? (D + 1) = some { cls := .type "dict", data := .dict #[] } := by
    rw [← hh4, ← zC]
    exact Heap.get?_push_size _ rfl
  have nC : h4.Ns (D + 1) (fun _ => none) := ⟨_, #[], _, gC, rfl, fun e he => absurd he (by simp), fun _ => rfl⟩
  have hcalm : X.A.handled = none := I.ok.hd hc
  -- the run's end, its steps
  have Dne : D ≠ cStatics := Nat.ne_of_gt hcs
  have Cne : D + 1 ≠ cStatics := Nat.ne_of_gt (Nat.lt_succ_of_lt hcs)
  have aD : a ≠ D := Nat.ne_of_lt ha2
  have aC : a ≠ D + 1 := Nat.ne_of_lt (Nat.lt_succ_of_lt ha2)
  let F : Nat → Shared → Shared → Prop := fun n s₀ s => n = 0 ∧ ∃ H', Cn X.prog X.w X.stack H1 H' sc [D, D + 1] a go s ∧ (xs.length ≤ sizeLine ∧ ∀ D, H' D = none → sysModules < D → Q (.ref D) (upd H' D (.lst xs))) ∧ ∀ b ∈ [D, D + 1], ∀ o, s₀.heap.get? b = some o → s.heap.get? b = some o
  let R' : GenEnd := fun n s₀ r s => ((r = .ok (.ret .none) ∨ r = .ok .next) ∧ F n s₀ s) ∨ ∃ e, r = .error e ∧ False
  let Y' : Protocol := YItm X.prog X.w X.stack H1 sc [D, D + 1] a go xs fun H' => xs.length ≤ sizeLine ∧ ∀ D, H' D = none → sysModules < D → Q (.ref D) (upd H' D (.lst xs))
  have wf : ∀ b ∈ [D, D + 1], sc.heap.objs.size ≤ b ∧ b ≠ cStatics ∧ b ≠ a := fun b hb => by
    simp only [List.mem_cons, List.not_mem_nil, or_false] at hb
    rcases hb with rfl | rfl
    · exact ⟨hsz, Dne, aD.symm⟩
    · exact ⟨Nat.le_succ_of_le hsz, Cne, aC.symm⟩
  let LI : Nat → Shared → Prop := fun n t => n ≤ xs.length ∧ ∃ (acc : Array Value) (cc : Nat) (m : Str → Option Value) (gs : GenState), t.heap.get? D = some (lstObj acc cc) ∧ Vals (xs.take (xs.length - n)) acc.toList ∧ t.heap.Ns (D + 1) m ∧ t.heap.get? a = some go ∧ t.heap.NoLimit ∧
    t.gens[g]? = some gs ∧ gs.Goes (model X.prog X.w) X.A.in1 R' Y' n (.send .none) (t.setGen g .running)
  have gsz : g < s1.gens.size := (Array.getElem?_eq_some_iff.mp hgs).1
  have start : LI xs.length { s1 with heap := h4 } := by
    refine ⟨Nat.le_refl _, #[], 0, _, _, gD, by rw [Nat.sub_self]; exact .nil, nC, k4 _ _ hgo, hl.keeps k4, hgs, rfl, ?_⟩
    have w0 := wake X.A.in1 [D, D + 1] ({ s1 with heap := h4 }.setGen g .running) hr.in1 (show X.A.in1.frames = some X.stack from I.ok.frames) (fun b hb => ?_) k4 (fun b hb => ?_) hos (allBare_setGen (s := { s1 with heap := h4 }) hb rfl)
    · exact seg_imp (fun n s₀ r s hR => .inl ⟨hR.1, hR.2.1, hR.2.2⟩) (fun n s₀ v s kap kap' hkk hY => by
        obtain ⟨x, H', y1, y2, y3, y4, y5, y6, y7⟩ := hY
        exact ⟨x, H', y1, y2, y3, y4, y5, y6, fun t z => hkk _ _ (y7 t z)⟩) _ w0
    · simp only [List.mem_cons, List.not_mem_nil, or_false] at hb
      rcases hb with rfl | rfl
      · exact Nat.le_refl _
      · exact Nat.le_succ _
    · simp only [List.mem_cons, List.not_mem_nil, or_false] at hb
      rcases hb with rfl | rfl
      · exact ⟨_, gD, fun v z => nomatch z⟩
      · exact ⟨_, gC, fun v z => nomatch z⟩
  have loop : codeAny (model X.prog X.w) X.A (.compLoop (.ListComp (.Name x p1) [⟨.Name x p2, iter, [], 0⟩] scope pos) 0 (.ref a) (.ref D) ce) (fun r s' => ∃ m, s'.heap.Ns (D + 1) m ∧ ∀ h', Heap.SameBut (D + 1) s'.heap h' →
      match r with | .ok _ => EP X pins σ Q (.ref D) { s' with heap := h' } | .error x => wpAny (model X.prog X.w) X.A (passOn "comprehension.variables-let-go" x ce) (EP X pins σ Q) X.xe { s' with heap := h' }) { s1 with heap := h4 } := by
    refine compLoop_any LI ?_ xs.length start
    rintro n t ⟨hnl, acc, cc, m, gs, tD, tV, tN, ta, tl, tg, tgo⟩
    have tsz := (Array.getElem?_eq_some_iff.mp tg).1
    have mD : D ∈ [D, D + 1] := List.mem_cons_self
    have mC : D + 1 ∈ [D, D + 1] := List.mem_cons_of_mem _ List.mem_cons_self
    refine wpAny_gsz (n := g + 1) tsz (next_genG (F := F) (Er := fun _ _ => False) (Y := Y') hcalm tl hr.depth (hgen _ ta) tg tgo (fun v s₁ gs' hbare hY => ?_) (fun s₁ hF h' hk' => ?_) fun e s₁ he => he.elim)
    · intro hsz2
      obtain ⟨y, H', y1, y2, y3, y4, y5, y6, y7⟩ := hY
      cases n with
      | zero => exact (show False from y7 s₁ ⟨rfl, y4.bare, fun _ _ _ e => e, two_there (y6 D mD _ tD) (let ⟨o, es, ep, ho, r⟩ := tN; ⟨o, es, ep, y6 (D + 1) mC _ ho, r⟩)⟩).elim
      | succ n =>
        have e1 : xs.length - (n + 1 - 1 + 1) = xs.length - (n + 1) := by omega
        rw [e1] at y1
        have gD1 : s₁.heap.get? D = some (lstObj acc cc) := y6 D mD _ tD
        have nC1 : s₁.heap.Ns (D + 1) m := by
          obtain ⟨o, es, ep, ho, r⟩ := tN
          exact ⟨o, es, ep, y6 (D + 1) mC _ ho, r⟩
        have al : acc.size = xs.length - (n + 1) := by
          have q1 := tV.length
          rw [List.length_take] at q1
          have q2 : acc.toList.length = acc.size := by simp
          omega
        refine wpAny_pure ?_
        refine wpAny_assign_Name (wpAny_storeName_local hko (m := m) (by rw [cL]; exact nC1) (fun h' hn' sb => ?_) (by rw [csc, hk]; rfl))
        rw [cL] at hn' sb
        refine wpAny_tests_nil ?_
        rw [if_pos rfl]
        refine wpAny_Name (wpAny_loadName_local (m := fun z => if z = x then some v else m z) (v := v) (by rw [csc]; exact hk) hko (by rw [cL]; exact hn') (if_pos rfl) ?_) hd
        have gD2 : h'.get? D = some (lstObj acc cc) := (sb.2 D (Nat.ne_of_lt (Nat.lt_succ_self _))).trans gD1
        refine append_at (hsz := by have := y5.1; omega) gD2 fun h2 sb2 hD2 => ⟨n, Nat.lt_succ_self _, ?_⟩
        have g1 : g < s₁.gens.size := by
          have q := setGen_size s₁ g gs'
          have q2 : g + 1 ≤ (s₁.setGen g gs').gens.size := hsz2
          omega
        have keep : ∀ b o, b ∉ [D, D + 1] → s₁.heap.get? b = some o → h2.get? b = some o := fun b o hb e => by
          have b1 : b ≠ D := fun z => hb (z ▸ mD)
          have b2 : b ≠ D + 1 := fun z => hb (z ▸ mC)
          exact (sb2.2 b b1).trans ((sb.2 b b2).trans e)
        have aw : a ∉ [D, D + 1] := fun hm => (wf a hm).2.2 rfl
        have etk : xs.take (xs.length - n) = xs.take (xs.length - (n + 1)) ++ [y] := by
          rw [show xs.length - n = xs.length - (n + 1) + 1 by omega, List.take_add_one, y1]
          rfl
        refine ⟨Nat.le_of_succ_le hnl, acc.push v, cc + 1, _, gs', hD2, ?_, hn'.sameBut sb2 (Nat.ne_of_gt (Nat.lt_succ_self _)), keep a go aw y4.gen, ?_, setGen_at g1, ?_⟩
        · rw [etk, Array.toList_push]
          exact tV.append (.cons y2 .nil)
        · obtain ⟨mc, hns, hnn⟩ := y4.lim
          exact ⟨mc, hns.at' fun o e => keep _ o (fun hm => (wf _ hm).2.1 rfl) e, hnn⟩
        · exact y7 _ ⟨rfl, allBare_setGen (allBare_setGen y4.bare hbare) rfl, keep, two_there hD2 (hn'.sameBut sb2 (Nat.ne_of_gt (Nat.lt_succ_self _)))⟩
    · intro hsz2
      obtain ⟨hn0, H', c', ⟨hl1, hq'⟩, same⟩ := hF
      subst hn0
      rw [Nat.sub_zero, List.take_length] at tV
      have gD1 : s₁.heap.get? D = some (lstObj acc cc) := same D mD _ tD
      refine ⟨m, ?_, fun h2 sb => ?_⟩
      · obtain ⟨o, es, ep, ho, r⟩ := tN
        exact ⟨o, es, ep, hk' _ _ (same (D + 1) mC _ ho), r⟩
      have gD2 : h2.get? D = some (lstObj acc cc) := (sb.2 D (Nat.ne_of_lt (Nat.lt_succ_self _))).trans (hk' _ _ gD1)
      have c2 := c'.step (t := { s₁.setGen g .finished with heap := h2 }) (ch := [D + 1]) rfl (allBare_setGen c'.bare rfl) (fun b o hb e => (sb.2 b (fun z => hb (by rw [z]; exact List.mem_singleton.mpr rfl))).trans (hk' _ _ e)) (fun b hb => by
        rw [List.mem_singleton.mp hb]
        exact ⟨(wf _ mC).1, c'.off _ mC, (wf _ mC).2.1, (wf _ mC).2.2⟩)
      exact ⟨.ref D, _, Inv.drained Ic hsz hl1 gD2 tV ExOk.nil c2.os c2.bare c2.un c2.hok (c2.off D mD), rfl, hq' D (c2.off D mD) (Nat.lt_of_lt_of_le Ic.big hsz)⟩
  exact codeAny_compStart_list loop (wpAny_pyIter_gen (hgen _ (k4 _ _ hgo)) loop)
end
end BJ

/-! «yield from» a list; o.m() of a generator method -/
namespace BJ
open PySem PySem.Spec PyProof.Rows L2 Evl GenW
open PySem.W (Frag)
section
variable {prog : Program} {w : World} {A : Around} {E : Value → Shared → Prop} {s : Shared}
theorem lit_item {it l : Addr} {i : Nat} {items : Array Value} {x : Value} {Q : Option Value → Shared → Prop} (hit : s.heap.IsListIter it l i) (ht : s.heap.IsList l items) (hx : items[i]? = some x)
    (hQ : ∀ h', h'.IsListIter it l (i + 1) → Heap.SameBut it s.heap h' → Q (some x) { s with heap := h' }) : wpAny (model prog w) A (callSpecial? (.ref it) "__next__") Q E s := by
  obtain ⟨o, ho, hc, hd⟩ := id hit
  obtain ⟨ol, hol, _, nl, hdl⟩ := ht
  refine wpAny_callSpecial?_slot (name := Str.ofString "__next__") hit.typeIs slot_listiter_next (wpAny_call_entry slot_listiter_next hit.typeIs entry_listiter_next ?_ (args_listiter_next _)); show wpAny _ _ (field (.ref it) 0 >>= _) _ _ s
  refine wpAny_bind (wpAny_field ho hd (x := .ref l) rfl ?_); show wpAny _ _ (if (Value.ref l == Value.none) = true then _ else _) _ _ s
  rw [if_neg (show ¬ ((Value.ref l == Value.none) = true) from Bool.false_ne_true)]; show wpAny _ _ (field (.ref it) 1 >>= _) _ _ s
  refine wpAny_bind (wpAny_field ho hd (x := .int i 0) rfl ?_); show wpAny _ _ (seqItems? (.ref l) >>= _) _ _ s
  refine wpAny_bind (wpAny_seqItems hol hdl ?_); simp only [Int.toNat_natCast, hx]
  refine wpAny_bind (wpAny_setField ho hd (by simp) (wpAny_pure ⟨x, rfl, hQ _ ⟨_, Heap.get?_update_self _ ho (Obj.isFreed_of_fields (Obj.data_mapFields hd _)), (Obj.cls_mapFields ..).trans hc, by rw [Obj.data_mapFields hd]; simp [rawInt]⟩ (Heap.SameBut.update ..)⟩))
theorem lit_end {it l : Addr} {i : Nat} {items : Array Value} {Q : Option Value → Shared → Prop} (hh : A.handled = none) (hit : s.heap.IsListIter it l i) (ht : s.heap.IsList l items) (hx : items[i]? = none)
    (hE : ∀ e h', StopX e h' → Heap.ExtBut it s.heap h' → E e { s with heap := h' }) : wpAny (model prog w) A (callSpecial? (.ref it) "__next__") Q E s := by
  obtain ⟨o, ho, hc, hd⟩ := id hit
  obtain ⟨ol, hol, _, nl, hdl⟩ := ht
  refine wpAny_callSpecial?_slot (name := Str.ofString "__next__") hit.typeIs slot_listiter_next (wpAny_call_entry slot_listiter_next hit.typeIs entry_listiter_next ?_ (args_listiter_next _)); show wpAny _ _ (field (.ref it) 0 >>= _) _ _ s
  refine wpAny_bind (wpAny_field ho hd (x := .ref l) rfl ?_); show wpAny _ _ (if (Value.ref l == Value.none) = true then _ else _) _ _ s
  rw [if_neg (show ¬ ((Value.ref l == Value.none) = true) from Bool.false_ne_true)]; show wpAny _ _ (field (.ref it) 1 >>= _) _ _ s
  refine wpAny_bind (wpAny_field ho hd (x := .int i 0) rfl ?_); show wpAny _ _ (seqItems? (.ref l) >>= _) _ _ s
  refine wpAny_bind (wpAny_seqItems hol hdl ?_); simp only [Int.toNat_natCast, hx]
  refine wpAny_bind (wpAny_rule (wpAny_bind (wpAny_setField ho hd (by simp) ?_))); show wpAny _ _ (newExc (.type "StopIteration") [] >>= _) _ _ _
  refine wpAny_bind ?_; simp only [newExc, newTuple]; refine wpAny_bind (wpAny_newObj_type ?_ (by size_fits))
  refine wpAny_bind (m := firstArgMember _ _) (wpAny_of_eq (a := Value.none) (by first | rfl | (simp only [firstArgMember]; rfl)) ?_); refine wpAny_newObj_type ?_ (by size_fits)
  simp only [raiseNew]; refine wpAny_bind (wpAny_handled ?_); first | rw [show A.in1.handled = none from hh] | rw [hh]
  refine wpAny_bind (wpAny_pure (wpAny_throw ?_)); refine hE _ _ ⟨_, _, _, rfl, Heap.get?_push_size _ rfl, rfl, rfl, ?_⟩ (((Heap.SameBut.update ..).extBut.push _).push _)
  first | rfl | (rw [Array.getElem?_append_left (by decide)]; rfl) | kernel_rfl
end
theorem close_lst : typeLookup (.type "list_iterator") "close" = pure none := by rw [typeLookup_type, builtinLookup_eq_fast]; kernel_rfl
section
variable {X : Cx} {e o : Expr} {te ta : TE} {m : Str} {apos pos : Pos} {k : Nat} {pl : Sem Bool}
def tYfLst (te : TE) : TYf := fun σ H Q => te σ H fun x H1 => ∃ a xs, x = .ref a ∧ H1 a = some (.lst xs) ∧ Q xs H1
theorem yf_lst (he : PE X e te) : YfE X e (tYfLst te) := by
  refine ⟨fun pins s σ H Q I h => ?_⟩
  refine thn (he.run pins s σ H _ I h) fun v s1 ⟨x, H1, I1, r1, a, xs, ex, ha, hq⟩ => ?_
  subst ex
  obtain rfl : v = Value.ref a := r1
  obtain ⟨hlen, its, nn, rits, hea⟩ := I1.hok a _ ha
  have ht : s1.heap.IsList a its.toArray := ⟨_, hea, rfl, nn, rfl⟩
  refine ⟨"list", ht.typeIs, by decide, wpAny_pyIter_list ht ?_⟩
  have ksz : ∀ b o, s1.heap.get? b = some o → b ≠ s1.heap.objs.size := fun b o e => Nat.ne_of_lt (Heap.lt_size e)
  have kp : ∀ b o, s1.heap.get? b = some o → (s1.heap.push { cls := .type "list_iterator", data := .fields #[.ref a, .int 0 0] }).get? b = some o := fun b o e => Heap.get?_push_of_some _ e
  refine ⟨s1.heap.objs.size, H1, xs, fun j h => h.IsListIter s1.heap.objs.size a j ∧ h.get? a = some { cls := .type "list", data := .seq its.toArray nn }, rfl, I1.kept (t' := s1.toks) kp, .inr I1.sz, Nat.ne_of_gt I1.lt, fun y c hy => ?_, I1.hok.fresh (Nat.le_refl _), fun p hp => ?_,
    ⟨⟨_, Heap.get?_push_size _ rfl, rfl, rfl⟩, kp _ _ hea⟩, ⟨⟨"list_iterator", fun j h q => ?_, close_lst, by decide⟩, fun j h h' q hk => ?_, fun A' j x s2 Q' E' hA hx q hQ => ?_, fun A' s2 Q' E' hA q hE => ?_⟩, hq⟩
  · obtain ⟨v, o, ho, _⟩ := I1.cell y c hy
    exact ksz c o ho
  · exact ksz p.1 _ (I1.pin p hp).1
  · obtain ⟨⟨o, ho, hc, _⟩, _⟩ := q
    exact ⟨o, ho, hc⟩
  · obtain ⟨⟨o, ho, r⟩, q2⟩ := q
    exact ⟨⟨o, hk _ o (.inl rfl) ho, r⟩, hk _ _ (.inr (by rw [ha]; exact fun z => nomatch z)) q2⟩
  · obtain ⟨q1, q2⟩ := q
    obtain ⟨u, hu, ru⟩ := rits.get hx
    have hne : a ≠ s1.heap.objs.size := Nat.ne_of_lt (Heap.lt_size hea)
    exact lit_item q1 ⟨_, q2, rfl, nn, rfl⟩ (x := u) (by simpa using hu) fun h' q1' hs => hQ u h' s2.toks ru ⟨q1', (hs.2 a hne).trans q2⟩ fun b o hb eb => hs.extBut b o hb eb
  · obtain ⟨q1, q2⟩ := q
    have hnone : its.toArray[xs.length]? = none := by
      have e := rits.length
      have e2 : its[xs.length]? = none := List.getElem?_eq_none_iff.mpr (by omega)
      simpa using e2
    exact lit_end hA q1 ⟨_, q2, rfl, nn, rfl⟩ hnone fun e h' hS hk => hE e h' s2.toks hS fun b o hb eb => hk b o hb eb
/-- o.m(), m a generator method; the receiver's class is told by the reading -/
def tYMe (X : Cx) (m : Str) (k : Nat) (ta : TE) : TYx := fun σ H cont => ta σ H fun x H1 => ∃ (a C dx g : Addr) (fs : List (Str × V)) (sp : SpY) (xs : List V), x = .ref a ∧ H1 a = some (.ins C dx fs) ∧ fs.lookup m = none ∧ Cls X.K C ∧ Meth X.K C m g ∧
  YFn X.prog X.w X.K X.mg X.base k g sp ∧ sp [x] H1 xs (cont xs)
theorem py_me0 (he : PE X o ta) (hr : Room k X.A)
    (ht : eval (.Call (.Attribute o m apos) [] [] pos) X.env = (do
      let ov ← eval o X.env
      standAt apos.atName
      let (f, first) ← holding [ov] (getMethod ov m pl)
      callWith pos f first (backTo pos (starEach [] X.env)) (backToKw pos (keywordEach [] X.env))) := by rfl) : PY X k (.Call (.Attribute o m apos) [] [] pos) (tYMe X m k ta) := by
  refine ⟨fun pins s σ H cont I h => ?_⟩
  refine PySem.W.methodCall_KW (pl := pl) (thn (he.run pins s σ H _ I h) fun u s1 ⟨x, H1, I1, rx, a, C, dx, g, fs, sp, xs, ex, ea, l, c, hm, F, q⟩ => ?_) ht
  subst ex
  obtain rfl : u = Value.ref a := rx
  refine getmeth_ok I1 ea c hm l (PySem.W.callWith_K0 (first := [.ref a]) I1.kIn hm.kp (wpAny_call (codeAny_mono (F X.A X.stack s1 H1 [.ref a] [.ref a] xs (cont xs) hr I1.env0 (.cons rfl .nil) q) fun r s' hq => ?_)))
  match r, hq with
  | .ok (.ret u), hq => exact ⟨s1, H1, xs, I1, hq⟩
end
end BJ

/-! defs with one default, with a star, generator defs of one yield from, as they stand in the text -/
namespace BJ
open PySem PySem.Spec PyProof.Rows L2 Evl GenW StX
open PySem.W (Frag)
/-- def m(self, q=dv) -/
structure DefD (K : Frag) (x qual : Str) (st : Stmt) (f : Addr) (p q : Str) (dv : V) : Prop where
  ex : ∃ (oc : Value) (od : Option Addr) (T : Addr) (kV doc pm : Value) (an : Option Addr) (cdv ct : Value) (osl : Array (Option Value)) (o : Obj) (d : Value) (n : Nat),
    K.lookup f = some ⟨oc, od, .func (PySem.W.fnOf x qual (defArgs st) (defBody st) (defScope st) (.ref T) kV doc pm an cdv ct), osl⟩ ∧ PySem.W.codeIn K cdv qual = true ∧ K.lookup T = some o ∧ o.data = .seq #[d] n ∧ RelV dv d ∧
    (∀ u v z : Value, ∃ k, bindArgs (PySem.W.fnOf x qual (defArgs st) (defBody st) (defScope st) (.ref T) kV doc pm an cdv ct) ⟨[u, v], []⟩ = seqItems? (.ref T) >>= k ∧ k (some #[z]) = pure [(p, u), (q, v)]) ∧
    (∀ u v z : Value, ∃ k, bindArgs (PySem.W.fnOf x qual (defArgs st) (defBody st) (defScope st) (.ref T) kV doc pm an cdv ct) ⟨[u], [(q, v)]⟩ = seqItems? (.ref T) >>= k ∧ k (some #[z]) = pure [(p, u), (q, v)]) ∧
    (∀ u v : Value, ∃ k, bindArgs (PySem.W.fnOf x qual (defArgs st) (defBody st) (defScope st) (.ref T) kV doc pm an cdv ct) ⟨[u], []⟩ = seqItems? (.ref T) >>= k ∧ k (some #[v]) = pure [(p, u), (q, v)])
/-- def m(self, .., *pv) -/
structure DefS (K : Frag) (x qual : Str) (st : Stmt) (f : Addr) (ps : List Str) (pv : Str) : Prop where
  ex : ∃ (oc : Value) (od : Option Addr) (dV kV doc pm : Value) (an : Option Addr) (cdv ct : Value) (osl : Array (Option Value)),
    K.lookup f = some ⟨oc, od, .func (PySem.W.fnOf x qual (defArgs st) (defBody st) (defScope st) dV kV doc pm an cdv ct), osl⟩ ∧ PySem.W.codeIn K cdv qual = true ∧
    (∀ us rest : List Value, us.length = ps.length → bindArgs (PySem.W.fnOf x qual (defArgs st) (defBody st) (defScope st) dV kV doc pm an cdv ct) ⟨us ++ rest, []⟩ = (newTuple rest >>= fun t => pure (ps.zip us ++ [(pv, t)])))
section
variable {P : Program} {w : World} {K : Frag} {mg : Str → Option Value} {base : Heap} {x qual : Str} {st : Stmt} {f : Addr} {p q : Str} {dv : V} {N : List Str} {k : Nat} {sp : Sp}
/-- the three ways it is called -/
theorem DefD.ok (D : DefD K x qual st f p q dv) (S : FnScope N [p, q] (defScope st)) (len : ∀ vs H Q E, sp vs H Q E → vs.length = [p, q].length)
    (hbody : ∀ (cdv : Value) (A : Around) (outer : List Env) (s : Shared) (H : Hp) (vs : List V) (Q : VK) (E : XK),
      Room k (A.deeper (envOfC qual (defScope st) s.heap.objs.size f cdv)) → sp vs H Q E →
      ∃ t, PSs (cxOf (L2.CX P w) P w K mg base N qual (defScope st) f cdv A outer s H E) (defBody st) t ∧ t { nx := fun _ H' => Q .non H', rt := Q } (start N vs) H) :
    (CallX P w K mg base (k + 1) (.ref f) [] fun vs zs H Q E => vs.length = 2 ∧ zs.length = 0 ∧ sp vs H Q E) ∧
    (CallX P w K mg base (k + 1) (.ref f) [q] fun vs zs H Q E => vs.length = 1 ∧ zs.length = 1 ∧ sp (vs ++ zs) H Q E) ∧
    (CallX P w K mg base (k + 1) (.ref f) [] fun vs zs H Q E => vs.length = 1 ∧ zs.length = 0 ∧ sp (vs ++ [dv]) H Q E) := by
  obtain ⟨oc, od, T, kV, doc, pm, an, cdv, ct, osl, o, d, n, lk, hcd, lT, oT, rd, b2, b1k, b1⟩ := D.ex
  have F : FnOk P w K mg base (L2.CX P w) (k + 1) f _ [p, q] sp := fn_of lk hcd S len fun A outer s H vs Q E hr hsp => hbody cdv A outer s H vs Q E hr hsp
  refine ⟨(callX_of F (n := 2) (g := fun us ws => us) (gV := fun vs zs => vs) ⟨fun s us ws X hu hw => ?_, fun r _ => r⟩), (callX_of F (n := 1) (g := fun us ws => us ++ ws) (gV := fun vs zs => vs ++ zs) ⟨fun s us ws X hu hw => ?_, fun r r2 => r.append r2⟩),
    (callX_of F (n := 1) (g := fun us ws => us ++ [d]) (gV := fun vs zs => vs ++ [dv]) ⟨fun s us ws X hu hw => ?_, fun r _ => r.append (.cons rd .nil)⟩)⟩
  · match us, ws, hu, hw with
    | [u, v], [], _, _ =>
      obtain ⟨k, e1, e2⟩ := b2 u v d
      refine BindsTo.of_looks fun M => ?_
      show PySem.W.Looks M s.heap (bindArgs _ ⟨[u, v], []⟩) _
      rw [e1]
      exact looks_items X lT oT (.of_pure e2)
  · match us, ws, hu, hw with
    | [u], [v], _, _ =>
      obtain ⟨k, e1, e2⟩ := b1k u v d
      refine BindsTo.of_looks fun M => ?_
      show PySem.W.Looks M s.heap (bindArgs _ ⟨[u], [(q, v)]⟩) _
      rw [e1]
      exact looks_items X lT oT (.of_pure e2)
  · match us, ws, hu, hw with
    | [u], [], _, _ =>
      obtain ⟨k, e1, e2⟩ := b1 u d
      refine BindsTo.of_looks fun M => ?_
      show PySem.W.Looks M s.heap (bindArgs _ ⟨[u], []⟩) _
      rw [e1]
      exact looks_items X lT oT (.of_pure e2)
theorem DefS.ok {ps : List Str} {pv : Str} (D : DefS K x qual st f ps pv) (S : FnScope N (ps ++ [pv]) (defScope st))
    (hbody : ∀ (cdv : Value) (A : Around) (outer : List Env) (s : Shared) (H : Hp) (vs : List V) (Q : VK) (E : XK),
      Room k (A.deeper (envOfC qual (defScope st) s.heap.objs.size f cdv)) → sp vs H Q E →
      ∃ t, PSs (cxOf (L2.CX P w) P w K mg base N qual (defScope st) f cdv A outer s H E) (defBody st) t ∧ t { nx := fun _ H' => Q .non H', rt := Q } (start N vs) H) :
    BJ.CallO P w K mg base (k + 1) (.ref f) fun vs H Q E => ∃ ws rest, vs = ws ++ rest ∧ ws.length = ps.length ∧ rest.length ≤ sizeLine ∧ ∀ p, H p = Option.none → sp (ws ++ [V.ref p]) (upd H p (.tup rest)) Q E := by
  obtain ⟨oc, od, dV, kV, doc, pm, an, cdv, ct, osl, lk, hcd, hb⟩ := D.ex
  exact fn_star lk hcd S cxUp hb fun A outer s H vs Q E hr hsp => hbody cdv A outer s H vs Q E hr hsp
/-- a generator def whose body is one yield from -/
theorem DefAt.okY {e : Expr} {yp pos : Pos} {ps : List Str} {sp : SpY} (D : DefAt K x qual st f ps) (S : GScope N ps (defScope st)) (hi : ∀ n c, interactive (envOfC qual (defScope st) n f c) = false) (hbo : defBody st = [.Expr (.YieldFrom e yp) pos]) (len : ∀ vs H xs Q, sp vs H xs Q → vs.length = ps.length)
    (hbody : ∀ (cdv : Value) (A : Around) (outer : List Env) (s : Shared) (H : Hp) (vs xs : List V) (Q : Hp → Prop) (pn : List (Addr × Obj)), Room k (A.deeper (envOfC qual (defScope st) s.heap.objs.size f cdv)) → sp vs H xs Q →
      ∃ t, YfE (gcxOf P w K mg base N qual (defScope st) f cdv A outer s H (fun _ _ _ => False) pn).nox e t ∧ t (L2.start N vs) H fun ys H' => ys = xs ∧ Q H') : YFn P w K mg base (k + 1) f sp := by
  obtain ⟨fd, F, hb⟩ := D.fn
  obtain ⟨oc, od, kV, doc, pm, an, cdv, ct, osl, rfl, lk, hcd⟩ := F.ex
  exact yfn_of lk hbo hcd S (fun n => hi n cdv) hb len fun A outer s H vs xs Q pn hr hsp => hbody cdv A outer s H vs xs Q pn hr hsp
end
end BJ

/-! == of two instances of one class without an __eq__ of its own -/
namespace BJ
open PySem PySem.Spec PyProof.Rows PySem.SeqAt
open PySem.W (Frag)
section
variable {prog : Program} {w : World} {A : Around} {E : Value → Shared → Prop} {s : Shared} {K : PySem.W.Frag} {x y C : Addr} {ox oy : Obj} {od oe : Option Obj}
theorem rc_insSame (hu : A.units < cLine) (X : K.In s.heap) (I : PySem.W.InstAt s.heap x ox C od) (hm : PySem.W.mroIn K C (.type "object") = some true) (hs : PySem.W.findIn K (.ref C) "__eq__" = some (some (.builtin "object.__eq__"))) :
    RcAt A s (.ref x) (.ref x) true := fun prog w E Q h => by
  have one : wpAny (model prog w) A (tryCompare (.ref x) "__eq__" (.ref x)) (fun r s' => r = some (.bool true) ∧ s' = s) E s := by
    unfold tryCompare
    exact wpAny_bind (HN.ifBound_objEq X I hs (wpAny_call (codeAny_call_builtin F.cmp_object.eq.plain F.cmpEntry_eq (PySem.W.check_slot F.cmpKind_eq F.cmpSplit_eq (I.type.andThen (PySem.W.looks_mroIn X hm)) (F.cmpArgs_eq _ _) (objEq_entry_same (wpAny_pure ⟨rfl, rfl⟩))))))
  simp only [richCompare, cmpInfo_Eq, oneThing_ref]
  refine wpAny_holding (wpAny_bind (wpAny_cRoomFor hu ?_))
  refine wpAny_bind (I.type.here ?_)
  refine wpAny_bind (I.type.here ?_)
  split
  · rename_i q
    simp at q
  · refine wpAny_bind (wpAny_pure ?_)
    simp only [Bool.false_eq_true, if_false, Bool.not_false, if_true]
    refine wpAny_bind (m := tryCompare (.ref x) _ (.ref x)) (wpAny_mono one (fun r s1 z => ?_) fun _ _ e => e)
    obtain ⟨z1, z2⟩ := z
    subst z1
    subst z2
    exact wpAny_pure h
theorem rc_insOther (hu : A.units < cLine) (X : K.In s.heap) (I : PySem.W.InstAt s.heap x ox C od) (J : PySem.W.InstAt s.heap y oy C oe) (hxy : x ≠ y) (hm : PySem.W.mroIn K C (.type "object") = some true) (hs : PySem.W.findIn K (.ref C) "__eq__" = some (some (.builtin "object.__eq__"))) :
    RcAt A s (.ref x) (.ref y) false := fun prog w E Q h => by
  have nt : ox.cls ≠ .type "tuple" := by rw [I.cls]; exact fun z => nomatch z
  have nt2 : oy.cls ≠ .type "tuple" := by rw [J.cls]; exact fun z => nomatch z
  have one : wpAny (model prog w) A (tryCompare (.ref x) "__eq__" (.ref y)) (fun r s' => r = none ∧ s' = s) E s := by
    unfold tryCompare
    exact wpAny_bind (HN.ifBound_objEq X I hs (wpAny_call (codeAny_call_builtin F.cmp_object.eq.plain F.cmpEntry_eq (PySem.W.check_slot F.cmpKind_eq F.cmpSplit_eq (I.type.andThen (PySem.W.looks_mroIn X hm)) (F.cmpArgs_eq _ _) (objEq_entry_other hxy I.at_ J.at_ nt (wpAny_pure ⟨rfl, rfl⟩))))))
  have two : wpAny (model prog w) A (tryCompare (.ref y) "__eq__" (.ref x)) (fun r s' => r = none ∧ s' = s) E s := by
    unfold tryCompare
    exact wpAny_bind (HN.ifBound_objEq X J hs (wpAny_call (codeAny_call_builtin F.cmp_object.eq.plain F.cmpEntry_eq (PySem.W.check_slot F.cmpKind_eq F.cmpSplit_eq (J.type.andThen (PySem.W.looks_mroIn X hm)) (F.cmpArgs_eq _ _) (objEq_entry_other hxy.symm J.at_ I.at_ nt2 (wpAny_pure ⟨rfl, rfl⟩))))))
  simp only [richCompare, cmpInfo_Eq, oneThing_ref]
  refine wpAny_holding (wpAny_bind (wpAny_cRoomFor hu ?_))
  refine wpAny_bind (I.type.here ?_)
  refine wpAny_bind (J.type.here ?_)
  split
  · rename_i q
    simp at q
  · refine wpAny_bind (wpAny_pure ?_)
    simp only [Bool.false_eq_true, if_false, Bool.not_false, if_true]
    refine wpAny_bind (m := tryCompare (.ref x) _ (.ref y)) (wpAny_mono one (fun r s1 z => ?_) fun _ _ e => e)
    obtain ⟨z1, z2⟩ := z
    subst z1
    subst z2
    refine wpAny_bind (m := tryCompare (.ref y) _ (.ref x)) (wpAny_mono two (fun r s2 z => ?_) fun _ _ e => e)
    obtain ⟨z1, z2⟩ := z
    subst z1
    subst z2
    exact wpAny_bind (wpAny_rule (wpAny_bind (wpAny_isSame_ref_other hxy I.at_ J.at_ nt (wpAny_pure h))))
end
/-- what the text says of a class whose instances are equal only to themselves -/
structure IdEq (K : Frag) (C : Addr) : Prop where
  m : PySem.W.mroIn K C (.type "object") = some true
  e : PySem.W.findIn K (.ref C) "__eq__" = some (some (.builtin "object.__eq__"))
open L2 in
def rEqI (K : Frag) : R2 := fun x y H Q => ∃ a b C dx dy fs gs, x = .ref a ∧ y = .ref b ∧ H a = some (.ins C dx fs) ∧ H b = some (.ins C dy gs) ∧ IdEq K C ∧ Q (.bl (decide (a = b))) H
open L2 in
theorem op_eqI {X : Cx} (hu : X.A.units < cLine) : OpR X (compareOp .Eq) (rEqI X.K) := by
  rintro pins s σ H x y v u Q I rx ry ⟨a, b, C, dx, dy, fs, gs, rfl, rfl, ha, hb, ie, q⟩
  cases rx
  cases ry
  obtain ⟨mA, O, _⟩ := ins_get I.hok ha
  obtain ⟨od, J, _⟩ := O.look
  obtain ⟨mB, O2, _⟩ := ins_get I.hok hb
  obtain ⟨oe, J2, _⟩ := O2.look
  by_cases e : a = b
  · subst e
    refine rc_insSame hu I.kIn J ie.m ie.e _ _ _ _ ⟨.bl _, H, I, rfl, ?_⟩
    rw [decide_eq_true rfl] at q
    exact q
  · refine rc_insOther hu I.kIn J J2 e ie.m ie.e _ _ _ _ ⟨.bl _, H, I, rfl, ?_⟩
    rw [decide_eq_false e] at q
    exact q
end BJ

/-! sorted of ints, of texts, as functions; list(d) -/
namespace BJ
open PySem PySem.Spec PyProof.Rows L2 Evl
open PySem.W (Frag)
def srtI (ns : List Int) : List Int := ns.mergeSort (fun x y => decide (x ≤ y))
theorem uniq_int : ∀ {l m : List Int}, l.Perm m → l.Pairwise (· ≤ ·) → m.Pairwise (· ≤ ·) → l = m := fun h h1 h2 => List.Perm.eq_of_pairwise (le := (· ≤ ·)) (fun a b _ _ q1 q2 => Int.le_antisymm q1 q2) h1 h2 h
theorem srtI_is {ns ns' : List Int} (h : ns'.Perm ns) (hs : ns'.Pairwise (· ≤ ·)) : ns' = srtI ns := by
  have h2 : (srtI ns).Pairwise (· ≤ ·) := (List.pairwise_mergeSort (le := fun x y => decide (x ≤ y)) (fun a b c q1 q2 => by simp only [decide_eq_true_eq] at *; omega) (fun a b => by simp only [Bool.or_eq_true, decide_eq_true_eq]; omega) ns).imp (fun q => by simpa using q)
  exact uniq_int (h.trans (List.mergeSort_perm ns _).symm) hs h2
def leS (x y : Str) : Bool := decide (x.cps.toList ≤ y.cps.toList)
def srtS (xs : List Str) : List Str := xs.mergeSort leS
theorem rising_le {x y : Str} (h : (!PySem.Spec.ltCps y.cps.toList x.cps.toList) = true) : leS x y = true := by
  rw [ltCps_eq] at h
  simp only [leS, decide_eq_true_eq]
  simpa using h
theorem risingS_pw : ∀ {l : List Str} {x : Str}, risingS x l = true → (x :: l).Pairwise (fun x y => leS x y = true)
  | [], x, _ => List.pairwise_singleton _ _
  | y :: l, x, h => by
    simp only [risingS, Bool.and_eq_true] at h
    have h1 := rising_le h.1
    have ih := risingS_pw h.2
    refine List.pairwise_cons.mpr ⟨fun z hz => ?_, ih⟩
    rcases List.mem_cons.mp hz with e | hz
    · rw [e]
      exact h1
    · have h2 := (List.pairwise_cons.mp ih).1 z hz
      simp only [leS, decide_eq_true_eq] at *
      exact List.le_trans h1 h2
theorem sortedS_pw : ∀ {l : List Str}, sortedS l = true → l.Pairwise (fun x y => leS x y = true)
  | [], _ => .nil
  | x :: l, h => risingS_pw h
theorem srtS_is {xs ys : List Str} (h : ys.Perm xs) (hs : sortedS ys = true) : ys = srtS xs := by
  have h2 : (srtS xs).Pairwise (fun x y => leS x y = true) := List.pairwise_mergeSort (fun a b c q1 q2 => by simp only [leS, decide_eq_true_eq] at *; exact List.le_trans q1 q2) (fun a b => by simp only [leS, Bool.or_eq_true, decide_eq_true_eq]; exact List.le_total _ _) xs
  exact List.Perm.eq_of_pairwise (le := fun x y => leS x y = true) (fun a b _ _ q1 q2 => by
    simp only [leS, decide_eq_true_eq] at *
    exact str_ext (List.le_antisymm q1 q2)) (sortedS_pw hs) h2 (h.trans (List.mergeSort_perm xs _).symm)
/-- a ** b, a of any size -/
def CPowB (i j : Int) : Prop := 0 ≤ j ∧ Builtin.Int.intBits i * j ≤ 1000000
theorem op_powB {X : Cx} : OpR X (binaryOp .Pow) (rI CPowB fun i j => .int (i ^ j.toNat)) := opI fun _ _ _ _ _ _ _ hc q => pow_int hc.1 (by have := hc.2; omega) q
section
variable {K : Frag} {σ : L2.St} {H : Hp} {te : TE}
theorem el_sortI {ns : List Int} (h : EvL te σ H (ns.map V.int)) : EvL (tCB (rSortedI K) (tCons te tNil)) σ H ((srtI ns).map V.int) := fun H1 e Q q => h H1 e _ fun p H2 hp e2 hx => ⟨p, ns, rfl, sq_of hx, fun ns' q' hperm hs hq' => by
  rw [srtI_is hperm hs]
  exact q q' _ (fresh_back e2 hq') (e2.trans (Ex.new hq')) upd_same⟩
theorem el_sortS {xs : List Str} (h : EvL te σ H (xs.map V.str)) (hl : xs.length < 64) : EvL (tCB (rSortedS K) (tCons te tNil)) σ H ((srtS xs).map V.str) := fun H1 e Q q => h H1 e _ fun p H2 hp e2 hx => ⟨p, xs, rfl, sq_of hx, hl, fun ys q' hperm hs hq' => by
  rw [srtS_is hperm hs]
  exact q q' _ (fresh_back e2 hq') (e2.trans (Ex.new hq')) upd_same⟩
theorem el_keys {p : Addr} {kvs : List (Key × V)} (h : Ev te σ H (.ref p)) (hp : H p = some (.dK kvs)) : EvL (tCB rListD (tCons te tNil)) σ H (kvs.map fun kv => kV kv.1) := fun H1 e Q q =>
  h H1 e _ fun H2 e2 => ⟨p, kvs, rfl, (e.trans e2) _ _ hp, fun l hl => q l _ (fresh_back e2 hl) (e2.trans (Ex.new hl)) upd_same⟩
end
end BJ

/-! tuples by what is in them (slices and sums may be old objects); list(x) that tells its place; the part of a heap that stands -/
namespace BJ
open PySem PySem.Spec PyProof.Rows L2 Evl
open PySem.W (Frag)
def rListN (K : Frag) : List V → Hp → VK → Prop := fun xs H Q => ∃ p ys, xs = [.ref p] ∧ (SqL K H p ys ∨ SqT K H p ys) ∧ ∀ l, H l = none → sysModules < l → Q (.ref l) (upd H l (.lst ys))
theorem call_list_ofN {X : Cx} : CallR X (.type "list") (rListN X.K) := by
  intro pins s σ H xs us Q I r h
  obtain ⟨p, ys, rfl, hq, q⟩ := h
  obtain ⟨u, rfl, rx⟩ := vals1 r
  cases rx
  have fin : ∀ (its : List Value), Vals ys its → ys.length ≤ sizeLine → ∀ (h' : Heap) (c' : Nat), (∀ b o', s.heap.get? b = some o' → h'.get? b = some o') →
      h'.get? s.heap.objs.size = some { cls := .type "list", dict := none, data := .seq its.toArray c', slots := #[] } → EP X pins σ Q (.ref s.heap.objs.size) { s with heap := h' } := fun its r' hz h' c' kp e =>
    ⟨.ref s.heap.objs.size, _, I.laid (t' := s.toks) kp (Nat.le_refl _) (show ObjOk X.prog X.w _ h' _ (.lst ys) from ⟨hz, its, c', r', e⟩), rfl, q _ (I.hok.fresh (Nat.le_refl _)) I.big⟩
  rcases hq with hq | hq
  · obtain ⟨its, r', pl, hz⟩ := I.list hq
    have hlen := r'.length
    obtain ⟨o, ho, hc, n, hd⟩ := pl.isList
    exact call_list_seq p (.inl rfl) ho hc hd (fun h' c' kp e => fin its r' hz h' c' kp e) (by simp only [List.size_toArray] <;> omega)
  · obtain ⟨its, r', pl, hz⟩ := I.tuple hq
    have hlen := r'.length
    obtain ⟨o, ho, hc, n, hd⟩ := pl
    exact call_list_seq p (.inr rfl) ho hc hd (fun h' c' kp e => fin its r' hz h' c' kp e) (by simp only [List.size_toArray] <;> omega)
section
variable {K : Frag} {σ : L2.St} {H : Hp} {te t1 t2 : TE} {xs ys : List V}
/-- a tuple of xs, new or old -/
def EvS (K : Frag) (te : TE) (σ : L2.St) (H : Hp) (xs : List V) : Prop := ∀ H1, Ex H H1 → ∀ Q : VK, (∀ p H2, Ex H1 H2 → SqT K H2 p xs → Q (.ref p) H2) → te σ H1 Q
theorem es_var {i : Nat} {p : Addr} (h : σ[i]? = some (some (.ref p))) (hs : SqT K H p xs) : EvS K (tVar i) σ H xs := fun H1 e Q q => ⟨_, h, q p H1 (Ex.refl _) (ex_t e hs)⟩
theorem es_U (h : EvU te σ H xs) : EvS K te σ H xs := fun H1 e Q q => h H1 e _ fun p H2 _ e2 hp => q p H2 e2 (st_of hp)
theorem EvS.mono {H' : Hp} (h : EvS K te σ H xs) (e : Ex H H') : EvS K te σ H' xs := fun H1 e1 Q q => h H1 (e.trans e1) Q q
theorem cutV_all {lo hi : Option Int} (h : HT.sIx xs.length 0 lo = 0 ∧ HT.sIx xs.length xs.length hi = xs.length) : cutV xs lo hi = xs := by
  unfold cutV
  rw [h.1, h.2, List.drop_zero, Nat.sub_zero, List.take_length]
theorem es_sl {tl th : TO} {lo hi : Option Int} (h : EvS K te σ H xs) (h1 : EvO tl σ H lo) (h2 : EvO th σ H hi) : EvS K (tSl (rSlA K) te tl th) σ H (cutV xs lo hi) := fun H1 e Q q =>
  h H1 e _ fun p H2 e2 hp => h1 H2 (e.trans e2) _ fun H3 e3 => h2 H3 ((e.trans e2).trans e3) _ fun H4 e4 => ⟨p, xs, rfl, ex_t (e3.trans e4) hp,
    fun hw => by
      refine q p H4 ((e2.trans e3).trans e4) ?_
      rw [cutV_all hw]
      exact ex_t (e3.trans e4) hp,
    fun _ z hz => q z _ (((e2.trans e3).trans e4).trans (Ex.new hz)) (st_of upd_same)⟩
theorem es_cat (h1 : EvS K t1 σ H xs) (h2 : EvS K t2 σ H ys) (hl : xs.length + ys.length ≤ 1000000) : EvS K (tOp (rCatA K) t1 t2) σ H (xs ++ ys) := fun H1 e Q q =>
  h1 H1 e _ fun p H2 e2 hp => h2 H2 (e.trans e2) _ fun r H3 e3 hr => ⟨p, r, xs, ys, rfl, rfl, ex_t e3 hp, hr, (by rw [sizeLine_eq]; omega),
    fun hx => by
      subst hx
      exact q r H3 (e2.trans e3) hr,
    fun _ hy => by
      subst hy
      refine q p H3 (e2.trans e3) ?_
      rw [List.append_nil]
      exact ex_t e3 hp,
    fun _ _ z hz => q z _ ((e2.trans e3).trans (Ex.new hz)) (st_of upd_same)⟩
end
section
variable {K : Frag} {H : Hp} {d p : Addr} {kvs : List (Key × V)} {xs : List V}
theorem sqT_cut (hd : H d = some (.dK kvs)) (h : SqT K H p xs) : SqT K (cutH d H) p xs := by
  rcases h with (h | ⟨o, h⟩) | h
  · exact .inl (.inl (cut_at h (ne_of h hd (fun z => nomatch z)) (fun ps z => nomatch z)))
  · exact .inl (.inr ⟨o, cut_at h (ne_of h hd (fun z => nomatch z)) (fun ps z => nomatch z)⟩)
  · exact .inr h
theorem sqL_cut (hd : H d = some (.dK kvs)) (h : SqL K H p xs) : SqL K (cutH d H) p xs := by
  rcases h with (h | ⟨o, h⟩) | h
  · exact .inl (.inl (cut_at h (ne_of h hd (fun z => nomatch z)) (fun ps z => nomatch z)))
  · exact .inl (.inr ⟨o, cut_at h (ne_of h hd (fun z => nomatch z)) (fun ps z => nomatch z)⟩)
  · exact .inr h
end
end BJ

/-! lists compared that may hold anything: a list with itself, lists of different lengths, empty lists -/
namespace BJ
open PySem PySem.Spec PyProof.Rows L2 Evl
open PySem.W (Frag)
section
variable {X : Cx} {K : Frag}
def rNeSelf (K : Frag) : R2 := fun x y H Q => ∃ p xs, x = .ref p ∧ y = .ref p ∧ SqL K H p xs ∧ Q (.bl false) H
theorem op_neSelf (hK : X.K = K) (hu : X.A.units < cLine) : OpR X (compareOp .NotEq) (rNeSelf K) := by
  subst hK
  rintro pins s σ H x y v u Q I rx ry ⟨p, xs, rfl, rfl, hs, q⟩
  cases rx
  cases ry
  obtain ⟨us, r1, p1, _⟩ := I.list hs
  refine SeqAt.RcNeAt.lists (e := fun _ => true) p1.isList p1.isList rfl hu (fun j h1 h2 => SeqAt.EqAt.same _) X.prog X.w _ _ ?_
  refine ⟨.bl false, H, I, ?_, q⟩
  rw [show ((List.range us.toArray.size).all fun _ => true) = true from List.all_eq_true.mpr fun _ _ => rfl]
  rfl
/-- lists of different lengths, or both empty -/
def rEqLen (K : Frag) : R2 := fun x y H Q => ∃ p q xs ys, x = .ref p ∧ y = .ref q ∧ SqL K H p xs ∧ SqL K H q ys ∧ ((xs.length ≠ ys.length ∧ Q (.bl false) H) ∨ (xs = [] ∧ ys = [] ∧ Q (.bl true) H))
theorem op_eqLen (hK : X.K = K) (hu : X.A.units < cLine) : OpR X (compareOp .Eq) (rEqLen K) := by
  subst hK
  rintro pins s σ H x y v u Q I rx ry ⟨p, p2, xs, ys, rfl, rfl, hs, hs2, h⟩
  cases rx
  cases ry
  obtain ⟨us, r1, p1, _⟩ := I.list hs
  obtain ⟨ws, r2, p2, _⟩ := I.list hs2
  rcases h with ⟨hl, q⟩ | ⟨rfl, rfl, q⟩
  · refine SeqAt.RcAt.lists_lengths p1.isList p2.isList ?_ hu X.prog X.w _ _ ⟨.bl false, H, I, rfl, q⟩
    rw [List.size_toArray, List.size_toArray, ← r1.length, ← r2.length]
    simpa using hl
  · cases r1
    cases r2
    refine SeqAt.RcAt.lists (e := fun _ => true) p1.isList p2.isList rfl hu (fun j h1 h2 => absurd h1 (Nat.not_lt_zero j)) X.prog X.w _ _ ?_
    exact ⟨.bl true, H, I, rfl, q⟩
end
end BJ

/-! the dict of the modules is tracked from the law's call on: what is new is not it -/
namespace BJ
open PySem PySem.Spec PyProof.Rows L2 Evl
open PySem.W (Frag)
/-- the dict of the modules is known -/
def Tr (H : Hp) : Prop := ∃ o, H sysModules = some (.frz o (.ext fun _ => True))
theorem Tr.ex {H H' : Hp} (t : Tr H) (e : Ex H H') : Tr H' := t.imp fun _ h => e _ _ h
theorem Tr.ne {H : Hp} (t : Tr H) {p : Addr} (h : H p = none) : sysModules ≠ p := fun z => by
  obtain ⟨o, q⟩ := t
  rw [z, h] at q
  cases q
theorem Tr.but {H H' : Hp} {d : Addr} {kvs : List (Key × V)} (t : Tr H) (hd : H d = some (.dK kvs)) (b : SameBut d H H') : Tr H' := by
  obtain ⟨o, h⟩ := t
  exact ⟨o, b _ _ (ne_of h hd fun z => nomatch z) h⟩
theorem Tr.cut {H : Hp} {d : Addr} {kvs : List (Key × V)} (t : Tr H) (hd : H d = some (.dK kvs)) : Tr (cutH d H) := by
  obtain ⟨o, h⟩ := t
  exact ⟨o, cut_at h (ne_of h hd fun z => nomatch z) fun ps z => nomatch z⟩
theorem lawG2 {P : Program} {w : World} {K : Frag} {mg mb : Str → Option Value} {k : Nat} {fa a : Addr} {sp : Sp} {s₁ : Shared} {vs : List Value} {ns : List Int}
    (KX : K.In s₁.heap) (k1 : K.lookup sysModules = none) (hm : ∃ mm, s₁.heap.Ns sysModules mm) (hns : s₁.heap.Ns mainGlobals mg) (hb : s₁.heap.Ns builtinsNs mb) (hbb : ∀ x : Str, x ≠ "__name__" → mb x = bootBuiltins x) (hlim : s₁.heap.NoLimit) (hg : s₁.gens = #[])
    (ha : s₁.heap.get? a = some { cls := .type "list", data := .seq vs.toArray }) (hi : IntsAre vs ns) (hl : ns.length ≤ sizeLine) (hr : Room k callerA)
    (F : ∀ base : Heap, K.In base → base.Ns mainGlobals mg → CallP P w K mg base k (.ref fa) sp)
    (hsp : ∀ H : Hp, Tr H → Scr K H a (ns.map V.int) → sp [.ref a] H (fun v _ => v = .bl true) fun _ _ _ => False) :
    codeAny (model P w) callerA (.call (.ref fa) ⟨[.ref a], []⟩) (fun r s' => r = .ok (.ret (.bool true)) ∧ OldK s₁.heap s'.heap ∧ s'.os = s₁.os ∧ AllBare s'.gens) s₁ := by
  have rv := vals_ints hi
  obtain ⟨mm, om, em, pm, gm, dm, _⟩ := hm
  have ea : a ≠ sysModules := fun z => by
    rw [← z, ha] at gm
    cases gm
    cases dm
  -- what is tracked: the modules' dict; the script, if it is no object of the top
  have core : ∀ H : Hp, (∀ b u, H b = some u → (b = sysModules ∨ (b = a ∧ K.lookup a = none)) ∧ ∃ o x, u = .frz o x) → HOk P w H s₁.heap → Tr H → Scr K H a (ns.map V.int) →
      codeAny (model P w) callerA (.call (.ref fa) ⟨[.ref a], []⟩) (fun r s' => r = .ok (.ret (.bool true)) ∧ OldK s₁.heap s'.heap ∧ s'.os = s₁.os ∧ AllBare s'.gens) s₁ := by
    intro H hA hok hT hS
    have seen : ∀ {b : Addr} {o : Obj}, s₁.heap.get? b = some o → H b = none → (hidT s₁.heap H).get? b = some o := fun e n => hidT_get e n
    have spaces : ∀ {b : Addr} {m : Str → Option Value}, b ≠ sysModules → s₁.heap.Ns b m → (hidT s₁.heap H).Ns b m := by
      rintro b m hb ⟨o, es, ep, e, d, r⟩
      refine ⟨o, es, ep, seen e ?_, d, r⟩
      cases q : H b with
      | none => rfl
      | some u =>
        obtain ⟨z | ⟨rfl, _⟩, _⟩ := hA b u q
        · exact absurd z hb
        · rw [ha] at e
          cases e
          cases d
    have inK : K.In (hidT s₁.heap H) := by
      intro b o e
      refine seen (KX b o e) ?_
      cases q : H b with
      | none => rfl
      | some u =>
        obtain ⟨z | ⟨rfl, z⟩, _⟩ := hA b u q
        · rw [z, k1] at e
          cases e
        · rw [z] at e
          cases e
    obtain ⟨mc, l1, l2⟩ := id hlim
    have facts : Mod K mg (hidT s₁.heap H) := ⟨inK, spaces (by decide) hns, ⟨mb, spaces (by decide) hb, hbb⟩, ⟨mc, spaces (by decide) l1, l2⟩⟩
    have start : Env0 P w K mg (hidT s₁.heap H) callerA [] s₁ H :=
      ⟨rfl, facts, fun b o e => of_hidT e, Nat.le_of_eq (hidT_size _ _), trivial, (fun b hb => absurd (show b ∈ ([] : List Addr) from hb) (by simp)), hok, AllBare.of_eq hg⟩
    refine codeAny_mono (F _ inK (spaces (by decide) hns) callerA [] s₁ H [.ref a] [] [.ref a] [] _ _ hr rfl start (.cons rfl .nil) .nil ⟨rfl, hsp H hT hS⟩) ?_
    intro r s' h
    match r, h with
    | .error e, ⟨_, _, _, _, _, _, _, _, _, _, _, _, z⟩ => exact z.elim
    | .ok (.ret u), ⟨v, H', os, bare, un, hok', r', q⟩ =>
      obtain rfl : v = .bl true := q
      obtain rfl : u = Value.bool true := r'
      refine ⟨rfl, OldK.of_keep fun b o e => ?_, os, bare⟩
      cases q : H b with
      | none => exact un.keep b o e q (fun z => nomatch (show b ∈ ([] : List Addr) from z)) (fun z => nomatch z)
      | some u =>
        obtain ⟨_, ob, x, rfl⟩ := hA b u q
        have e1 := (hok b _ q).1
        have e2 := (hok' b _ (un.frzs b ob _ q)).1
        rw [e] at e1
        cases e1
        exact e2
  have okM : ∀ H : Hp, H sysModules = some (.frz om (.ext fun _ => True)) → ObjOk P w H s₁.heap sysModules (.frz om (.ext fun _ => True)) := fun H _ => ⟨gm, trivial, ⟨_, gm⟩, fun _ _ _ _ => trivial⟩
  cases hk : K.lookup a with
  | some o =>
    have e := KX a o hk
    rw [ha] at e
    cases e
    refine core (fun b => if b = sysModules then some (.frz om (.ext fun _ => True)) else none) (fun b u z => ?_) (fun b u z => ?_) ⟨om, if_pos rfl⟩ (.inr ⟨vs, 0, hk, rv, by rw [List.length_map]; exact hl⟩)
    · by_cases h : b = sysModules
      · cases (if_pos h).symm.trans z
        exact ⟨.inl h, _, _, rfl⟩
      · exact nomatch (if_neg h).symm.trans z
    · by_cases h : b = sysModules
      · cases (if_pos h).symm.trans z
        subst h
        exact okM _ (if_pos rfl)
      · exact nomatch (if_neg h).symm.trans z
  | none =>
    have cases3 : ∀ b u, (if b = a then some (HO.frz { cls := .type "list", data := .seq vs.toArray } (.lst (ns.map V.int))) else if b = sysModules then some (.frz om (.ext fun _ => True)) else none) = some u →
        (b = a ∧ u = .frz { cls := .type "list", data := .seq vs.toArray } (.lst (ns.map V.int))) ∨ (b = sysModules ∧ u = .frz om (.ext fun _ => True)) := fun b u z => by
      split at z
      · rename_i h
        cases z
        exact .inl ⟨h, rfl⟩
      · split at z
        · rename_i h
          cases z
          exact .inr ⟨h, rfl⟩
        · cases z
    refine core (fun b => if b = a then some (.frz { cls := .type "list", data := .seq vs.toArray } (.lst (ns.map V.int))) else if b = sysModules then some (.frz om (.ext fun _ => True)) else none) (fun b u z => ?_) (fun b u z => ?_)
      ⟨om, (if_neg fun z => ea z.symm).trans (if_pos rfl)⟩ (.inl (.inr ⟨_, if_pos rfl⟩))
    · rcases cases3 b u z with ⟨h, rfl⟩ | ⟨h, rfl⟩
      · exact ⟨.inr ⟨h, hk⟩, _, _, rfl⟩
      · exact ⟨.inl h, _, _, rfl⟩
    · rcases cases3 b u z with ⟨h, rfl⟩ | ⟨h, rfl⟩
      · subst h
        exact ⟨ha, by rw [List.length_map]; exact hl, vs, _, rv, ha⟩
      · subst h
        exact ⟨gm, trivial, ⟨_, gm⟩, fun _ _ _ _ => trivial⟩
open PySem.W in
theorem walkG2 {l : OpenLaw} {n k : Nat} {q : Program} {loose : List Str} {XP : (Str → Option Value) → Heap → Prop} {YP : World → Heap → Prop} {d : DefRec} {K : Params → Frag} {sp : World → Sp}
    (hn : l.most = some n) (hn2 : n ≤ sizeLine) (hdf : d.params.defaults = []) (hr : Room k callerA) (hY : ∀ (w : World) (h : Heap), YP w h → (K w.params).In h) (hi : importsNone q = true)
    (hk1 : ∀ w : World, (K w.params).lookup sysModules = none)
    (F : ∀ (w : World) (mg : Str → Option Value) (fa : Addr) (h : Heap), (K w.params).In h → h.Ns mainGlobals mg → mg d.name = some (.ref fa) →
      ∀ base : Heap, (K w.params).In base → base.Ns mainGlobals mg → CallP l.prog w (K w.params) mg base k (.ref fa) (sp w))
    (hsp : ∀ (w : World) (H : Hp) (a : Addr) (ns : List Int), Tr H → ns.length ≤ n → (∀ z ∈ ns, Builtin.Int.intBits z ≤ 1048576) → Scr (K w.params) H a (ns.map V.int) → sp w [.ref a] H (fun v _ => v = .bl true) fun _ _ _ => False) :
    WalkO q loose XP YP l.row.toRowW d [] (fun f vs => PySem.call f vs) := by
  refine Att.attach_callB hn hdf fun w s₀ s₁ mg mb fa o pm cd doc a vs ns G Y ho hd hcd hmg hobj hints hlen hbits hg => ?_
  have KX := hY w _ Y
  obtain ⟨mm, hmm, _⟩ := (G.T.seer hi).mods
  exact lawG2 KX (hk1 w) ⟨mm, hmm⟩ G.T.g G.T.b G.T.builtins G.T.nolimit hg hobj hints (Nat.le_trans hlen hn2) hr (F w mg fa _ KX G.T.g hmg) fun H hT hS => hsp w H a ns hT hlen hbits hS
end BJ

/-! what evaluates: chained comparisons, fields -/
namespace BJ
open PySem PySem.Spec PyProof.Rows L2 Evl
open PySem.W (Frag)
section
variable {σ : L2.St} {H : Hp} {x y z v : V} {r r' : R2} {ta tb tc te : TE} {K : Frag}
theorem ev_chain {k : Bool} (ha : Ev ta σ H x) (hb : Ev tb σ H y) (h1 : RV r x y H (.bl k)) (h2 : k = true → Ev tc σ H z ∧ RV r' y z H v) (h3 : k = false → v = .bl false) : Ev (tChain r r' ta tb tc) σ H v := fun H1 e Q q =>
  ha H1 e _ fun H2 e2 => hb H2 (e.trans e2) _ fun H3 e3 => h1 H3 ((e.trans e2).trans e3) _ fun H4 e4 => ⟨k, rfl, by
    have e14 := (e2.trans e3).trans e4
    cases k with
    | true =>
      rw [if_pos rfl]
      exact (h2 rfl).1 H4 (e.trans e14) _ fun H5 e5 => (h2 rfl).2 H5 ((e.trans e14).trans e5) _ fun H6 e6 => q H6 ((e14.trans e5).trans e6)
    | false =>
      rw [if_neg Bool.false_ne_true]
      rw [h3 rfl] at q
      exact q H4 e14⟩
theorem ev_fld {f : Str} {p C dx : Addr} {fs : List (Str × V)} (he : Ev te σ H (.ref p)) (hp : H p = some (.ins C dx fs)) (c : Cls K C) (n : NoAttr K C f) (l : fs.lookup f = some v) : Ev (tFld K te f) σ H v := fun H1 e Q q =>
  he H1 e _ fun H2 e2 => ⟨p, C, dx, fs, v, rfl, (e.trans e2) _ _ hp, c, n, l, q H2 e2⟩
end
section
variable {X : Cx} {K : Frag}
def rTupOf (K : Frag) : List V → Hp → VK → Prop := fun xs H Q => ∃ p ys, xs = [.ref p] ∧ ((SqL K H p ys ∧ ∀ l, H l = none → Q (.ref l) (upd H l (.tup ys))) ∨ (SqT K H p ys ∧ Q (.ref p) H))
theorem pi_list' {tg l : Expr} {tl : TE} (hK : X.K = K) (hl : PE X l tl) : PI X tg l (iList K tl) := by subst hK; exact pi_list hl
theorem pi_tup' {tg l : Expr} {tl : TE} (hK : X.K = K) (hl : PE X l tl) : PI X tg l (iTup K tl) := by subst hK; exact pi_tup hl
theorem call_len_seq' (hK : X.K = K) : CallR X (.builtin "len") (rLenS K) := by subst hK; exact call_len_seq
theorem call_tuple_of' (hK : X.K = K) : CallR X (.type "tuple") (rTupOf K) := by subst hK; exact call_tuple_of
theorem call_list_of' (hK : X.K = K) : CallR X (.type "list") (rListS K) := by subst hK; exact call_list_of
end
end BJ

/-! calls of methods within try: the reading names the context ahead of the try -/
namespace BJ
open PySem PySem.Spec PyProof.Rows L2 Evl
open PySem.W (Frag)
structure SameCx (X X0 : Cx) : Prop where
  p : X.prog = X0.prog
  w : X.w = X0.w
  k : X.K = X0.K
  m : X.mg = X0.mg
  b : X.base = X0.base
  a : X.A = X0.A
section
variable {X X0 : Cx} {o e : Expr} {es : List Expr} {kws : List Keyword} {m : Str} {apos pos : Pos} {pl : Sem Bool} {W : WX} {ta : TE} {t tk : TA} {ks : List Str}
theorem tMe_same (h : SameCx X X0) : tMe X0 m W ta t tk ks = tMe X m W ta t tk ks := by
  unfold tMe
  rw [h.p, h.w, h.k, h.m, h.b, h.a]
theorem tPr_same {f : Str} (h : SameCx X X0) : tPr X0 f ta = tPr X f ta := by
  unfold tPr
  rw [h.p, h.w, h.k, h.m, h.b, h.a]
theorem pe_pr' {f : Str} (sc : SameCx X X0) (he : PE X o ta) (hab : attributeBase o f X.env (eval o X.env) = eval o X.env := by rfl) : PE X (.Attribute o f pos) (tPr X0 f ta) := by
  rw [tPr_same sc]
  exact pe_pr he hab
theorem pe_me' (sc : SameCx X X0) (he : PE X o ta) (tkW : Takes X W) (ha : PA X (e :: es) t) (hkw : PK X kws tk)
    (hall : (backToKw pos (keywordEach kws X.env)).all (·.1.isSome) = true := by rfl) (hks : (backToKw pos (keywordEach kws X.env)).filterMap (·.1) = ks := by rfl)
    (hst : starEach (e :: es) X.env = (false, eval e X.env) :: starEach es X.env := by rfl)
    (hpl : ((backTo pos (starEach (e :: es) X.env)).any (·.1) || (backToKw pos (keywordEach kws X.env)).any (·.1.isNone)) = false := by rfl)
    (ht : eval (.Call (.Attribute o m apos) (e :: es) kws pos) X.env = (do
      let ov ← eval o X.env
      standAt apos.atName
      let (f, first) ← holding [ov] (getMethod ov m pl)
      callWith pos f first (backTo pos (starEach (e :: es) X.env)) (backToKw pos (keywordEach kws X.env))) := by rfl) :
    PE X (.Call (.Attribute o m apos) (e :: es) kws pos) (tMe X0 m W ta t tk ks) := by
  rw [tMe_same sc]
  exact pe_me he tkW ha hkw hall hks hst hpl ht
theorem pe_me0' (sc : SameCx X X0) (he : PE X o ta) (tkW : Takes X W) (hkw : PK X kws tk)
    (hall : (backToKw pos (keywordEach kws X.env)).all (·.1.isSome) = true := by rfl) (hks : (backToKw pos (keywordEach kws X.env)).filterMap (·.1) = ks := by rfl)
    (hpl : ((backTo pos (starEach [] X.env)).any (·.1) || (backToKw pos (keywordEach kws X.env)).any (·.1.isNone)) = false := by rfl)
    (ht : eval (.Call (.Attribute o m apos) [] kws pos) X.env = (do
      let ov ← eval o X.env
      standAt apos.atName
      let (f, first) ← holding [ov] (getMethod ov m pl)
      callWith pos f first (backTo pos (starEach [] X.env)) (backToKw pos (keywordEach kws X.env))) := by rfl) :
    PE X (.Call (.Attribute o m apos) [] kws pos) (tMe X0 m W ta tNil tk ks) := by
  rw [tMe_same sc]
  exact pe_me0 he tkW hkw hall hks hpl ht
end
end BJ

/-! some places change, all else stands -/
namespace BJ
open PySem PySem.Spec PyProof.Rows L2 Evl
open PySem.W (Frag)
/-- what stands in H stands in H', the places L aside -/
def ButL (L : List Addr) (H H' : Hp) : Prop := ∀ p o, p ∉ L → H p = some o → H' p = some o
section
variable {L L' : List Addr} {H H1 H2 : Hp}
theorem ButL.refl : ButL L H H := fun _ _ _ h => h
theorem ButL.trans (a : ButL L H H1) (b : ButL L H1 H2) : ButL L H H2 := fun p o n h => b p o n (a p o n h)
theorem ButL.ex (e : Ex H H1) : ButL L H H1 := fun p o _ h => e p o h
theorem ButL.sb {d : Addr} (b : SameBut d H H1) (hd : d ∈ L) : ButL L H H1 := fun p o n h => b p o (fun z => n (z ▸ hd)) h
theorem ButL.upd {a : Addr} {o : HO} (ha : a ∈ L) : ButL L H (upd H a o) := fun p u n h => by
  have hp : p ≠ a := fun z => n (by rw [z]; exact ha)
  rw [upd_ne hp]
  exact h
theorem ButL.mono (b : ButL L H H1) (h : ∀ p ∈ L, p ∈ L') : ButL L' H H1 := fun p o n q => b p o (fun z => n (h p z)) q
/-- of the places in L only d was there -/
theorem ButL.only {d : Addr} (b : ButL L H H1) (h : ∀ p ∈ L, p = d ∨ H p = none) : SameBut d H H1 := fun p o n q => b p o (fun z => by
  rcases h p z with e | e
  · exact n e
  · rw [e] at q; cases q) q
theorem ButL.sqT {K : Frag} {p : Addr} {xs : List V} (b : ButL L H H1) (hL : ∀ q ∈ L, (∃ kvs, H q = some (.dK kvs)) ∨ (∃ ys, H q = some (.lst ys)) ∨ H q = none) (h : SqT K H p xs) : SqT K H1 p xs := by
  have off : ∀ {o}, H p = some o → (∀ kvs, o ≠ .dK kvs) → (∀ ys, o ≠ .lst ys) → p ∉ L := fun ho h1 h2 hm => by
    rcases hL p hm with ⟨kvs, q⟩ | ⟨ys, q⟩ | q
    · rw [ho] at q; cases q; exact h1 _ rfl
    · rw [ho] at q; cases q; exact h2 _ rfl
    · rw [ho] at q; cases q
  rcases h with (h | ⟨o, h⟩) | h
  · exact .inl (.inl (b p _ (off h (fun _ z => nomatch z) (fun _ z => nomatch z)) h))
  · exact .inl (.inr ⟨o, b p _ (off h (fun _ z => nomatch z) (fun _ z => nomatch z)) h⟩)
  · exact .inr h
end
end BJ

/-! generators of any body: yields, loops, statements; they raise nothing -/
namespace BJ
open PySem PySem.Spec PyProof.Rows L2 Evl GenW
open PySem.W (Frag)
/-- what a generator's context is, ahead of its run: ws are the consumer's objects, go at a its own -/
structure YX (X : Cx) (ws : List Addr) (a : Addr) (go : Obj) : Prop where
  ex : X.ex = []
  gen : (a, go) ∈ X.pn
  pn : ∀ p ∈ X.pn, p.1 ∉ ws
  young : ∀ b ∈ ws, X.s_0.heap.objs.size ≤ b
  none : ∀ e s, X.xe e s → False
  calm : X.calm = true
/-- it runs, woken at s₀; ip: its own iterators -/
structure RY (X : Cx) (ws : List Addr) (ip : List (Addr × Obj)) (s₀ s : Shared) (σ : L2.St) (H : Hp) : Prop where
  inv : Inv X (pinsAt ws s₀.heap ++ ip) σ H s
  there : ∀ b ∈ ws, ∃ o, s₀.heap.get? b = some o ∧ ∀ v, o.data ≠ .cell v
  off : ∀ p ∈ ip, p.1 ∉ ws
section
variable {X : Cx} {ws : List Addr} {a : Addr} {go : Obj} {ip : List (Addr × Obj)} {s₀ s t : Shared} {σ : L2.St} {H : Hp}
theorem RY.ws0 (r : RY X ws ip s₀ s σ H) : ∀ b ∈ ws, H b = none ∧ b ≠ X.env.locals ∧ b ∉ X.fs := fun b hb => by
  obtain ⟨o, e, _⟩ := r.there b hb
  obtain ⟨_, h2, h3, h4, _⟩ := r.inv.pin (b, o) (List.mem_append_right _ (List.mem_append_left _ (mem_pinsAt hb e)))
  exact ⟨h2, h3, h4⟩
theorem RY.same (r : RY X ws ip s₀ s σ H) : ∀ b ∈ ws, ∀ o, s₀.heap.get? b = some o → s.heap.get? b = some o := fun b hb o e =>
  (r.inv.pin (b, o) (List.mem_append_right _ (List.mem_append_left _ (mem_pinsAt hb e)))).1
theorem RY.cn (Y : YX X ws a go) (r : RY X ws ip s₀ s σ H) : Cn X.prog X.w X.outer X.H_0 H X.s_0 ws a go s := by
  have hb := r.inv.base
  rw [Y.ex] at hb
  exact ⟨r.inv.os, r.inv.bare, hb, r.inv.hok, r.inv.nolimit, (r.inv.pin (a, go) (List.mem_append_left _ Y.gen)).1, fun b hb => (r.ws0 b hb).1⟩
/-- woken again -/
theorem RY.woken (Y : YX X ws a go) (r : RY X ws ip s₀ s σ H) (z : Doze ws s t) : RY X ws ip t t σ H := by
  have w0 := r.ws0
  have I0 : Inv X ip σ H s := r.inv.pins_of fun p hp => r.inv.pin p (List.mem_append_right _ (List.mem_append_right _ hp))
  have cellW : ∀ x c, X.env.cells.lookup x = some c → c ∉ ws := fun x c e hm => by
    obtain ⟨o, e1, d⟩ := r.there c hm
    obtain ⟨v, o2, e2, d2⟩ := r.inv.cell x c e
    rw [r.same c hm o e1] at e2
    cases e2
    exact d _ d2
  obtain ⟨hh, g, dd, tk, o⟩ := t
  have ho : o = s.os := z.os
  subst ho
  have J : Inv X ip σ H { s with heap := hh, gens := g, drawn := dd, toks := tk } := by
    refine I0.step (ch := ws) (fun b hb => ⟨.inr (Y.young b hb), (w0 b hb).2.1, fun x c e h => cellW x c e (h ▸ hb), fun p hp h => ?_⟩) (fun b u _ _ hc e _ => z.keep b u hc e) (fun b u _ _ hc e _ => ⟨u.slots, z.keep b u hc e⟩)
      (fun _ _ _ _ n => n) (fun b u hc e => ⟨u, z.keep b u hc e⟩) (fun _ _ q => q) (fun _ _ _ q => q) (fun b ps q => ⟨#[], by rw [q]; simp⟩) (fun m hm => ?_) (fun b u q => ?_) z.bare
    · rcases List.mem_append.mp hp with h2 | h2
      · exact Y.pn p h2 (h ▸ hb)
      · exact r.off p h2 (h ▸ hb)
    · obtain ⟨u, es, ep, hu, rr⟩ := hm
      exact ⟨u, es, ep, z.keep _ u (fun hb => (w0 _ hb).2.1 rfl) hu, rr⟩
    · refine (I0.hok b u q).stay (fun c v hc y => z.keep c v (fun hb => ?_) y) (fun _ y => y) fun _ _ y => y
      have n := (w0 c hb).1
      rcases hc with h | h
      · rw [h, q] at n; cases n
      · rw [h] at n; cases n
  refine ⟨J.pins_of fun p hp => ?_, z.there, r.off⟩
  rcases List.mem_append.mp hp with h | h
  · obtain ⟨hb, e⟩ := of_pinsAt h
    obtain ⟨q1, q2, q3⟩ := w0 p.1 hb
    obtain ⟨o2, e2, d2⟩ := z.there p.1 hb
    refine ⟨e, q1, q2, q3, ?_⟩
    have e3 : hh.get? p.1 = some p.2 := e
    have e4 : hh.get? p.1 = some o2 := e2
    rw [e3] at e4
    cases e4
    exact d2
  · exact J.pin p (List.mem_append_right _ h)
end
/-- what is wanted behind a statement: by how many items are out -/
structure YEnds where
  nx : Nat → L2.St → Hp → Prop
  bk : Nat → L2.St → Hp → Prop := fun _ _ _ => False
  ct : Nat → L2.St → Hp → Prop := fun _ _ _ => False
def YEnds.at (D : YEnds) (i : Nat) : Ends := { nx := D.nx i, rt := fun _ _ => False, bk := D.bk i, ct := D.ct i }
/-- reading: what is handed out in all, what is wanted of the heap at each item -/
abbrev TYs := List V → (Hp → Prop) → YEnds → Nat → L2.St → Hp → Prop
def YSP (X : Cx) (ws : List Addr) (ip : List (Addr × Obj)) (s₀ : Shared) (D : YEnds) (i : Nat) (f : Flow) (s : Shared) : Prop :=
  match f with
  | .next => ∃ σ H, RY X ws ip s₀ s σ H ∧ D.nx i σ H
  | .brk => ∃ σ H, RY X ws ip s₀ s σ H ∧ D.bk i σ H
  | .cont => ∃ σ H, RY X ws ip s₀ s σ H ∧ D.ct i σ H
  | .ret _ => False
/-- where its code stands -/
structure YC (X : Cx) (A : Around) (c : Code) (fs : List Frame) (gd : Bool → Bool) : Prop where
  (over : A.over c fs = X.A) (split : splitAtGen fs = none) (guard : fs.any Frame.guarded = false) (gd : gd false = false)
abbrev YPr (X : Cx) (ws : List Addr) (a : Addr) (go : Obj) (xs : List V) (Q : Hp → Prop) : Protocol := YItm X.prog X.w X.outer X.H_0 X.s_0 ws a go xs Q
abbrev YOk (X : Cx) (ws : List Addr) (ip : List (Addr × Obj)) (a : Addr) (go : Obj) (xs : List V) (Q : Hp → Prop) (A : Around) (R : GenEnd) (c : Code) (fs : List Frame) (K : Flow → Sem PySem.Fin) (D : YEnds) : Prop :=
  ∀ (n i : Nat) (s₀ s : Shared) (f : Flow), n + i = xs.length → YSP X ws ip s₀ D i f s → Seg (model X.prog X.w) A R (YPr X ws a go xs Q) n s₀ c (K f) fs s
structure YS (X : Cx) (st : Stmt) (t : TYs) : Prop where
  run : ∀ (ws : List Addr) (ip : List (Addr × Obj)) (a : Addr) (go : Obj) (xs : List V) (Q : Hp → Prop) (A : Around) (R : GenEnd) (n i : Nat) (s₀ : Shared) (c : Code) (fs : List Frame) (K : Flow → Sem PySem.Fin) (J : Value → Sem PySem.Fin) (gd : Bool → Bool) (lv : List Value → List Value) (s : Shared) (σ : L2.St) (H : Hp) (D : YEnds),
    YX X ws a go → YC X A c fs gd → n + i = xs.length → YOk X ws ip a go xs Q A R c fs K D → RY X ws ip s₀ s σ H → t xs Q D i σ H →
    Seg (model X.prog X.w) A R (YPr X ws a go xs Q) n s₀ c ((exec st X.env).wrap K J gd lv) fs s
structure YSs (X : Cx) (st : List Stmt) (t : TYs) : Prop where
  run : ∀ (ws : List Addr) (ip : List (Addr × Obj)) (a : Addr) (go : Obj) (xs : List V) (Q : Hp → Prop) (A : Around) (R : GenEnd) (n i : Nat) (s₀ : Shared) (c : Code) (fs : List Frame) (K : Flow → Sem PySem.Fin) (J : Value → Sem PySem.Fin) (gd : Bool → Bool) (lv : List Value → List Value) (s : Shared) (σ : L2.St) (H : Hp) (D : YEnds),
    YX X ws a go → YC X A c fs gd → n + i = xs.length → YOk X ws ip a go xs Q A R c fs K D → RY X ws ip s₀ s σ H → t xs Q D i σ H →
    Seg (model X.prog X.w) A R (YPr X ws a go xs Q) n s₀ c ((execs st X.env).wrap K J gd lv) fs s
section
variable {X : Cx} {rest : List Stmt} {st : Stmt}
def tYPs (t : TS) : TYs := fun _ _ D i σ H => t (D.at i) σ H
theorem ysp_of {ws : List Addr} {ip : List (Addr × Obj)} {s₀ s : Shared} {D : YEnds} {i : Nat} {f : Flow} (ht : ∀ b ∈ ws, ∃ o, s₀.heap.get? b = some o ∧ ∀ v, o.data ≠ .cell v) (ho : ∀ p ∈ ip, p.1 ∉ ws) (h : SP X (pinsAt ws s₀.heap ++ ip) (D.at i) f s) : YSP X ws ip s₀ D i f s := by
  cases f with
  | next => obtain ⟨σ, H, I, q⟩ := h; exact ⟨σ, H, ⟨I, ht, ho⟩, q⟩
  | brk => obtain ⟨σ, H, I, q⟩ := h; exact ⟨σ, H, ⟨I, ht, ho⟩, q⟩
  | cont => obtain ⟨σ, H, I, q⟩ := h; exact ⟨σ, H, ⟨I, ht, ho⟩, q⟩
  | ret u => obtain ⟨v, σ, H, I, r1, q⟩ := h; exact q
theorem ys_ps {t : TS} (h : PS X st t) : YS X st (tYPs t) := by
  refine ⟨fun ws ip a go xs Q A R n i s₀ c fs K J gd lv s σ H D Y g hn k r ht => seg_wrap ?_⟩
  rw [g.over]
  exact wpAny_mono (h.run _ s σ H (D.at i) r.inv ht) (fun f s' hs => k n i s₀ s' f hn (ysp_of r.there r.off hs)) fun x s' hx => (Y.none x s' hx).elim
def tY0 : TYs := fun _ _ D i σ H => D.nx i σ H
theorem yss_nil : YSs X [] tY0 := ⟨fun ws ip a go xs Q A R n i s₀ c fs K J gd lv s σ H D Y g hn k r ht => seg_execs_nil (k n i s₀ s .next hn ⟨σ, H, r, ht⟩)⟩
def tYThen (t u : TYs) : TYs := fun xs Q D i σ H => t xs Q { D with nx := u xs Q D } i σ H
theorem yss_cons {t u : TYs} (p : YS X st t) (q : YSs X rest u) : YSs X (st :: rest) (tYThen t u) := by
  refine ⟨fun ws ip a go xs Q A R n i s₀ c fs K J gd lv s σ H D Y g hn k r ht => seg_execs_cons ?_⟩
  refine p.run ws ip a go xs Q A R n i s₀ c fs _ J gd lv s σ H { D with nx := u xs Q D } Y g hn (fun n' i' s₀' s' f hn' hs => ?_) r ht
  cases f with
  | next =>
    obtain ⟨σ', H', r', h'⟩ := hs
    exact q.run ws ip a go xs Q A R n' i' s₀' c fs K J gd lv s' σ' H' D Y g hn' k r' h'
  | brk => exact k n' i' s₀' s' .brk hn' hs
  | cont => exact k n' i' s₀' s' .cont hn' hs
  | ret u => exact hs.elim
/-- yield e -/
def tYield (te : TE) : TYs := fun xs Q D i σ H => i < xs.length ∧ te σ H fun x H1 => xs[i]? = some x ∧ Q H1 ∧ D.nx (i + 1) σ H1
theorem ys_yield {e : Expr} {te : TE} {yp pos : Pos} (he : PE X e te) (hco : X.env.scope.isCoroutine = false := by rfl) (hi : interactive X.env = false := by rfl) : YS X (.Expr (.Yield (some e) yp) pos) (tYield te) := by
  refine ⟨fun ws ip a go xs Q A R n i s₀ c fs K J gd lv s σ H D Y g hn k r ht => ?_⟩
  obtain ⟨hlt, ht⟩ := ht
  obtain ⟨n, rfl⟩ : ∃ m, n = m + 1 := ⟨n - 1, by omega⟩; refine seg_Expr_Yield g.split g.gd g.guard ?_ hco hi
  rw [g.over]
  refine wpAny_mono (he.run _ s σ H _ r.inv ht) (fun v s' hv => ?_) fun x s' hx => (Y.none x s' hx).elim
  obtain ⟨x, H1, I1, rv, hx, hQ, q⟩ := hv
  have r1 : RY X ws ip s₀ s' σ H1 := ⟨I1, r.there, r.off⟩
  intro kap hk
  refine ⟨x, H1, ?_, rv, by omega, r1.cn Y, hQ, r1.same, fun s'' z => hk .none s'' ?_⟩
  · rw [show xs.length - (n + 1) = i by omega]
    exact hx
  · exact k n (i + 1) s'' s'' .next (by omega) ⟨σ, H1, r1.woken Y z, q⟩
end
end BJ

/-! generators: for loops within them; the def's promise -/
namespace BJ
open PySem PySem.Spec PyProof.Rows L2 Evl GenW
open PySem.W (Frag)
section
variable {X : Cx}
def tYFor (wi : TI) (g : TG) (tb : TYs) : TYs := fun xs Q D i σ H => wi σ H fun J H1 => ∃ W : Nat → Nat → Nat → L2.St → Hp → Prop, (∃ m, W 0 m i σ H1) ∧ ∀ k m i σ H, W k m i σ H →
  (J.stop k H ∧ D.nx i σ H) ∨ (J.go k H ∧ ∃ N : Nat → L2.St → Hp → Prop, (∀ i' σ' H', N i' σ' H' → ∃ m', m' < m ∧ W (k + 1) m' i' σ' H') ∧
    ∀ x H', J.yld k H x H' → g x σ H' fun σ2 H2 => tb xs Q { nx := N, ct := N, bk := D.nx } i σ2 H2)
theorem yc_loop {A : Around} {c c' : Code} {fs : List Frame} {gd : Bool → Bool} {k : Result → Sem PySem.Fin} {l kp : List Value} {p : Pos} (g : YC X A c fs gd) (hw : c'.weight = 0) (hu : c'.cUnits = 0) : YC X A c' (.ret k none (gd false) l c p kp :: fs) id :=
  ⟨(over_loop hw hu).trans g.over, (show (splitAtGen fs).map _ = _ by rw [g.split]; rfl), (show (gd false || fs.any Frame.guarded) = _ by rw [g.gd, g.guard]; rfl), rfl⟩
/-- what a loop's call does with what comes back -/
abbrev loopK (K : Flow → Sem PySem.Fin) (J : Value → Sem PySem.Fin) (gd : Bool → Bool) (lv : List Value → List Value) (env : Env) : Result → Sem PySem.Fin := fun r =>
  ((match r with | .ok f => (.pure f : Sem Flow) | .error e => .raise e).onRaise (cameBack env)).wrap K J gd lv
theorem ys_for {tg iter : Expr} {body : List Stmt} {wi : TI} {g : TG} {tb : TYs} {pos : Pos} (hi : PI X tg iter wi) (hg : PG X tg g) (hb : YSs X body tb) (hs : ∀ x, foldedSetIterable iter X.env x = pure x := by intro _; rfl) : YS X (.For tg iter body [] pos) (tYFor wi g tb) := by
  refine ⟨fun ws ip a go xs Q A R n i s₀ c fs K J gd lv s σ H D Y gc hn kk r ht => ?_⟩
  rw [exec_For]
  refine seg_bind_wrap (wpAny_standAt ?_); refine seg_bind_wrap ?_
  rw [gc.over]
  refine wpAny_mono (hi.run _ s σ H _ r.inv ht) (fun v s1 hv => ?_) fun x s' hx => (Y.none x s' hx).elim
  refine seg_bind_wrap (wpAny_of_eq (hs v) (seg_bind_wrap (wpAny_standAt (seg_bind_wrap (wpAny_holding ?_)))))
  rw [gc.over]
  refine wpAny_mono hv (fun u s2 hu => ?_) fun x s' hx => (Y.none x s' hx).elim
  obtain ⟨it, fp, tn, Jt, H2, rfl, I2, T, st2, f2, W, ⟨m0, w0⟩, turn⟩ := hu
  refine seg_call fun p => ?_
  have offW : ∀ b ∈ fp, b ∉ ws := fun b hb hm => by
    obtain ⟨o, e, _⟩ := r.there b hm
    exact (f2 b hb).2.2.2.2.2 (b, o) (List.mem_append_right _ (List.mem_append_left _ (mem_pinsAt hm e))) rfl
  have stat : ∀ {s₁ : Shared} {H' : Hp}, (∀ b ∈ fp, H' b = none) → ∀ b ∈ fp, FpOk X (pinsAt ws s₁.heap ++ ip) H' b := fun {s₁ H'} hn b hb => by
    obtain ⟨_, h2, h3, h4, h5, h6⟩ := f2 b hb
    refine ⟨hn b hb, h2, h3, h4, h5, fun q hq => ?_⟩
    rcases List.mem_append.mp hq with h | h
    · exact h6 q (List.mem_append_left _ h)
    · rcases List.mem_append.mp h with h | h
      · exact fun z => offW b hb (z ▸ (of_pinsAt h).1)
      · exact h6 q (List.mem_append_right _ (List.mem_append_right _ h))
  have loop : ∀ (m n k i : Nat) (s₀ s : Shared) (σ : L2.St) (H : Hp), n + i = xs.length → W k m i σ H → RY X ws ip s₀ s σ H → tn k s.heap → (∀ b ∈ fp, H b = none) →
      Seg (model X.prog X.w) A R (YPr X ws a go xs Q) n s₀ (.forLoop tg (.ref it) body [] X.env) ((model X.prog X.w).den (.forLoop tg (.ref it) body [] X.env))
        (.ret (loopK K J gd lv X.env) none (gd false) (lv []) c p [] :: fs) s := by
    intro m
    induction m using Nat.strongRecOn with
    | ind m ih =>
      intro n k i s₀ s σ H hn w3 r3 st3 fr3
      have gl := yc_loop (k := loopK K J gd lv X.env) (c' := .forLoop tg (.ref it) body [] X.env) (l := lv []) (kp := []) (p := p) gc rfl rfl
      show Seg _ _ _ _ _ _ _ ((forTurn tg (.ref it) body [] X.env).onRaise (fun x => do noteFrame x X.env; theTreesLotGoes x)) _ _
      rw [Sem.onRaise_eq_wrap]
      unfold forTurn
      refine seg_bind_wrap (wpAny_standAt ?_); refine seg_bind_wrap ?_
      rw [gl.over]
      refine wpAny_onRaise ?_
      rcases turn k m i σ H w3 with ⟨stop, qn⟩ | ⟨goes, N, hN, step⟩
      · refine wpAny_mono (T.done X rfl rfl rfl Y.calm k _ s σ H (fun _ _ => False) r3.inv (stat fr3) st3 stop) (fun q s4 hq => ?_) fun _ _ h => h.elim
        obtain ⟨rfl, I4⟩ := hq
        refine seg_again rfl ?_
        exact seg_leaf (.ok .next) (kk n i s₀ s4 .next hn ⟨σ, H, ⟨I4, r3.there, r3.off⟩, qn⟩)
      · refine wpAny_mono (T.item X rfl rfl rfl Y.calm k _ s σ H (fun _ _ => False) r3.inv (stat fr3) st3 goes) (fun q s4 hq => ?_) fun _ _ h => h.elim
        obtain ⟨u, rfl, h4⟩ := hq
        refine seg_bind_wrap ?_
        rw [gl.over]
        refine wpAny_mono h4 (fun _ s5 h5 => ?_) fun _ _ h => h.elim
        obtain ⟨x, H5, I5, r5, y5, st5, fr5⟩ := h5
        have I5' := I5.pinned (stat fr5) (T.obj _ _ st5); refine seg_bind_wrap ?_
        rw [gl.over]
        refine wpAny_mono (hg.run _ s5 σ H5 x u _ I5' r5 (step x H5 y5)) (fun _ s6 h6 => ?_) fun x s' hx => (Y.none x s' hx).elim
        obtain ⟨σ6, H6, I6, q6⟩ := h6
        rw [List.append_assoc] at I6
        have r6 : RY X ws (ip ++ pinsAt fp s5.heap) s₀ s6 σ6 H6 := ⟨I6, r3.there, fun q hq => by
          rcases List.mem_append.mp hq with h | h
          · exact r3.off q h
          · exact offW q.1 (of_pinsAt h).1⟩
        have back : ∀ {s₁ s7 : Shared} {σ7 : L2.St} {H7 : Hp}, RY X ws (ip ++ pinsAt fp s5.heap) s₁ s7 σ7 H7 → RY X ws ip s₁ s7 σ7 H7 ∧ tn (k + 1) s7.heap ∧ ∀ b ∈ fp, H7 b = none := fun {s₁ s7 σ7 H7} r7 => by
          have at7 : ∀ b ∈ fp, ∀ o, s5.heap.get? b = some o → s7.heap.get? b = some o ∧ H7 b = none := fun b hb o e => by
            obtain ⟨q1, q2, _⟩ := r7.inv.pin (b, o) (List.mem_append_right _ (List.mem_append_right _ (List.mem_append_right _ (mem_pinsAt hb e))))
            exact ⟨q1, q2⟩
          refine ⟨⟨r7.inv.pins_of fun q hq => r7.inv.pin q (List.mem_append_right _ ?_), r7.there, fun q hq => r7.off q (List.mem_append_left _ hq)⟩, T.keep _ _ _ st5 fun b hb o e => (at7 b hb o e).1, fun b hb => ?_⟩
          · rcases List.mem_append.mp hq with h | h
            · exact List.mem_append_left _ h
            · exact List.mem_append_right _ (List.mem_append_left _ h)
          · obtain ⟨o, e, _⟩ := T.obj _ _ st5 b hb
            exact (at7 b hb o e).2
        rw [Sem.bind_eq_wrap', Sem.wrap_wrap]
        refine hb.run ws (ip ++ pinsAt fp s5.heap) a go xs Q A R n i s₀ _ _ _ _ _ _ s6 σ6 H6 { nx := N, ct := N, bk := D.nx } Y gl hn (fun n' i' s₀' s7 f hn' hs7 => ?_) r6 q6
        cases f with
        | next =>
          obtain ⟨σ7, H7, r7, n7⟩ := hs7
          obtain ⟨b1, b2, b3⟩ := back r7
          obtain ⟨m', hm, w7⟩ := hN i' σ7 H7 n7
          exact seg_again rfl (ih m' hm n' (k + 1) i' s₀' s7 σ7 H7 hn' w7 b1 b2 b3)
        | cont =>
          obtain ⟨σ7, H7, r7, n7⟩ := hs7
          obtain ⟨b1, b2, b3⟩ := back r7
          obtain ⟨m', hm, w7⟩ := hN i' σ7 H7 n7
          exact seg_again rfl (ih m' hm n' (k + 1) i' s₀' s7 σ7 H7 hn' w7 b1 b2 b3)
        | brk =>
          obtain ⟨σ7, H7, r7, n7⟩ := hs7
          exact seg_leaf (.ok .next) (kk n' i' s₀' s7 .next hn' ⟨σ7, H7, (back r7).1, n7⟩)
        | ret u => exact hs7.elim
  exact loop m0 n 0 i s₀ s2 σ H2 hn w0 ⟨I2, r.there, r.off⟩ st2 fun b hb => (f2 b hb).1
end
end BJ

/-! the call of a generator def of any body -/
namespace BJ
open PySem PySem.Spec PyProof.Rows L2 Evl GenW
open PySem.W (Frag)
section
variable {P : Program} {w : World} {K : Frag} {mg : Str → Option Value} {base : Heap}
theorem yfn_body {k : Nat} {f : Addr} {name qual : Str} {params : Arguments} {body : List Stmt} {scope : Scope} {dV kV doc pm cdv ct oc : Value} {an od : Option Addr} {osl : Array (Option Value)} {N ps : List Str} {sp : SpY}
    (lk : K.lookup f = some ⟨oc, od, .func (PySem.W.fnOf name qual params body scope dV kV doc pm an cdv ct), osl⟩) (hcd : PySem.W.codeIn K cdv qual = true) (S : GScope N ps scope) (hb : Binds K (PySem.W.fnOf name qual params body scope dV kV doc pm an cdv ct) ps [])
    (len : ∀ vs H xs Q, sp vs H xs Q → vs.length = ps.length)
    (hbody : ∀ (A : Around) (outer : List Env) (s : Shared) (H : Hp) (vs xs : List V) (Q : Hp → Prop) (pn : List (Addr × Obj)), Room k (A.deeper (envOfC qual scope s.heap.objs.size f cdv)) → sp vs H xs Q →
      ∃ t, YSs (gcxOf P w K mg base N qual scope f cdv A outer s H (fun _ _ _ => False) pn).nox body t ∧ t xs Q { nx := fun i _ H' => i = xs.length ∧ Q H' } 0 (L2.start N vs) H) : YFn P w K mg base (k + 1) f sp := by
  intro A outer s H us vs xs Q hr e0 r hsp
  have hl := len _ _ _ _ hsp
  have KX : K.In s.heap := e0.mod.kin.keeps fun b o e => (e0.bs b o e).1; have lim : s.heap.NoLimit := e0.mod.nolimit.keeps fun b o e => (e0.bs b o e).1
  have hul : (us ++ []).length = ps.length := by rw [List.append_nil, ← r.length, hl]
  have hbind := hb s us KX hul
  rw [List.append_nil] at hbind
  refine codeAny_call_generator hr.depth (KX _ _ lk) rfl S.co S.gen rfl (PySem.W.codeRec_of KX hcd) (hbind _ _ _ _ ?_)
  refine wpAny_newFunctionEnv_cells S.kind (fun y hy => ?_) fun env he s1 x => ?_
  · rcases S.par y.1 (List.of_mem_zip (show (y.1, y.2) ∈ _ from hy)).1 with q | q
    · exact .inl q
    · exact .inr ⟨q, PySem.W.cellsFrom_some _ _ _ (.inl q)⟩
  subst he
  have lim1 : s1.heap.NoLimit := lim.keeps x.toInCall.keep; refine ⟨lim1, ?_⟩
  obtain ⟨h1, tk, es1, hk1⟩ := x.done; have os1 : s1.os = s.os := by rw [es1]
  have gen1 : s1.gens = s.gens := (by rw [es1]); have lt1 : s.heap.objs.size < s1.heap.objs.size := x.toInCall.ns.lt
  have kp1 : ∀ b o, s.heap.get? b = some o → s1.heap.get? b = some o := x.toInCall.keep; have main : ∀ (go : Obj) (nm qn : Value) (tk2 : Nat), go.cls = .type "generator" → go.data = .fields #[.int s1.gens.size 0, nm, qn] → go.slots = #[] → (∀ h : Heap, (h.push go).get? h.objs.size = some go) →
      YMade P w (k + 1) outer H s xs Q (.ref s1.heap.objs.size) { s1 with gens := s1.gens.push (.fresh (.func body (envOfC qual scope s.heap.objs.size f cdv))), toks := tk2, heap := s1.heap.push go } := by
    intro go nm qn tk2 hgc hgd0 hgs hgp; have hpushed : (s1.heap.push go).get? s1.heap.objs.size = some go := hgp _
    refine ⟨s1.heap.objs.size, s1.gens.size, _, go, rfl, Nat.le_of_lt lt1, ?_, hpushed, fun h e => ⟨go, nm, qn, e, hgc, hgd0, hgs⟩, Array.getElem?_push_size .., os1, AllBare.push (by rw [gen1]; exact e0.bare) rfl, lim1.keeps fun b o e => Heap.get?_push_of_some _ e, fun b o e => Heap.get?_push_of_some _ (kp1 b o e), ?_⟩
    · show _ < (s1.heap.push _).objs.size
      rw [Heap.size_push]
      exact Nat.lt_succ_self _
    intro Aw ws t hrw hfr hws hkt hwo hos hba
    have hws' : ∀ b ∈ ws, s1.heap.objs.size < b := fun b hb => by
      have := hws b hb
      have z : (s1.heap.push go).objs.size ≤ b := this
      rw [Heap.size_push] at z
      exact z
    have e0w : Env0 P w K mg base Aw outer s H := ⟨hfr, e0.mod, e0.bs, e0.bsz, e0.funs, e0.frf, e0.hok, e0.bare⟩; have I1 : Inv (gcxOf P w K mg base N qual scope f cdv Aw outer s H (fun _ _ _ => False) []) [] (L2.start N vs) H s1 := inv_startG S hrw.hd e0w hl r x
    have kpt : ∀ b o, s1.heap.get? b = some o → t.heap.get? b = some o := fun b o e => hkt b o (Heap.get?_push_of_some _ e)
    have I2 : Inv (gcxOf P w K mg base N qual scope f cdv Aw outer s H (fun _ _ _ => False) []) [] (L2.start N vs) H t := I1.call' (ch := []) (hos.trans os1.symm) (Un.kept kpt) (I1.hok.kept kpt) hba fun b z => by simp at z
    have hea : t.heap.get? s1.heap.objs.size = some go := hkt s1.heap.objs.size go hpushed
    have young : ∀ b, s1.heap.objs.size ≤ b → H b = none ∧ b ≠ s.heap.objs.size ∧ b ∉ frs outer := fun b hb => ⟨I1.hok.fresh hb, Nat.ne_of_gt (Nat.lt_of_lt_of_le lt1 hb), I1.nofs hb⟩
    have I3 : Inv (gcxOf P w K mg base N qual scope f cdv Aw outer s H (fun _ _ _ => False) [(s1.heap.objs.size, go)]) (pinsAt ws t.heap) (L2.start N vs) H t := Inv.pinnedG I2 fun p hp => by
      rcases List.mem_append.mp hp with z | z
      · rw [List.mem_singleton.mp z]
        obtain ⟨y1, y2, y3⟩ := young s1.heap.objs.size (Nat.le_refl _)
        exact ⟨hea, y1, y2, y3, fun v q => by rw [hgd0] at q; cases q⟩
      · obtain ⟨hb, e⟩ := of_pinsAt z
        obtain ⟨y1, y2, y3⟩ := young p.1 (Nat.le_of_lt (hws' p.1 hb))
        obtain ⟨o, e2, hd⟩ := hwo p.1 hb
        rw [e] at e2
        cases e2
        exact ⟨e, y1, y2, y3, hd⟩
    obtain ⟨ty, hty, hq⟩ := hbody Aw outer s H vs xs Q [(s1.heap.objs.size, go)] (hrw.deeper _) hsp
    have hcs : cStatics < s.heap.objs.size := by
      obtain ⟨mc, hns, _⟩ := lim
      exact hns.lt
    have offA : s1.heap.objs.size ∉ ws := fun hm => absurd (hws' _ hm) (Nat.lt_irrefl _)
    have Y : YX (gcxOf P w K mg base N qual scope f cdv Aw outer s H (fun _ _ _ => False) [(s1.heap.objs.size, go)]).nox ws s1.heap.objs.size go :=
      ⟨rfl, List.mem_singleton.mpr rfl, fun p hp => by rw [List.mem_singleton.mp hp]; exact offA, fun b hb => Nat.le_trans (Nat.le_of_lt lt1) (Nat.le_of_lt (hws' b hb)), fun _ _ h => h, rfl⟩
    refine seg_func ?_
    refine hty.run ws [] s1.heap.objs.size go xs Q Aw _ xs.length 0 t _ _ _ _ id id t (L2.start N vs) H _ Y ⟨?_, rfl, rfl, rfl⟩ (Nat.add_zero _) (fun n i s₀ s' fl hn hs => ?_) ⟨by rw [List.append_nil]; exact I3.wish _, hwo, fun p hp => nomatch hp⟩ hq
    · rw [over_func]
      rfl
    · cases fl with
      | next =>
        obtain ⟨σ', H', r', hi, hQ⟩ := hs
        refine seg_end (.ok (.ret .none)) ⟨.inl rfl, by omega, H', r'.cn Y, hQ, r'.same⟩
      | brk => obtain ⟨_, _, _, z⟩ := hs; exact z.elim
      | cont => obtain ⟨_, _, _, z⟩ := hs; exact z.elim
      | ret u => exact hs.elim
  exact main _ _ _ _ rfl rfl rfl fun h => Heap.get?_push_size _ rfl
variable {x qual : Str} {st : Stmt} {N : List Str} {f : Addr} {k : Nat}
/-- a generator def of any body -/
theorem DefAt.okYB {ps : List Str} {sp : SpY} (D : DefAt K x qual st f ps) (S : GScope N ps (defScope st)) (len : ∀ vs H xs Q, sp vs H xs Q → vs.length = ps.length)
    (hb : ∀ (cdv : Value) (A : Around) (outer : List Env) (s : Shared) (H : Hp) (vs xs : List V) (Q : Hp → Prop) (pn : List (Addr × Obj)), Room k (A.deeper (envOfC qual (defScope st) s.heap.objs.size f cdv)) → sp vs H xs Q →
      ∃ t, YSs (gcxOf P w K mg base N qual (defScope st) f cdv A outer s H (fun _ _ _ => False) pn).nox (defBody st) t ∧ t xs Q { nx := fun i _ H' => i = xs.length ∧ Q H' } 0 (L2.start N vs) H) : YFn P w K mg base (k + 1) f sp := by
  obtain ⟨fd, F, hbi⟩ := D.fn
  obtain ⟨oc, od, kV, doc, pm, an, cdv, ct, osl, rfl, lk, hcd⟩ := F.ex
  exact yfn_body lk hcd S hbi len fun A outer s H vs xs Q pn hr hsp => hb cdv A outer s H vs xs Q pn hr hsp
end
end BJ

/-! a generator's loop over a list; the items of a dict -/
namespace BJ
open PySem PySem.Spec PyProof.Rows L2 Evl
open PySem.W (Frag)
theorem yfor_list {K : Frag} {a : Addr} {ys xs : List V} {g : TG} {tb : TYs} {Q : Hp → Prop} {D : YEnds} {i0 : Nat} {σ : L2.St} {H : Hp} (Pv : Nat → Nat → L2.St → Hp → Prop) (h0 : Pv 0 i0 σ H) (hl : ∀ k i σ H, k ≤ ys.length → Pv k i σ H → SqL K H a ys)
    (hs : ∀ k x i σ H, ys[k]? = some x → Pv k i σ H → g x σ H fun σ2 H2 => tb xs Q { nx := Pv (k + 1), ct := Pv (k + 1), bk := D.nx } i σ2 H2) (hd : ∀ i σ H, Pv ys.length i σ H → D.nx i σ H) :
    ∃ W : Nat → Nat → Nat → L2.St → Hp → Prop, (∃ m, W 0 m i0 σ H) ∧ ∀ k m i σ H, W k m i σ H → ((Itl K a).stop k H ∧ D.nx i σ H) ∨ ((Itl K a).go k H ∧ ∃ N : Nat → L2.St → Hp → Prop, (∀ i' σ' H', N i' σ' H' → ∃ m', m' < m ∧ W (k + 1) m' i' σ' H') ∧
      ∀ x H', (Itl K a).yld k H x H' → g x σ H' fun σ2 H2 => tb xs Q { nx := N, ct := N, bk := D.nx } i σ2 H2) := by
  refine ⟨fun k m i σ H => m = ys.length - k ∧ k ≤ ys.length ∧ Pv k i σ H, ⟨ys.length, rfl, Nat.zero_le _, h0⟩, ?_⟩
  rintro k m i σ H ⟨rfl, hk, p⟩
  have q := hl k i σ H hk p
  rcases Nat.lt_or_ge k ys.length with hlt | hge
  · refine .inr ⟨⟨ys, ys[k], q, List.getElem?_eq_getElem hlt⟩, Pv (k + 1), fun i' σ' H' p' => ⟨ys.length - (k + 1), by omega, rfl, hlt, p'⟩, fun x H' y => ?_⟩
    obtain ⟨e, y⟩ := y
    subst e
    exact hs k x i σ _ (y ys q) p
  · obtain rfl : k = ys.length := by omega
    exact .inl ⟨⟨ys, q, Nat.le_refl _⟩, hd i σ H p⟩
/-- the tuples at ts hold the entries of a dict -/
def Prs (H : Hp) (ts : List Addr) (kvs : List (Key × V)) : Prop := Paired (fun (t : Addr) (q : Key × V) => H t = some (.tup [kV q.1, q.2])) ts kvs
theorem Prs.ex {H H' : Hp} (e : Ex H H') : ∀ {ts : List Addr} {kvs : List (Key × V)}, Prs H ts kvs → Prs H' ts kvs
  | _, _, .nil => .nil
  | _, _, .cons h t => .cons (e _ _ h) (Prs.ex e t)
theorem Prs.keep {H H' : Hp} : ∀ {ts : List Addr} {kvs : List (Key × V)}, Prs H ts kvs → (∀ t ∈ ts, ∀ o, H t = some o → H' t = some o) → Prs H' ts kvs
  | _, _, .nil, _ => .nil
  | _, _, .cons h t, k => .cons (k _ List.mem_cons_self _ h) (Prs.keep t fun t ht => k t (List.mem_cons_of_mem _ ht))
/-- what was locked is as it was -/
theorem ex_unlock {H H' : Hp} {d : Addr} {u v : HO} (hd : H d = some u) (e : Ex (upd H d v) H') : Ex H (upd H' d u) := fun b o hb => by
  by_cases h : b = d
  · rw [h] at hb ⊢
    rw [hd] at hb
    cases hb
    exact upd_same
  · rw [upd_ne h]
    exact e b o (by rw [upd_ne h]; exact hb)
theorem Prs.len {H : Hp} {ts : List Addr} {kvs : List (Key × V)} (h : Prs H ts kvs) : ts.length = kvs.length := Paired.length h
theorem Prs.snoc {H : Hp} {t : Addr} {q : Key × V} (ht : H t = some (.tup [kV q.1, q.2])) : ∀ {ts : List Addr} {kvs : List (Key × V)}, Prs H ts kvs → Prs H (ts ++ [t]) (kvs ++ [q])
  | _, _, .nil => .cons ht .nil
  | _, _, .cons h r => .cons h (Prs.snoc ht r)
theorem Prs.get {H : Hp} : ∀ {ts : List Addr} {kvs : List (Key × V)}, Prs H ts kvs → ∀ (i : Nat) (q : Key × V), kvs[i]? = some q → ∃ t, ts[i]? = some t ∧ H t = some (.tup [kV q.1, q.2])
  | _, _, .nil => fun i q h => nomatch h
  | _, _, .cons h r => fun i q hq => by
    cases i with
    | zero => cases hq; exact ⟨_, rfl, h⟩
    | succ i => exact Prs.get r i q hq
/-- keys and values, one behind another -/
def flatK : List (Key × V) → List V
  | [] => []
  | q :: r => kV q.1 :: q.2 :: flatK r
theorem flatK_len : ∀ kvs : List (Key × V), (flatK kvs).length = 2 * kvs.length
  | [] => rfl
  | q :: r => by
    show (flatK r).length + 1 + 1 = 2 * (r.length + 1)
    rw [flatK_len r]
    omega
theorem flatK_get : ∀ (kvs : List (Key × V)) (k : Nat) (q : Key × V), kvs[k]? = some q → (flatK kvs)[2 * k]? = some (kV q.1) ∧ (flatK kvs)[2 * k + 1]? = some q.2
  | [], k, q, h => nomatch h
  | p :: r, 0, q, h => by
    cases h
    exact ⟨rfl, rfl⟩
  | p :: r, k + 1, q, h => by
    obtain ⟨h1, h2⟩ := flatK_get r k q h
    rw [show 2 * (k + 1) = 2 * k + 1 + 1 by omega]
    exact ⟨h1, h2⟩
end BJ

/-! y = [x for x in g] where g is such a generator -/
namespace BJ
open PySem PySem.Spec PyProof.Rows L2 Evl GenW
open PySem.W (Frag)
section
variable {X : Cx} {k : Nat} {iter : Expr} {ty : TYx} {x : Str} {p1 p2 pos : Pos} {scope : Scope}
theorem ps_setLcY {i : Nat} {y : Str} {py spos : Pos} (hc : X.calm = true) (hN : X.N.Nodup) (hy : X.N[i]? = some y) (hyl : X.env.scope.names.lookup y = some .local)
    (hsw : swapsWith (.ListComp (.Name x p1) [⟨.Name x p2, iter, [], 0⟩] scope pos) (some (.Name y py)) spos.line X.env = pure true)
    (h : PY X k iter ty) (hr : Room (k + 1) X.A) (hk : scope.kind = .function) (hn : scope.names = [((".0" : Str), NameKind.local), (x, NameKind.local)]) (hx0 : (x == (".0" : Str)) = false := by decide) (hd : (x == ("__debug__" : Str)) = false := by decide)
    (hs : ∀ y, foldedSetIterable iter X.env y = pure y := by intro _; rfl) : PS X (.Assign [.Name y py] (.ListComp (.Name x p1) [⟨.Name x p2, iter, [], 0⟩] scope pos) spos) (tAsg (tLcY ty) (gName i)) := by
  refine ⟨fun pins s σ H Dn I hq => ?_⟩
  have hq : ty σ H (fun xs H1 => xs.length ≤ sizeLine ∧ ∀ D, H1 D = none → sysModules < D → Dn.nx (σ.set i (some (.ref D))) (upd H1 D (.lst xs))) := hq
  have lk0 : scope.names.lookup (".0" : Str) = some .local := by rw [hn]; rfl
  have lkx : scope.names.lookup x = some .local := by rw [hn, List.lookup_cons, hx0, List.lookup_cons_self]
  have hfree : ∀ z ∈ scope.names, z.2 ≠ .free := fun y hy => by
    rw [hn] at hy
    simp only [List.mem_cons, List.not_mem_nil, or_false] at hy
    rcases hy with rfl | rfl <;> exact fun z => nomatch z
  have hnames : ∀ z ∈ scope.names, z.2 = .local → scope.names.lookup z.1 = some .local := fun y hy e => by
    rw [hn] at hy
    simp only [List.mem_cons, List.not_mem_nil, or_false] at hy
    rcases hy with rfl | rfl
    · exact lk0
    · exact lkx
  rw [exec_Assign_Name_used _ _ _ _ hsw]
  refine wpAny_bind (wpAny_standAt (wpAny_bind ?_))
  show wpAny _ X.A (do let _ ← comprehension (.ListComp (.Name x p1) [⟨.Name x p2, iter, [], 0⟩] scope pos) scope X.env (firstIterPos [⟨.Name x p2, iter, [], 0⟩] pos) (newList []) false (eval iter X.env) (some (assign (.Name y py) X.env))) _ _ s
  refine wpAny_bind (thn (wpAny_comprehension_free (use := some (assign (.Name y py) X.env)) (Q := fun _ s' => SP X pins Dn .next s') rfl hs (closureFor_none hfree) hk hnames (thn (h.run pins s σ H _ I hq) fun u s1 hu => ?_)) fun _ s' hq => wpAny_pure (wpAny_pure hq))
  obtain ⟨sc, H1, xs, Ic, a, g, c, go, rfl, ha1, ha2, hgo, hgen, hgs, hos, hb, hl, hkp, wake⟩ := hu
  refine wpAny_pyIter_gen (hgen _ hgo) ?_
  refine wpAny_newObj_type (newEnv_comp ?_) (by show 0 ≤ sizeLine; decide)
  have hcs : cStatics < s1.heap.objs.size := by
    obtain ⟨mc, hns, _⟩ := hl
    exact hns.lt
  have hsz : sc.heap.objs.size ≤ s1.heap.objs.size := Nat.le_of_lt (Nat.lt_of_le_of_lt ha1 ha2)
  generalize hD : s1.heap.objs.size = D at *
  have zC : (s1.heap.push ({ cls := .type "list", data := .seq ([] : List Value).toArray } : Obj)).objs.size = D + 1 := by rw [Heap.size_push, hD]
  have ec : ∀ (n : Nat), cellsFrom n scope.names [] = [] := fun n => by rw [hn]; rfl
  have pc : ∀ hh : Heap, pushCells hh scope.names = hh := fun hh => by rw [hn]; rfl
  show codeAny _ _ (.compStart _ 0 (.ref a) (.ref D) { newEnv scope (s1.heap.push ({ cls := .type "list", data := .seq ([] : List Value).toArray } : Obj)).objs.size X.env.globals (cellsFrom ((s1.heap.push ({ cls := .type "list", data := .seq ([] : List Value).toArray } : Obj)).objs.size + 1) scope.names []) X.env.qual none .none (some X.env) builtinsNs with scope := relabel scope X.env }) _
    { s1 with heap := pushCells ((s1.heap.push ({ cls := .type "list", data := .seq ([] : List Value).toArray } : Obj)).push { cls := .type "dict", data := .dict #[] }) scope.names }
  rw [zC, ec, pc]
  generalize hce : ({ newEnv scope (D + 1) X.env.globals [] X.env.qual none .none (some X.env) builtinsNs with scope := relabel scope X.env } : Env) = ce
  have cL : ce.locals = D + 1 := by rw [← hce]; rfl
  have csc : ce.scope = relabel scope X.env := by rw [← hce]
  have csk : ce.scope.kind = .function := by rw [csc]; exact hk
  have hko : ce.kindOf x = some .local := by
    unfold Env.kindOf
    rw [csc]
    exact lookup_relabel_local lkx
  generalize hh4 : (s1.heap.push ({ cls := .type "list", data := .seq ([] : List Value).toArray } : Obj)).push { cls := .type "dict", data := .dict #[] } = h4
  have k4 : ∀ b o, s1.heap.get? b = some o → h4.get? b = some o := fun b o e => by rw [← hh4]; exact Heap.get?_push_of_some _ (Heap.get?_push_of_some _ e)
  have gD : h4.get? D = some (lstObj #[] 0) := by
    rw [← hh4, ← hD]
    exact Heap.get?_push_of_some _ (Heap.get?_push_size _ rfl)
  have gC : h4.get? (D + 1) = some { cls := .type "dict", data := .dict #[] } := by
    rw [← hh4, ← zC]
    exact Heap.get?_push_size _ rfl
  have nC : h4.Ns (D + 1) (fun _ => none) := ⟨_, #[], _, gC, rfl, fun e he => absurd he (by simp), fun _ => rfl⟩
  have hcalm : X.A.handled = none := I.ok.hd hc
  -- the run's end, its steps
  have Dne : D ≠ cStatics := Nat.ne_of_gt hcs
  have Cne : D + 1 ≠ cStatics := Nat.ne_of_gt (Nat.lt_succ_of_lt hcs)
  have aD : a ≠ D := Nat.ne_of_lt ha2
  have aC : a ≠ D + 1 := Nat.ne_of_lt (Nat.lt_succ_of_lt ha2)
  let F : Nat → Shared → Shared → Prop := fun n s₀ s => n = 0 ∧ ∃ H', Cn X.prog X.w X.stack H1 H' sc [D, D + 1] a go s ∧ (xs.length ≤ sizeLine ∧ ∀ D, H' D = none → sysModules < D → Dn.nx (σ.set i (some (.ref D))) (upd H' D (.lst xs))) ∧ ∀ b ∈ [D, D + 1], ∀ o, s₀.heap.get? b = some o → s.heap.get? b = some o
  let R' : GenEnd := fun n s₀ r s => ((r = .ok (.ret .none) ∨ r = .ok .next) ∧ F n s₀ s) ∨ ∃ e, r = .error e ∧ False
  let Y' : Protocol := YItm X.prog X.w X.stack H1 sc [D, D + 1] a go xs fun H' => xs.length ≤ sizeLine ∧ ∀ D, H' D = none → sysModules < D → Dn.nx (σ.set i (some (.ref D))) (upd H' D (.lst xs))
  have wf : ∀ b ∈ [D, D + 1], sc.heap.objs.size ≤ b ∧ b ≠ cStatics ∧ b ≠ a := fun b hb => by
    simp only [List.mem_cons, List.not_mem_nil, or_false] at hb
    rcases hb with rfl | rfl
    · exact ⟨hsz, Dne, aD.symm⟩
    · exact ⟨Nat.le_succ_of_le hsz, Cne, aC.symm⟩
  let LI : Nat → Shared → Prop := fun n t => n ≤ xs.length ∧ ∃ (acc : Array Value) (cc : Nat) (m : Str → Option Value) (gs : GenState), t.heap.get? D = some (lstObj acc cc) ∧ Vals (xs.take (xs.length - n)) acc.toList ∧ t.heap.Ns (D + 1) m ∧ t.heap.get? a = some go ∧ t.heap.NoLimit ∧
    t.gens[g]? = some gs ∧ gs.Goes (model X.prog X.w) X.A.in1 R' Y' n (.send .none) (t.setGen g .running)
  have gsz : g < s1.gens.size := (Array.getElem?_eq_some_iff.mp hgs).1
  have start : LI xs.length { s1 with heap := h4 } := by
    refine ⟨Nat.le_refl _, #[], 0, _, _, gD, by rw [Nat.sub_self]; exact .nil, nC, k4 _ _ hgo, hl.keeps k4, hgs, rfl, ?_⟩
    have w0 := wake X.A.in1 [D, D + 1] ({ s1 with heap := h4 }.setGen g .running) hr.in1 (show X.A.in1.frames = some X.stack from I.ok.frames) (fun b hb => ?_) k4 (fun b hb => ?_) hos (allBare_setGen (s := { s1 with heap := h4 }) hb rfl)
    · exact seg_imp (fun n s₀ r s hR => .inl ⟨hR.1, hR.2.1, hR.2.2⟩) (fun n s₀ v s kap kap' hkk hY => by
        obtain ⟨x, H', y1, y2, y3, y4, y5, y6, y7⟩ := hY
        exact ⟨x, H', y1, y2, y3, y4, y5, y6, fun t z => hkk _ _ (y7 t z)⟩) _ w0
    · simp only [List.mem_cons, List.not_mem_nil, or_false] at hb
      rcases hb with rfl | rfl
      · exact Nat.le_refl _
      · exact Nat.le_succ _
    · simp only [List.mem_cons, List.not_mem_nil, or_false] at hb
      rcases hb with rfl | rfl
      · exact ⟨_, gD, fun v z => nomatch z⟩
      · exact ⟨_, gC, fun v z => nomatch z⟩
  have loop : codeAny (model X.prog X.w) X.A (.compLoop (.ListComp (.Name x p1) [⟨.Name x p2, iter, [], 0⟩] scope pos) 0 (.ref a) (.ref D) ce) (compPost (model X.prog X.w) X.A X.xe (some (assign (.Name y py) X.env)) (fun _ s' => SP X pins Dn .next s') (.ref D) (D + 1)) { s1 with heap := h4 } := by
    refine compLoop_any LI ?_ xs.length start
    rintro n t ⟨hnl, acc, cc, m, gs, tD, tV, tN, ta, tl, tg, tgo⟩
    have tsz := (Array.getElem?_eq_some_iff.mp tg).1
    have mD : D ∈ [D, D + 1] := List.mem_cons_self
    have mC : D + 1 ∈ [D, D + 1] := List.mem_cons_of_mem _ List.mem_cons_self
    refine wpAny_gsz (n := g + 1) tsz (next_genG (F := F) (Er := fun _ _ => False) (Y := Y') hcalm tl hr.depth (hgen _ ta) tg tgo (fun v s₁ gs' hbare hY => ?_) (fun s₁ hF h' hk' => ?_) fun e s₁ he => he.elim)
    · intro hsz2
      obtain ⟨y, H', y1, y2, y3, y4, y5, y6, y7⟩ := hY
      cases n with
      | zero => exact (show False from y7 s₁ ⟨rfl, y4.bare, fun _ _ _ e => e, two_there (y6 D mD _ tD) (let ⟨o, es, ep, ho, r⟩ := tN; ⟨o, es, ep, y6 (D + 1) mC _ ho, r⟩)⟩).elim
      | succ n =>
        have e1 : xs.length - (n + 1 - 1 + 1) = xs.length - (n + 1) := by omega
        rw [e1] at y1
        have gD1 : s₁.heap.get? D = some (lstObj acc cc) := y6 D mD _ tD
        have nC1 : s₁.heap.Ns (D + 1) m := by
          obtain ⟨o, es, ep, ho, r⟩ := tN
          exact ⟨o, es, ep, y6 (D + 1) mC _ ho, r⟩
        have al : acc.size = xs.length - (n + 1) := by
          have q1 := tV.length
          rw [List.length_take] at q1
          have q2 : acc.toList.length = acc.size := by simp
          omega
        refine wpAny_pure ?_
        refine wpAny_assign_Name (wpAny_storeName_local hko (m := m) (by rw [cL]; exact nC1) (fun h' hn' sb => ?_) (by rw [csk]; rfl))
        rw [cL] at hn' sb
        refine wpAny_tests_nil ?_
        rw [if_pos rfl]
        refine wpAny_Name (wpAny_loadName_local (m := fun z => if z = x then some v else m z) (v := v) csk hko (by rw [cL]; exact hn') (if_pos rfl) ?_) hd
        have gD2 : h'.get? D = some (lstObj acc cc) := (sb.2 D (Nat.ne_of_lt (Nat.lt_succ_self _))).trans gD1
        refine append_at (hsz := by have := y5.1; omega) gD2 fun h2 sb2 hD2 => ⟨n, Nat.lt_succ_self _, ?_⟩
        have g1 : g < s₁.gens.size := by
          have q := setGen_size s₁ g gs'
          have q2 : g + 1 ≤ (s₁.setGen g gs').gens.size := hsz2
          omega
        have keep : ∀ b o, b ∉ [D, D + 1] → s₁.heap.get? b = some o → h2.get? b = some o := fun b o hb e => by
          have b1 : b ≠ D := fun z => hb (z ▸ mD)
          have b2 : b ≠ D + 1 := fun z => hb (z ▸ mC)
          exact (sb2.2 b b1).trans ((sb.2 b b2).trans e)
        have aw : a ∉ [D, D + 1] := fun hm => (wf a hm).2.2 rfl
        have etk : xs.take (xs.length - n) = xs.take (xs.length - (n + 1)) ++ [y] := by
          rw [show xs.length - n = xs.length - (n + 1) + 1 by omega, List.take_add_one, y1]
          rfl
        refine ⟨Nat.le_of_succ_le hnl, acc.push v, cc + 1, _, gs', hD2, ?_, hn'.sameBut sb2 (Nat.ne_of_gt (Nat.lt_succ_self _)), keep a go aw y4.gen, ?_, setGen_at g1, ?_⟩
        · rw [etk, Array.toList_push]
          exact tV.append (.cons y2 .nil)
        · obtain ⟨mc, hns, hnn⟩ := y4.lim
          exact ⟨mc, hns.at' fun o e => keep _ o (fun hm => (wf _ hm).2.1 rfl) e, hnn⟩
        · exact y7 _ ⟨rfl, allBare_setGen (allBare_setGen y4.bare hbare) rfl, keep, two_there hD2 (hn'.sameBut sb2 (Nat.ne_of_gt (Nat.lt_succ_self _)))⟩
    · intro hsz2
      obtain ⟨hn0, H', c', ⟨hl1, hq'⟩, same⟩ := hF
      subst hn0
      rw [Nat.sub_zero, List.take_length] at tV
      have gD1 : s₁.heap.get? D = some (lstObj acc cc) := same D mD _ tD
      have nsC : h'.Ns (D + 1) m := by
        obtain ⟨o, es, ep, ho, r⟩ := tN
        exact ⟨o, es, ep, hk' _ _ (same (D + 1) mC _ ho), r⟩
      have gD2 : h'.get? D = some (lstObj acc cc) := hk' _ _ gD1
      have c2 := c'.step (t := { s₁.setGen g .finished with heap := h' }) (ch := [D + 1]) rfl (allBare_setGen c'.bare rfl) (fun b o hb e => hk' _ _ e) (fun b hb => by
        rw [List.mem_singleton.mp hb]
        exact ⟨(wf _ mC).1, c'.off _ mC, (wf _ mC).2.1, (wf _ mC).2.2⟩)
      have I' : Inv X pins σ (upd H' D (.lst xs)) { s₁.setGen g .finished with heap := h' } := Inv.drained Ic hsz hl1 gD2 tV ExOk.nil c2.os c2.bare c2.un c2.hok (c2.off D mD)
      show wpAny _ _ (assign (.Name y py) X.env (.ref D)) _ _ _
      refine wpAny_assign_Name (store_ok2 (v := V.ref D) I' hN hy (.inl hyl) rfl (fun s2 I2 ⟨a2, sb, ha⟩ => ?_) (.inr hyl))
      obtain ⟨f0, f1, f2, f3, f4, f5⟩ := Ic.fpOk (H' := upd H' D (.lst xs)) (b := D + 1) (wf _ mC).1 (by rw [upd_ne (Nat.succ_ne_self D)]; exact c2.off _ mC)
      have haC : D + 1 ≠ a2 := by
        rcases ha with z | z
        · rw [z]; exact f1
        · exact fun e => f4 y a2 z e.symm
      refine ⟨m, nsC.sameBut sb haC, fun h3 sb3 => ?_⟩
      exact ⟨_, _, I2.turned (t' := s2.toks) (fun b o hb e => (sb3.2 b hb).trans e) f0 f1 f3 f4 f5, hq' D (c2.off D mD) (Nat.lt_of_lt_of_le Ic.big hsz)⟩
  exact codeAny_compStart_list loop (wpAny_pyIter_gen (hgen _ (k4 _ _ hgo)) loop)
end
end BJ

/-! two lists of the very same elements, compared -/
namespace BJ
open PySem PySem.Spec PyProof.Rows L2 Evl
open PySem.W (Frag)
section
variable {X : Cx} {K : Frag}
/-- such an element equals itself, wherever it stands -/
def oneB : V → Bool | .str _ => true | .int _ => true | .non => true | .bl _ => true | .ref _ => true | _ => false
theorem eq_one {A : Around} {s : Shared} {v : V} {u u2 : Value} (h : oneB v = true) (r : RelV v u) (r2 : RelV v u2) : SeqAt.EqAt A s u u2 true := by
  cases v with
  | non => cases r; cases r2; exact SeqAt.EqAt.same _
  | bl b => cases r; cases r2; exact SeqAt.EqAt.same _
  | ref p => cases r; cases r2; exact SeqAt.EqAt.same _
  | int i =>
    obtain ⟨t, rfl⟩ := id r
    obtain ⟨t2, rfl⟩ := id r2
    have := SeqAt.EqAt.int_int (A := A) (s := s) i t i t2
    rwa [beq_self_eq_true] at this
  | str z =>
    obtain ⟨t, rfl⟩ := id r
    obtain ⟨t2, rfl⟩ := id r2
    have := SeqAt.EqAt.str_str (A := A) (s := s) z t z t2
    rwa [beq_self_eq_true] at this
  | _ => cases h
def rNeIds (K : Frag) : R2 := fun x y H Q => ∃ p q xs, x = .ref p ∧ y = .ref q ∧ SqL K H p xs ∧ SqL K H q xs ∧ (∀ v ∈ xs, oneB v = true) ∧ Q (.bl false) H
theorem op_neIds (hK : X.K = K) (hu : X.A.units < cLine) : OpR X (compareOp .NotEq) (rNeIds K) := by
  subst hK
  rintro pins s σ H x y v u Q I rx ry ⟨p, p2, xs, rfl, rfl, hs, hs2, ho, q⟩
  cases rx
  cases ry
  obtain ⟨us, r1, p1, _⟩ := I.list hs
  obtain ⟨ws, r2, p2, _⟩ := I.list hs2
  have hl : us.length = ws.length := by rw [← r1.length, r2.length]
  refine SeqAt.RcNeAt.lists (e := fun _ => true) p1.isList p2.isList (by rw [List.size_toArray, List.size_toArray, hl]) hu (fun j h1 h2 => ?_) X.prog X.w _ _ ?_
  · have h1' : j < us.length := by simpa using h1
    have hx : j < xs.length := by rw [r1.length]; exact h1'
    obtain ⟨u1, g1, e1⟩ := Vals.get r1 (List.getElem?_eq_getElem hx)
    obtain ⟨u2, g2, e2⟩ := Vals.get r2 (List.getElem?_eq_getElem hx)
    have q1 : us.toArray[j] = u1 := by rw [List.getElem_toArray]; exact (List.getElem?_eq_some_iff.mp g1).2
    have q2 : ws.toArray[j] = u2 := by rw [List.getElem_toArray]; exact (List.getElem?_eq_some_iff.mp g2).2
    rw [q1, q2]
    exact eq_one (ho _ (List.getElem_mem hx)) e1 e2
  · refine ⟨.bl false, H, I, ?_, q⟩
    rw [show ((List.range us.toArray.size).all fun _ => true) = true from List.all_eq_true.mpr fun _ _ => rfl]
    rfl
end
end BJ

/-! instances that are called: v(e, .., k = w, ..) where v is an expression that gives an instance whose class has __call__ -/
namespace BJ
open PySem PySem.Spec PyProof.Rows L2 Evl
open PySem.W (Frag)
section
variable {X : Cx} {W : WX} {e fe : Expr} {es : List Expr} {kws : List Keyword} {tf : TE} {t tk : TA} {pos : Pos} {ks : List Str}
/-- the instance's class and the promise of its __call__ are told by the reading -/
def tIc (X : Cx) (W : WX) (tf : TE) (t tk : TA) (ks : List Str) : TE := fun σ H Q => tf σ H fun x H1 => ∃ (a C dx g : Addr) (fs : List (Str × V)) (k : Nat) (spk : SpK), x = .ref a ∧ H1 a = some (.ins C dx fs) ∧ StX.CallO X.K C g ∧
  CallX X.prog X.w X.K X.mg X.base k (.ref g) ks spk ∧ Room k X.A ∧ t σ H1 fun vs H2 => tk σ H2 fun zs H3 => (∃ fs', H3 a = some (.ins C dx fs')) ∧ spk (x :: vs) zs H3 Q fun cls d H' => W cls d σ H'
theorem run_ic {pins : List (Addr × Obj)} {σ : L2.St} {H : Hp} {s : Shared} {Q : VK} {a g C dx : Addr} {fs : List (Str × V)} {k : Nat} {spk : SpK} {us ws : List Value} {vs zs : List V} (c : StX.CallO X.K C g) (F : CallX X.prog X.w X.K X.mg X.base k (.ref g) ks spk) (hr : Room k X.A) (tkW : Takes X W)
    (I : Inv X pins σ H s) (hi : H a = some (.ins C dx fs)) (r : Vals vs us) (rz : Vals zs ws) (h : spk (.ref a :: vs) zs H Q fun cls d H' => W cls d σ H') :
    (∃ C ox od, PySem.W.InstAt s.heap a ox C od ∧ ox.data = .plain) ∧ wpAny (model X.prog X.w) X.A (call (.ref a) us (ks.zip ws)) (EP X pins σ Q) X.xe s := by
  obtain ⟨ox, od, J, hd⟩ := StX.insC_at I (C := C) (.inr ⟨dx, fs, hi⟩)
  refine ⟨⟨C, ox, od, J, hd⟩, wpAny_call (PySem.W.kco_code I.kIn J hd c.at_ c.fn c.fi ?_)⟩
  refine codeAny_mono (F X.A X.stack s H (.ref a :: us) ws (.ref a :: vs) zs Q _ hr I.env0 (.cons rfl r) rz h) ?_
  intro res s' hq
  match res, hq with
  | .error e, hq => exact tkW e s' (XE.of_call I (fun _ _ _ z => z) hq)
  | .ok (.ret u), hq => exact I.after hq
/-- the callee is an instance: whatever stands there behind the arguments -/
theorem inst_call {M : Model} {A : Around} {E : Value → Shared → Prop} {s : Shared} {a : Addr} {Q : Value → Shared → Prop} {args : List (Bool × Sem Value)} {kwa : List (Option Str × Sem Value)}
    (hp : (args.any (·.1) || kwa.any (·.1.isNone)) = false)
    (h : wpAny M A (evalArgs (.ref a) true args kwa) (fun z s1 => (∃ C ox od, PySem.W.InstAt s1.heap a ox C od ∧ ox.data = .plain) ∧ wpAny M A (call (.ref a) ([] ++ z.pos) z.kw) Q E s1) E s) :
    wpAny M A (callWith pos (.ref a) [] args kwa) Q E s := by
  unfold callWith
  apply wpAny_bind
  apply wpAny_holding
  refine wpAny_mono h ?_ fun _ _ y => y
  rintro z s1 ⟨⟨C, ox, od, J, hd⟩, hc⟩
  apply wpAny_bind
  apply wpAny_standAt
  have K1 := PySem.W.kco_keeper (M := M) J hd
  simp only [hp]
  refine wpAny_bind (K1.here ?_)
  refine wpAny_bind (wpAny_mono (wpAny_operateT hc) ?_ fun _ _ y => y)
  intro r s2 hr
  apply wpAny_bind
  apply wpAny_holding
  exact wpAny_point (wpAny_pure hr)
theorem pe_ic (hf : PE X fe tf) (tkW : Takes X W) (ha : PA X (e :: es) t) (hkw : PK X kws tk)
    (hall : (backToKw pos (keywordEach kws X.env)).all (·.1.isSome) = true := by rfl) (hks : (backToKw pos (keywordEach kws X.env)).filterMap (·.1) = ks := by rfl)
    (hst : starEach (e :: es) X.env = (false, eval e X.env) :: starEach es X.env := by rfl)
    (hpl : ((backTo pos (starEach (e :: es) X.env)).any (·.1) || (backToKw pos (keywordEach kws X.env)).any (·.1.isNone)) = false := by rfl)
    (ht : eval (.Call fe (e :: es) kws pos) X.env = (do callWith pos (← eval fe X.env) [] (backTo pos (starEach (e :: es) X.env)) (backToKw pos (keywordEach kws X.env))) := by rfl) :
    PE X (.Call fe (e :: es) kws pos) (tIc X W tf t tk ks) := by
  refine ⟨fun pins s σ H Q I h => ?_⟩
  rw [ht]
  refine wpAny_bind (thn (hf.run pins s σ H _ I h) fun u s1 ⟨y, H1, I1, ry, a, C, dx, g, fs, k, spk, ey, ea, c, F, hr, q⟩ => ?_)
  subst ey
  obtain rfl : u = Value.ref a := ry
  refine inst_call hpl ?_
  refine PyProof.Rows.evalArgs_kw2 hall (thn (ha.run pos pins s1 σ H1 _ I1 q) fun us s2 ⟨vs, H2, I2, r, q2⟩ => ?_) hst
  refine thn (hkw.run pos pins s2 σ H2 _ I2 q2) ?_
  rintro ws s3 ⟨zs, H3, I3, rz, ⟨fs', ha3⟩, q3⟩
  rw [hks]
  exact run_ic c F hr tkW I3 ha3 r rz q3
theorem pe_ic0 (hf : PE X fe tf) (tkW : Takes X W) (hkw : PK X kws tk)
    (hall : (backToKw pos (keywordEach kws X.env)).all (·.1.isSome) = true := by rfl) (hks : (backToKw pos (keywordEach kws X.env)).filterMap (·.1) = ks := by rfl)
    (hpl : ((backTo pos (starEach [] X.env)).any (·.1) || (backToKw pos (keywordEach kws X.env)).any (·.1.isNone)) = false := by rfl)
    (ht : eval (.Call fe [] kws pos) X.env = (do callWith pos (← eval fe X.env) [] (backTo pos (starEach [] X.env)) (backToKw pos (keywordEach kws X.env))) := by rfl) :
    PE X (.Call fe [] kws pos) (tIc X W tf tNil tk ks) := by
  refine ⟨fun pins s σ H Q I h => ?_⟩
  rw [ht]
  refine wpAny_bind (thn (hf.run pins s σ H _ I h) fun u s1 ⟨y, H1, I1, ry, a, C, dx, g, fs, k, spk, ey, ea, c, F, hr, q⟩ => ?_)
  subst ey
  obtain rfl : u = Value.ref a := ry
  refine inst_call hpl ?_
  refine PyProof.Rows.evalArgs_kw2_nil hall (thn (hkw.run pos pins s1 σ H1 _ I1 q) ?_)
  rintro ws s3 ⟨zs, H3, I3, rz, ⟨fs', ha3⟩, q3⟩
  rw [hks]
  exact run_ic c F hr tkW I3 ha3 .nil rz q3
end
end BJ

/-! C() of a class that has no __init__ but object's -/
namespace BJ
open PySem PySem.Spec PyProof.Rows L2 Evl StX ClX
open PySem.W (Frag)
structure Mk0 (K : Frag) (C : Addr) : Prop where
  makes : PySem.W.makesIn K C = true
  init : PySem.W.findIn K (.ref C) "__init__" = some (some (.builtin "object.__init__"))
section
variable {P : Program} {w : World} {K : Frag} {mg : Str → Option Value} {base : Heap}
theorem CallX.make0 {C : Addr} (M : Mk0 K C) : CallX P w K mg base 1 (.ref C) [] fun vs zs H Q E => vs = [] ∧ zs = [] ∧ ∀ x dx, H x = none → H dx = none → dx ≠ x → Q (.ref x) (upd (upd H dx (.own x)) x (.ins C dx [])) := by
  rintro A outer s H us ws vs zs Q E hr e0 r rz ⟨rfl, rfl, h⟩
  cases r
  cases rz
  have KX : K.In s.heap := e0.mod.kin.keeps fun b o e => (e0.bs b o e).1
  have n1 : H s.heap.objs.size = none := e0.hok.fresh (Nat.le_refl _)
  have n2 : H (s.heap.objs.size + 1) = none := e0.hok.fresh (Nat.le_succ _)
  have hq := h (s.heap.objs.size + 1) s.heap.objs.size n2 n1 (Nat.ne_of_lt (Nat.lt_succ_self _))
  have e1' : (s.heap.push PySem.W.emptyDict).get? s.heap.objs.size = some PySem.W.emptyDict := Heap.get?_push_size s.heap rfl
  have z1 : (s.heap.push PySem.W.emptyDict).objs.size = s.heap.objs.size + 1 := Heap.size_push _ _
  have e2' : ((s.heap.push PySem.W.emptyDict).push (PySem.W.instObj C s.heap.objs.size)).get? (s.heap.objs.size + 1) = some (PySem.W.instObj C s.heap.objs.size) := by
    have := Heap.get?_push_size (s.heap.push PySem.W.emptyDict) (o := PySem.W.instObj C s.heap.objs.size) rfl
    rwa [Heap.size_push] at this
  have e3 : (s.heap.push PySem.W.emptyDict).Ns s.heap.objs.size (fun _ => none) := ⟨PySem.W.emptyDict, #[], _, e1', rfl, (fun e he => absurd he (by simp)), fun _ => rfl⟩
  have E1 := env0_laid (o := PySem.W.emptyDict) (u := .own (s.heap.objs.size + 1)) e0 ⟨_, e1'⟩
  have ne : s.heap.objs.size ≠ s.heap.objs.size + 1 := Nat.ne_of_lt (Nat.lt_succ_self _)
  have E2 : Env0 P w K mg base A outer { s with heap := (s.heap.push PySem.W.emptyDict).push (PySem.W.instObj C s.heap.objs.size) } (upd (upd H s.heap.objs.size (.own (s.heap.objs.size + 1))) (s.heap.objs.size + 1) (.ins C s.heap.objs.size [])) := by
    have new : ObjOk P w (upd (upd H s.heap.objs.size (.own (s.heap.objs.size + 1))) (s.heap.push PySem.W.emptyDict).objs.size (.ins C s.heap.objs.size [])) ((s.heap.push PySem.W.emptyDict).push (PySem.W.instObj C s.heap.objs.size)) (s.heap.push PySem.W.emptyDict).objs.size (.ins C s.heap.objs.size []) := by
      rw [z1]
      exact ⟨by rw [upd_ne ne, upd_same], Nat.zero_le _, ne, e2', fun _ => none, (Heap.Ns1.of_empty e3).at fun o q => Heap.get?_push_of_some _ q, fun _ => True.intro, fun y hy => absurd rfl hy⟩
    have := env0_laid (s := { s with heap := s.heap.push PySem.W.emptyDict }) (o := PySem.W.instObj C s.heap.objs.size) (u := .ins C s.heap.objs.size []) E1 new
    have e : ({ s with heap := s.heap.push PySem.W.emptyDict } : Shared).heap.objs.size = s.heap.objs.size + 1 := z1
    rw [e] at this
    exact this
  have un : Un (frs outer) [] H (upd (upd H s.heap.objs.size (.own (s.heap.objs.size + 1))) (s.heap.objs.size + 1) (.ins C s.heap.objs.size [])) s.heap ((s.heap.push PySem.W.emptyDict).push (PySem.W.instObj C s.heap.objs.size)) := by
    have u1 := un_laid (fs := frs outer) (s := s) (o := PySem.W.emptyDict) (u := .own (s.heap.objs.size + 1)) n1
    have u2 := un_laid (fs := frs outer) (s := { s with heap := s.heap.push PySem.W.emptyDict }) (H := upd H s.heap.objs.size (.own (s.heap.objs.size + 1))) (o := PySem.W.instObj C s.heap.objs.size) (u := .ins C s.heap.objs.size []) (by
      show upd H s.heap.objs.size (.own (s.heap.objs.size + 1)) (s.heap.push PySem.W.emptyDict).objs.size = none
      rw [z1, upd_ne ne.symm]
      exact n2)
    have e : ({ s with heap := s.heap.push PySem.W.emptyDict } : Shared).heap.objs.size = s.heap.objs.size + 1 := z1
    rw [e] at u2
    exact u1.trans u2
  have Y := PySem.W.makes_of (M := model P w) KX M.makes
  have tI : PySem.W.Looks (model P w) ((s.heap.push PySem.W.emptyDict).push (PySem.W.instObj C s.heap.objs.size)) (typeOf (.ref (s.heap.objs.size + 1))) (.ref C) := (PySem.W.Looks.ld e2').andThen .now
  have tO : PySem.W.Looks (model P w) ((s.heap.push PySem.W.emptyDict).push (PySem.W.instObj C s.heap.objs.size)) (isInstance (.ref (s.heap.objs.size + 1)) (.type "object")) true :=
    tI.andThen (Y.top.keeps fun b o e => Heap.get?_push_of_some _ (Heap.get?_push_of_some _ e))
  refine make_map0 KX M.makes M.init (fun self => PySem.W.Looks.of_pure (PySem.W.oi_bind self)) ?_
  have chk := fun Q2 q2 => @PySem.W.check_slot (model P w) (A.under (.builtin "type.__call__" ⟨[.ref C], []⟩)).in1 (fun e s' => PySem.W.InitBack (s.heap.objs.size + 1) (CR (CX P w) outer P w H s Q E) (.error e) s') { s with heap := (s.heap.push PySem.W.emptyDict).push (PySem.W.instObj C s.heap.objs.size) }
    "object.__init__" "object" "__init__" (.ref (s.heap.objs.size + 1)) [] [] Q2 PySem.W.oi_kind PySem.W.oi_split tO (PySem.W.oi_args _) q2
  refine codeAny_call_builtin PySem.W.oi_plain PySem.W.entry_oi (chk _ ?_)
  rw [PySem.W.oi_run]
  exact wpAny_pure (And.intro rfl (show CR (CX P w) outer P w H s Q E (.ok (.ret (.ref (s.heap.objs.size + 1)))) _ from ⟨V.ref (s.heap.objs.size + 1), _, rfl, E2.bare, un, E2.hok, rfl, hq⟩))
end
end BJ

/-! a field as a target (o.f, p.g = ..) -/
namespace BJ
open PySem PySem.Spec PyProof.Rows L2 Evl
open PySem.W (Frag)
section
variable {X : Cx} {o : Expr} {to : TE} {f : Str} {pos : Pos}
def gFld (K : Frag) (to : TE) (f : Str) : TG := fun v σ H Q => to σ H fun x H1 => ∃ a C dx fs, x = V.ref a ∧ H1 a = some (.ins C dx fs) ∧ Cls K C ∧ NoAttr K C f ∧ fs.length < 1000 ∧ Q σ (upd H1 a (.ins C dx (putF f v fs)))
theorem pg_fld (ho : PE X o to) : PG X (.Attribute o f pos) (gFld X.K to f) := by
  refine ⟨fun pins s σ H v u Q I r h => ?_⟩
  rw [assign_Attribute]
  refine wpAny_bind (wpAny_holding (thn (ho.run pins s σ H _ I h) fun ov s1 ⟨x, H1, I1, r1, a, C, dx, fs, ex, ea, c, n, l, q⟩ => ?_))
  subst ex
  obtain rfl : ov = Value.ref a := r1
  refine wpAny_bind (wpAny_standAt (wpAny_bind (wpAny_holding (setattr_ok I1 ea c n l r fun s2 I2 => ?_))))
  exact wpAny_release ⟨σ, _, I2, q⟩
end
end BJ

/-! != of two instances of one class without an __eq__ or __ne__ of its own -/
namespace BJ
open PySem PySem.Spec PyProof.Rows PySem.SeqAt
open PySem.W (Frag)
section
variable {M : Model} {prog : Program} {w : World} {A : Around} {E : Value → Shared → Prop} {s : Shared} {K : PySem.W.Frag} {x y C : Addr} {ox oy : Obj} {od oe : Option Obj}
theorem ifBound_objNe {args : List Value} {Q : Option Value → Shared → Prop} (X : K.In s.heap) (I : PySem.W.InstAt s.heap x ox C od) (hs : PySem.W.findIn K (.ref C) "__ne__" = some (some (.builtin "object.__ne__")))
    (h : wpAny M A (call (.builtin "object.__ne__") (.ref x :: args)) (fun v => Q (some v)) E s) : wpAny M A (callSpecialIfBound? (.ref x) "__ne__" args) Q E s := by
  have fin := wpAny_bind (wpAny_mono h (fun v s' (h' : Q (some v) s') => wpAny_pure (M := M) (A := A) (E := E) h') fun _ _ h' => h')
  refine wpAny_holding (wpAny_bind (wpAny_bind (wpAny_bind (I.type.here ((PySem.W.looks_findIn X hs).here (wpAny_bind (wpAny_askSetting (wpAny_ite ?_))))))))
  split
  · exact wpAny_bind (wpAny_of_eq (F.cmp_object.ne.bind (.ref x)) (wpAny_pure fin))
  · exact wpAny_tryCatch (wpAny_bind (wpAny_of_eq (F.cmp_object.ne.bind (.ref x)) (wpAny_pure fin)))
theorem objNe_entry {Q : PySem.Fin → Shared → Prop} (hu : A.units < cLine) (X : K.In s.heap) (I : PySem.W.InstAt s.heap x ox C od) (hm : PySem.W.mroIn K C (.type "object") = some true) (hs : PySem.W.findIn K (.ref C) "__eq__" = some (some (.builtin "object.__eq__")))
    (h : Q (.done (.ret (.bool false))) s) : wpAny (model prog w) A (Builtin.«object.__ne__» ⟨[.ref x, .ref x], []⟩) Q E s := by
  unfold Builtin.«object.__ne__»
  refine wpAny_bind ?_
  unfold slotArgs
  refine wpAny_ite_false rfl (wpAny_ite_false rfl (wpAny_pure ?_))
  refine wpAny_bind (wpAny_cRoomFor hu (wpAny_bind ?_))
  refine HN.ifBound_objEq X I hs (wpAny_call (codeAny_call_builtin F.cmp_object.eq.plain F.cmpEntry_eq (PySem.W.check_slot F.cmpKind_eq F.cmpSplit_eq (I.type.andThen (PySem.W.looks_mroIn X hm)) (F.cmpArgs_eq _ _) (objEq_entry_same ?_))))
  exact wpAny_bind (wpAny_pure (wpAny_pure h))
theorem rn_insSame (hu : A.units + 1 < cLine) (X : K.In s.heap) (I : PySem.W.InstAt s.heap x ox C od) (hm : PySem.W.mroIn K C (.type "object") = some true) (hs : PySem.W.findIn K (.ref C) "__eq__" = some (some (.builtin "object.__eq__"))) (hn : PySem.W.findIn K (.ref C) "__ne__" = some (some (.builtin "object.__ne__"))) :
    RcNeAt A s (.ref x) (.ref x) false := fun prog w E Q h => by
  have one : wpAny (model prog w) A (tryCompare (.ref x) "__ne__" (.ref x)) (fun r s' => r = some (.bool false) ∧ s' = s) E s := by
    unfold tryCompare
    refine wpAny_bind (ifBound_objNe X I hn (wpAny_call (codeAny_call_builtin F.cmp_object.ne.plain F.cmpEntry_ne (PySem.W.check_slot F.cmpKind_ne F.cmpSplit_ne (I.type.andThen (PySem.W.looks_mroIn X hm)) (F.cmpArgs_ne _ _) ?_))))
    refine objNe_entry ?_ X I hm hs ?_
    · exact hu
    · exact wpAny_pure ⟨rfl, rfl⟩
  simp only [richCompare, cmpInfo_NotEq, oneThing_ref]
  refine wpAny_holding (wpAny_bind (wpAny_cRoomFor (by omega) ?_))
  refine wpAny_bind (I.type.here ?_)
  refine wpAny_bind (I.type.here ?_)
  split
  · rename_i q
    simp at q
  · refine wpAny_bind (wpAny_pure ?_)
    simp only [Bool.false_eq_true, if_false, Bool.not_false, if_true]
    refine wpAny_bind (m := tryCompare (.ref x) _ (.ref x)) (wpAny_mono one (fun r s1 z => ?_) fun _ _ e => e)
    obtain ⟨z1, z2⟩ := z
    subst z1
    subst z2
    exact wpAny_pure h
end
/-- what the text says of a class whose instances differ from all others but themselves -/
structure IdNe (K : Frag) (C : Addr) : Prop where
  i : IdEq K C
  n : PySem.W.findIn K (.ref C) "__ne__" = some (some (.builtin "object.__ne__"))
open L2 in
def rNeI (K : Frag) : R2 := fun x y H Q => ∃ a C dx fs, x = .ref a ∧ y = .ref a ∧ H a = some (.ins C dx fs) ∧ IdNe K C ∧ Q (.bl false) H
open L2 in
theorem op_neI {X : Cx} {K : Frag} (hK : X.K = K) (hu : X.A.units + 64 < cLine) : OpR X (compareOp .NotEq) (rNeI K) := by
  subst hK
  rintro pins s σ H x y v u Q I rx ry ⟨a, C, dx, fs, rfl, rfl, ha, ie, q⟩
  cases rx
  cases ry
  obtain ⟨mA, O, _⟩ := ins_get I.hok ha
  obtain ⟨od, J, _⟩ := O.look
  exact rn_insSame (by omega) I.kIn J ie.i.m ie.i.e ie.n _ _ _ _ ⟨.bl _, H, I, rfl, q⟩
theorem putK_le {κ : Type} [DecidableEq κ] (kvs : List (κ × L2.V)) (k : κ) (v : L2.V) : (L2.putK kvs k v).length ≤ kvs.length + 1 := by
  unfold L2.putK
  split
  · rw [List.length_map]; omega
  · rw [List.length_append]; exact Nat.le_refl _
end BJ

/-! a if c else b as a test -/
namespace BJ
open PySem PySem.Spec PyProof.Rows L2 Evl
section
variable {X : Cx} {c a b : Expr} {tc ta tb : TT} {pos : Pos} {σ : L2.St} {H : Hp}
def tIfT (tc ta tb : TT) : TT := fun σ H Q => tc σ H fun k H1 => if k = true then ta σ H1 Q else tb σ H1 Q
theorem pt_ifT (hc : PT X c tc) (ha : PT X a ta) (hb : PT X b tb) : PT X (.IfExp c a b pos) (tIfT tc ta tb) where
  run pins s σ H Q I h := by
    unfold PySem.isTrue
    refine wpAny_bind (thn (hc.run pins s σ H _ I h) fun d s1 x => ?_)
    obtain ⟨H1, I1, q1⟩ := x
    cases d with
    | true => exact ha.run pins s1 σ H1 Q I1 q1
    | false => exact hb.run pins s1 σ H1 Q I1 q1
theorem et_ifT {k v : Bool} (hc : EvT tc σ H k) (ha : k = true → EvT ta σ H v) (hb : k = false → EvT tb σ H v) : EvT (tIfT tc ta tb) σ H v := fun H1 e Q q => hc H1 e _ fun H2 e2 => by
  cases k with
  | true => exact ha rfl H2 (e.trans e2) Q fun H3 e3 => q H3 (e2.trans e3)
  | false => exact hb rfl H2 (e.trans e2) Q fun H3 e3 => q H3 (e2.trans e3)
end
end BJ

/-! what evaluates to a list of pairs (tuples that hold a key and a value): EvR; comprehensions over such lists -/
namespace BJ
open PySem PySem.Spec PyProof.Rows L2 Evl
open PySem.W (Frag)
section
variable {K : Frag} {σ : L2.St} {H : Hp} {te tl : TE} {tt : TT} {wi : TI} {vs : List Nat} {kvs : List (Key × V)} {xs : List V} {D : Ends} {i : Nat}
def EvR (K : Frag) (te : TE) (σ : L2.St) (H : Hp) (kvs : List (Key × V)) : Prop := ∀ H1, Ex H H1 → ∀ Q : VK, (∀ p ts H2, Ex H1 H2 → SqL K H2 p (ts.map V.ref) → Prs H2 ts kvs → Q (.ref p) H2) → te σ H1 Q
theorem er_var {p : Addr} {ts : List Addr} (h : σ[i]? = some (some (.ref p))) (hp : SqL K H p (ts.map V.ref)) (hP : Prs H ts kvs) : EvR K (tVar i) σ H kvs := fun H1 e Q q => ⟨_, h, q p ts H1 (Ex.refl _) (ex_l e hp) (hP.ex e)⟩
theorem EvR.mono {H' : Hp} (h : EvR K te σ H kvs) (e : Ex H H') : EvR K te σ H' kvs := fun H1 e1 Q q => h H1 (e.trans e1) Q q
/-- list(e) of a tuple of pairs -/
theorem er_list (h : ∀ H1, Ex H H1 → ∀ Q : VK, (∀ t ts H2, Ex H1 H2 → H2 t = some (.tup (ts.map V.ref)) → Prs H2 ts kvs → Q (.ref t) H2) → te σ H1 Q) : EvR K (tCB (rListS K) (tCons te tNil)) σ H kvs := fun H1 e Q q =>
  h H1 e _ fun t ts H2 e2 ht hP => ⟨t, _, rfl, .inr (st_of ht), fun l nl => q l ts _ (e2.trans (Ex.new nl)) (sq_of upd_same) (hP.ex (Ex.new nl))⟩
theorem prs_nm {H : Hp} {ts : List Addr} {kvs : List (Key × V)} (h : Prs H ts kvs) {i : Nat} (hi : i < kvs.length) : ∃ t, (ts.map V.ref)[i]? = some (.ref t) ∧ H t = some (.tup [kV kvs[i].1, kvs[i].2]) := by
  obtain ⟨t, h1, h2⟩ := Prs.get h i _ (List.getElem?_eq_getElem hi)
  exact ⟨t, by rw [List.getElem?_map, h1]; rfl, h2⟩
theorem given_pick {α β : Type} (xs : List α) (d : α) (f : α → Bool) (F : α → β) : ((List.range xs.length).filter fun i => f (xs.getD i d)).map (fun i => F (xs.getD i d)) = (xs.filter f).map F := by
  have h : (List.range xs.length).map (fun i => xs.getD i d) = xs := by
    apply List.ext_getElem
    · simp
    · intro i h1 h2
      simp [List.getD, h2]
  have h2 := congrArg (fun l => (l.filter f).map F) h
  simp only [List.filter_map, List.map_map] at h2
  exact h2
/-- the walk of a comprehension whose turn makes a pair -/
theorem lc_er {J : It} {n : Nat} {G : Hp → Prop} {Y : Nat → Hp → V → Hp → Prop} (w : Walk J n G Y) {g : TG} {H1 : Hp} {Q : VK} (f : Nat → Bool) (v : Nat → Key × V) (hn : n ≤ 100000) (hG : ∀ H, Ex H1 H → G H)
    (hs : ∀ i x H2 H3, i < n → Ex H1 H2 → Y i H2 x H3 → ∃ σ2, wipe σ2 vs = wipe σ vs ∧ Ex H2 H3 ∧ (∀ Q : L2.St → Hp → Prop, Q σ2 H3 → g x (wipe σ vs) H3 Q) ∧ EvT tt σ2 H1 (f i) ∧ (f i = true → EvU te σ2 H1 [kV (v i).1, (v i).2]))
    (k : ∀ D ts H', H1 D = none → Ex H1 H' → H' D = some (.lst (ts.map V.ref)) → Prs H' ts (((List.range n).filter f).map v) → Q (.ref D) H') :
    ∀ D, H1 D = none → ∃ W : Nat → Nat → Hp → Prop, (∃ m, W 0 m (upd H1 D (.lst []))) ∧ ∀ i m H, W i m H →
      (J.stop i H ∧ Q (.ref D) H) ∨ (J.go i H ∧ ∃ Nx : Hp → Prop, (∀ H', Nx H' → ∃ m', m' < m ∧ W (i + 1) m' H') ∧ ∀ x H', J.yld i H x H' → g x (wipe σ vs) H' fun σ2 H2 => wipe σ2 vs = wipe σ vs ∧ tt σ2 H2 fun b H3 =>
        if b = true then te σ2 H3 fun y H4 => ∃ acc, H4 D = some (.lst acc) ∧ acc.length < sizeLine ∧ Nx (upd H4 D (.lst (acc ++ [y]))) else Nx H3) := fun Dl nD => by
  refine lc_it w (fun i H' => Ex H1 H' ∧ ∃ ts, H' Dl = some (.lst (ts.map V.ref)) ∧ Prs H' ts (((List.range i).filter f).map v) ∧ ∀ t ∈ ts, t ≠ Dl) ⟨Ex.new nD, [], upd_same, .nil, fun t h => nomatch h⟩ (fun i H' _ h => hG H' h.1) (fun i x H2 H3 hi h y => ?_) fun H' h => ?_
  · obtain ⟨e2, ts, hx, hts, hne⟩ := h
    obtain ⟨σ2, hw, e3, hg, ht, he⟩ := hs i x H2 H3 hi e2 y
    refine hg _ ⟨hw, ?_⟩
    refine ht H3 (e2.trans e3) _ fun H4 e4 => ?_
    have hx4 := (e3.trans e4) _ _ hx
    have hts4 := hts.ex (e3.trans e4)
    have hlen := hts.len
    rw [List.length_map] at hlen
    have hfl := List.length_filter_le f (List.range i)
    rw [List.length_range] at hfl
    cases hf : f i with
    | false =>
      refine iteF ⟨(e2.trans e3).trans e4, ts, hx4, ?_, hne⟩
      rw [List.range_succ, List.filter_append]
      simp only [List.filter_cons, hf, List.filter_nil, Bool.false_eq_true, if_false, List.append_nil]
      exact hts4
    | true =>
      refine iteT ?_
      refine he hf H4 ((e2.trans e3).trans e4) _ fun t H5 nt e5 ht5 => ?_
      have htD : t ≠ Dl := fun z => by rw [z, hx4] at nt; cases nt
      refine ⟨_, e5 _ _ hx4, (by rw [List.length_map, sizeLine_eq]; omega), Ex.mut (((e2.trans e3).trans e4).trans e5) nD, ts ++ [t], (by rw [List.map_append]; exact upd_same), ?_, fun t' ht' => ?_⟩
      · rw [List.range_succ, List.filter_append]
        simp only [List.filter_cons, hf, List.filter_nil, if_true, List.map_append, List.map_cons, List.map_nil]
        refine Prs.snoc (by rw [upd_ne htD]; exact ht5) (hts4.keep fun t' ht' o ho => ?_)
        rw [upd_ne (hne t' ht')]
        exact e5 _ _ ho
      · rcases List.mem_append.mp ht' with h | h
        · exact hne t' h
        · rw [List.mem_singleton.mp h]; exact htD
  · obtain ⟨e2, ts, hx, hts, hne⟩ := h
    exact k Dl ts H' nD e2 hx hts
/-- [(..) for a, b in pairs if ..] -/
theorem er_prs {j l : Nat} {ts : List Addr} (hi : EvI wi σ H (ts.map V.ref)) (hP : Prs H ts kvs) (f : Key × V → Bool) (F : Key × V → Key × V) (hn : kvs.length ≤ 100000) (hw : ∀ x y, wipe (((wipe σ vs).set j (some x)).set l (some y)) vs = wipe σ vs)
    (ht : ∀ q ∈ kvs, ∀ H1, Ex H H1 → EvT tt (((wipe σ vs).set j (some (kV q.1))).set l (some q.2)) H1 (f q)) (he : ∀ q ∈ kvs, f q = true → ∀ H1, Ex H H1 → EvU te (((wipe σ vs).set j (some (kV q.1))).set l (some q.2)) H1 [kV (F q).1, (F q).2]) :
    EvR K (tLc wi (gTup K 2 (gCons (gName j) (gCons (gName l) gNil))) tt te vs) σ H ((kvs.filter f).map F) := fun H1 e1 Q k => by
  have hl := Prs.len hP
  refine hi H1 e1 _ fun H2 J G e2 w hG => ?_
  have e12 := e1.trans e2
  refine lc_er w (fun i => f (kvs.getD i (.inl 0, .non))) (fun i => F (kvs.getD i (.inl 0, .non))) (by rw [List.length_map, hl]; exact hn) hG (fun i x H3 H4 hlt e3 y => ?_) (fun D ts' H' nD e' hx hts => ?_)
  · rw [List.length_map, hl] at hlt
    obtain ⟨rfl, hx⟩ := y
    obtain ⟨t, h1, h2⟩ := prs_nm hP hlt
    rw [h1] at hx
    cases hx
    have hd : kvs.getD i (.inl 0, .non) = kvs[i] := by rw [List.getD, List.getElem?_eq_getElem hlt]; rfl
    rw [hd]
    have hm := List.getElem_mem hlt
    exact ⟨_, hw _ _, Ex.refl _, fun Q q => ⟨t, _, rfl, st_of (e3 _ _ (e12 _ _ h2)), rfl, _, _, rfl, _, _, rfl, rfl, q⟩, ht _ hm H2 e12, fun hf => he _ hm hf H2 e12⟩
  · refine k D ts' H' (e2.trans e') (sq_of hx) ?_
    have hr : ((List.range (ts.map V.ref).length).filter (fun i => f (kvs.getD i (.inl 0, .non)))).map (fun i => F (kvs.getD i (.inl 0, .non))) = (kvs.filter f).map F := by
      rw [List.length_map, hl]
      exact given_pick kvs _ f F
    rw [hr] at hts
    exact hts
/-- [.. for a, b in pairs if ..] -/
theorem el_prs {j l : Nat} {ts : List Addr} (hi : EvI wi σ H (ts.map V.ref)) (hP : Prs H ts kvs) (f : Key × V → Bool) (F : Key × V → V) (hn : kvs.length ≤ 100000) (hw : ∀ x y, wipe (((wipe σ vs).set j (some x)).set l (some y)) vs = wipe σ vs)
    (ht : ∀ q ∈ kvs, ∀ H1, Ex H H1 → EvT tt (((wipe σ vs).set j (some (kV q.1))).set l (some q.2)) H1 (f q)) (he : ∀ q ∈ kvs, f q = true → ∀ H1, Ex H H1 → Ev te (((wipe σ vs).set j (some (kV q.1))).set l (some q.2)) H1 (F q)) :
    EvL (tLc wi (gTup K 2 (gCons (gName j) (gCons (gName l) gNil))) tt te vs) σ H ((kvs.filter f).map F) := fun H1 e1 Q k => by
  have hl := Prs.len hP
  refine hi H1 e1 _ fun H2 J G e2 w hG => ?_
  have e12 := e1.trans e2
  refine BJ.lc_ev w (fun i => f (kvs.getD i (.inl 0, .non))) (fun i => F (kvs.getD i (.inl 0, .non))) (by rw [List.length_map, hl]; omega) hG (fun i x H3 H4 hlt e3 y => ?_) (fun D H' nD e' hx => ?_)
  · rw [List.length_map, hl] at hlt
    obtain ⟨rfl, hx⟩ := y
    obtain ⟨t, h1, h2⟩ := prs_nm hP hlt
    rw [h1] at hx
    cases hx
    have hd : kvs.getD i (.inl 0, .non) = kvs[i] := by rw [List.getD, List.getElem?_eq_getElem hlt]; rfl
    rw [hd]
    have hm := List.getElem_mem hlt
    exact ⟨_, hw _ _, Ex.refl _, fun Q q => ⟨t, _, rfl, st_of (e3 _ _ (e12 _ _ h2)), rfl, _, _, rfl, _, _, rfl, rfl, q⟩, ht _ hm H2 e12, fun hf => he _ hm hf H2 e12⟩
  · refine k D H' (fresh_back e2 nD) (e2.trans e') ?_
    unfold Evl.given at hx
    have hr : ((List.range (ts.map V.ref).length).filter (fun i => f (kvs.getD i (.inl 0, .non)))).map (fun i => F (kvs.getD i (.inl 0, .non))) = (kvs.filter f).map F := by
      rw [List.length_map, hl]
      exact given_pick kvs _ f F
    rw [hr] at hx
    exact hx
/-- [(..) for x in ..] -/
theorem er_nm {j : Nat} (hi : EvI wi σ H xs) (F : V → Key × V) (hn : xs.length ≤ 100000) (hw : ∀ x, wipe ((wipe σ vs).set j (some x)) vs = wipe σ vs)
    (he : ∀ x ∈ xs, ∀ H1, Ex H H1 → EvU te ((wipe σ vs).set j (some x)) H1 [kV (F x).1, (F x).2]) : EvR K (tLc wi (gName j) tYes te vs) σ H (xs.map F) := fun H1 e1 Q k => by
  refine hi H1 e1 _ fun H2 J G e2 w hG => ?_
  have e12 := e1.trans e2
  refine lc_er w (fun i => true) (fun i => F (xs.getD i .non)) hn hG (fun i x H3 H4 hlt e3 y => ?_) (fun D ts' H' nD e' hx hts => ?_)
  · obtain ⟨rfl, hx⟩ := y
    have hd : xs.getD i .non = x := by rw [List.getD, hx]; rfl
    rw [hd]
    exact ⟨_, hw _, Ex.refl _, fun Q q => q, et_yes, fun _ => he _ (List.mem_of_getElem? hx) H2 e12⟩
  · refine k D ts' H' (e2.trans e') (sq_of hx) ?_
    have hr := given_pick xs .non (fun _ => true) F
    rw [List.filter_eq_self.mpr (fun _ _ => rfl)] at hr
    rw [show xs.filter (fun _ => true) = xs from List.filter_eq_self.mpr (fun _ _ => rfl)] at hr
    rw [show ((List.range xs.length).filter fun _ => true) = List.range xs.length from List.filter_eq_self.mpr (fun _ _ => rfl), hr] at hts
    exact hts
theorem s_asgR (h : EvR K te σ H kvs) (k : ∀ p ts H1, Ex H H1 → SqL K H1 p (ts.map V.ref) → Prs H1 ts kvs → D.nx (σ.set i (some (.ref p))) H1) : tAsg te (gName i) D σ H := h H (Ex.refl _) _ fun p ts H1 e hp hP => k p ts H1 e hp hP
theorem s_asgL2 (h : EvL te σ H xs) (k : ∀ p H1, Ex H H1 → H1 p = some (.lst xs) → D.nx (σ.set i (some (.ref p))) H1) : tAsg te (gName i) D σ H := h H (Ex.refl _) _ fun p H1 np e hp => k p H1 e hp
theorem ei_listU (h : EvL tl σ H xs) : EvI (iList K tl) σ H xs := fun H1 e R r => h H1 e _ fun p H2 np e2 hx => ⟨p, rfl, ⟨_, sq_of hx⟩, r H2 _ _ e2 walk_list fun H3 e3 => sq_of (e3 _ _ hx)⟩
theorem el_sl {p : Addr} {tlo thi : TO} {lo hi : Option Int} (h : Ev te σ H (.ref p)) (hs : SqL K H p xs) (h1 : EvO tlo σ H lo) (h2 : EvO thi σ H hi) : EvL (tSl (rSlL K) te tlo thi) σ H (cutV xs lo hi) := fun H1 e Q q =>
  h H1 e _ fun H2 e2 => h1 H2 (e.trans e2) _ fun H3 e3 => h2 H3 ((e.trans e2).trans e3) _ fun H4 e4 => ⟨p, xs, rfl, ex_l (((e.trans e2).trans e3).trans e4) hs, fun q1 nq => q q1 _ (fresh_back ((e2.trans e3).trans e4) nq) (((e2.trans e3).trans e4).trans (Ex.new nq)) upd_same⟩
theorem cut_take (n : Nat) (xs : List V) : cutV xs none (some (n : Int)) = xs.take n := by
  unfold cutV HT.sIx
  simp only [List.drop_zero, Nat.sub_zero]
  rw [if_neg (by omega), Int.toNat_natCast]
  rcases Nat.le_total n xs.length with h | h
  · rw [Nat.min_eq_left h]
  · rw [Nat.min_eq_right h, List.take_length, List.take_of_length_le h]
/-- a if c else b, then the name is set -/
theorem asg_if {t : TT} {ta tb : TE} {g : TG} {b : Bool} (h : EvT t σ H b) (h1 : b = true → ∀ H1, Ex H H1 → tAsg ta g D σ H1) (h2 : b = false → ∀ H1, Ex H H1 → tAsg tb g D σ H1) : tAsg (tIf t ta tb) g D σ H := h H (Ex.refl _) _ fun H1 e1 => by
  cases b with
  | true => exact h1 rfl H1 e1
  | false => exact h2 rfl H1 e1
end
section
variable {X : Cx} {K : Frag}
theorem sl_list' (hK : X.K = K) : SlR X (rSlL K) := by subst hK; exact sl_list
theorem op_in_seq' (hK : X.K = K) : OpR X (compareOp .In) (rIn K false) := by subst hK; exact op_in_seq
theorem op_notIn_seq' (hK : X.K = K) : OpR X (compareOp .NotIn) (rIn K true) := by subst hK; exact op_notIn_seq
end
end BJ

/-! lists of pairs that are new: EvRN; entries put again and again -/
namespace BJ
open PySem PySem.Spec PyProof.Rows L2 Evl
open PySem.W (Frag)
section
variable {K : Frag} {σ : L2.St} {H : Hp} {te tl : TE} {tt : TT} {wi : TI} {vs : List Nat} {kvs : List (Key × V)} {xs : List V} {D : Ends} {i : Nat}
def EvRN (te : TE) (σ : L2.St) (H : Hp) (kvs : List (Key × V)) : Prop := ∀ H1, Ex H H1 → ∀ Q : VK, (∀ p ts H2, H1 p = none → Ex H1 H2 → H2 p = some (.lst (ts.map V.ref)) → Prs H2 ts kvs → Q (.ref p) H2) → te σ H1 Q
theorem EvRN.r (h : EvRN te σ H kvs) : EvR K te σ H kvs := fun H1 e Q q => h H1 e Q fun p ts H2 _ e2 hp hP => q p ts H2 e2 (sq_of hp) hP
theorem ern_list (h : ∀ H1, Ex H H1 → ∀ Q : VK, (∀ t ts H2, Ex H1 H2 → (SqL K H2 t (ts.map V.ref) ∨ SqT K H2 t (ts.map V.ref)) → Prs H2 ts kvs → Q (.ref t) H2) → te σ H1 Q) : EvRN (tCB (rListS K) (tCons te tNil)) σ H kvs := fun H1 e Q q =>
  h H1 e _ fun t ts H2 e2 ht hP => ⟨t, _, rfl, ht, fun l nl => q l ts _ (fresh_back e2 nl) (e2.trans (Ex.new nl)) upd_same (hP.ex (Ex.new nl))⟩
theorem ern_prs {j l : Nat} {ts : List Addr} (hi : EvI wi σ H (ts.map V.ref)) (hP : Prs H ts kvs) (f : Key × V → Bool) (F : Key × V → Key × V) (hn : kvs.length ≤ 100000) (hw : ∀ x y, wipe (((wipe σ vs).set j (some x)).set l (some y)) vs = wipe σ vs)
    (ht : ∀ q ∈ kvs, ∀ H1, Ex H H1 → EvT tt (((wipe σ vs).set j (some (kV q.1))).set l (some q.2)) H1 (f q)) (he : ∀ q ∈ kvs, f q = true → ∀ H1, Ex H H1 → EvU te (((wipe σ vs).set j (some (kV q.1))).set l (some q.2)) H1 [kV (F q).1, (F q).2]) :
    EvRN (tLc wi (gTup K 2 (gCons (gName j) (gCons (gName l) gNil))) tt te vs) σ H ((kvs.filter f).map F) := fun H1 e1 Q k => by
  have hl := Prs.len hP
  refine hi H1 e1 _ fun H2 J G e2 w hG => ?_
  have e12 := e1.trans e2
  refine lc_er w (fun i => f (kvs.getD i (.inl 0, .non))) (fun i => F (kvs.getD i (.inl 0, .non))) (by rw [List.length_map, hl]; exact hn) hG (fun i x H3 H4 hlt e3 y => ?_) (fun D ts' H' nD e' hx hts => ?_)
  · rw [List.length_map, hl] at hlt
    obtain ⟨rfl, hx⟩ := y
    obtain ⟨t, h1, h2⟩ := prs_nm hP hlt
    rw [h1] at hx
    cases hx
    have hd : kvs.getD i (.inl 0, .non) = kvs[i] := by rw [List.getD, List.getElem?_eq_getElem hlt]; rfl
    rw [hd]
    have hm := List.getElem_mem hlt
    exact ⟨_, hw _ _, Ex.refl _, fun Q q => ⟨t, _, rfl, st_of (e3 _ _ (e12 _ _ h2)), rfl, _, _, rfl, _, _, rfl, rfl, q⟩, ht _ hm H2 e12, fun hf => he _ hm hf H2 e12⟩
  · refine k D ts' H' (fresh_back e2 nD) (e2.trans e') hx ?_
    have hr : ((List.range (ts.map V.ref).length).filter (fun i => f (kvs.getD i (.inl 0, .non)))).map (fun i => F (kvs.getD i (.inl 0, .non))) = (kvs.filter f).map F := by
      rw [List.length_map, hl]
      exact given_pick kvs _ f F
    rw [hr] at hts
    exact hts
theorem s_asgRN (h : EvRN te σ H kvs) (k : ∀ p ts H1, H p = none → Ex H H1 → H1 p = some (.lst (ts.map V.ref)) → Prs H1 ts kvs → D.nx (σ.set i (some (.ref p))) H1) : tAsg te (gName i) D σ H := h H (Ex.refl _) _ fun p ts H1 np e hp hP => k p ts H1 np e hp hP
theorem s_asgLN (h : EvL te σ H xs) (k : ∀ p H1, H p = none → Ex H H1 → H1 p = some (.lst xs) → D.nx (σ.set i (some (.ref p))) H1) : tAsg te (gName i) D σ H := h H (Ex.refl _) _ fun p H1 np e hp => k p H1 np e hp
end
/-! entries put again -/
section
variable {kvs bks l : List (Key × V)} {k : Key} {v : V} {kv : Key × V}
theorem put_mem (h : kv ∈ putK l k v) : kv = (k, v) ∨ kv ∈ l := by
  unfold putK at h
  split at h
  · obtain ⟨x, hx, rfl⟩ := List.mem_map.mp h
    by_cases e : x.1 = k
    · rw [if_pos e, e]; exact .inl rfl
    · rw [if_neg e]; exact .inr hx
  · rcases List.mem_append.mp h with h | h
    · exact .inr h
    · exact .inl (List.mem_singleton.mp h)
theorem put_nd (nd : (l.map (·.1)).Nodup) : ((putK l k v).map (·.1)).Nodup := by
  cases h : valV l k with
  | none => exact nd_putK v nd h
  | some y =>
    unfold putK
    have this : (l.any fun kv => decide (kv.1 = k)) = true := by rw [valV_any, h]; rfl
    rw [if_pos this, List.map_map]
    have e : l.map ((fun x => x.1) ∘ fun kv => if kv.1 = k then (kv.1, v) else kv) = l.map (·.1) := List.map_congr_left fun x _ => by
      show (if x.1 = k then (x.1, v) else x).1 = x.1
      split <;> rfl
    rw [e]
    exact nd
theorem put_same (nd : (l.map (·.1)).Nodup) (h : valV l k = some v) : putK l k v = l := by
  unfold putK
  have this : (l.any fun kv => decide (kv.1 = k)) = true := by rw [valV_any, h]; rfl
  rw [if_pos this]
  have e : ∀ x ∈ l, (if x.1 = k then (x.1, v) else x) = x := fun x hx => by
    split
    · rename_i e
      have h1 := val_nodup nd _ hx
      rw [e, h] at h1
      cases h1
      rfl
    · rfl
  exact (List.map_congr_left e).trans (List.map_id _)
/-- what a Book lays over the fields -/
def layK (kvs bks : List (Key × V)) : List (Key × V) := bks.foldl (fun l q => putK l q.1 q.2) kvs
theorem layK_snoc {q : Key × V} : layK kvs (bks ++ [q]) = putK (layK kvs bks) q.1 q.2 := by
  unfold layK
  rw [List.foldl_append]
  rfl
theorem layK_take {i : Nat} {q : Key × V} (h : bks[i]? = some q) : layK kvs (bks.take (i + 1)) = putK (layK kvs (bks.take i)) q.1 q.2 := by
  rw [List.take_add_one, h]
  exact layK_snoc
theorem layK_len : ∀ (bks kvs : List (Key × V)), (layK kvs bks).length ≤ kvs.length + bks.length
  | [], kvs => Nat.le_refl _
  | q :: r, kvs => by
    have h1 := layK_len r (putK kvs q.1 q.2)
    have h2 := putK_le kvs q.1 q.2
    show (layK (putK kvs q.1 q.2) r).length ≤ _
    rw [List.length_cons]
    omega
theorem merge_all {P : Key × V → Prop} : ∀ (bks kvs : List (Key × V)), (∀ kv ∈ kvs, P kv) → (∀ kv ∈ bks, P kv) → ∀ kv ∈ layK kvs bks, P kv
  | [], kvs, h1, _ => h1
  | q :: r, kvs, h1, h2 => merge_all r _ (fun kv h => by
      rcases put_mem h with rfl | h
      · exact h2 _ List.mem_cons_self
      · exact h1 _ h) fun kv h => h2 _ (List.mem_cons_of_mem _ h)
theorem merge_nd : ∀ (bks kvs : List (Key × V)), (kvs.map (·.1)).Nodup → ((layK kvs bks).map (·.1)).Nodup
  | [], kvs, h => h
  | q :: r, kvs, h => merge_nd r _ (put_nd h)
theorem merge_not : ∀ (bks kvs : List (Key × V)) (k : Key), k ∉ bks.map (·.1) → valV (layK kvs bks) k = valV kvs k
  | [], kvs, k, _ => rfl
  | q :: r, kvs, k, h => by
    rw [List.map_cons, List.mem_cons, not_or] at h
    have := merge_not r (putK kvs q.1 q.2) k h.2
    rw [valV_put, if_neg h.1] at this
    exact this
theorem merge_get : ∀ (bks kvs : List (Key × V)), (bks.map (·.1)).Nodup → ∀ q ∈ bks, valV (layK kvs bks) q.1 = some q.2
  | [], kvs, _, q, h => nomatch h
  | p :: r, kvs, nd, q, h => by
    rw [List.map_cons, List.nodup_cons] at nd
    rcases List.mem_cons.mp h with rfl | h
    · have := merge_not r (putK kvs q.1 q.2) q.1 nd.1
      rw [valV_put, if_pos rfl] at this
      exact this
    · exact merge_get r _ nd.2 q h
theorem merge_same : ∀ (bks M : List (Key × V)), (M.map (·.1)).Nodup → (∀ q ∈ bks, valV M q.1 = some q.2) → layK M bks = M
  | [], M, _, _ => rfl
  | q :: r, M, nd, h => by
    show layK (putK M q.1 q.2) r = M
    rw [put_same nd (h q List.mem_cons_self)]
    exact merge_same r M nd fun p hp => h p (List.mem_cons_of_mem _ hp)
/-- the same by hand: each row with this key changed, or a row more -/
def overK (k : Key) (v : V) (kv : Key × V) : Key × V := (kv.1, if kv.1 = k then v else kv.2)
theorem over_put : putK l k v = if (l.any fun kv => decide (kv.1 = k)) = true then l.map (overK k v) else l.map (overK k v) ++ [(k, v)] := by
  unfold putK
  split
  · refine List.map_congr_left fun x _ => ?_
    unfold overK
    split <;> rfl
  · rename_i h
    congr 1
    refine ((List.map_congr_left fun x hx => ?_).trans (List.map_id _)).symm
    unfold overK
    rw [if_neg]
    · rfl
    · intro e
      exact h (List.any_eq_true.mpr ⟨x, hx, decide_eq_true e⟩)
theorem inV_keys {z : Str} : ∀ {l : List (Key × V)}, (∀ kv ∈ l, ∃ y, kv.1 = .inr y) → inV (.str z) (l.map fun kv => kV kv.1) = l.any fun kv => decide (kv.1 = .inr z)
  | [], _ => rfl
  | q :: r, h => by
    have ih := inV_keys (z := z) fun kv hk => h kv (List.mem_cons_of_mem _ hk)
    obtain ⟨y, hy⟩ := h q List.mem_cons_self
    unfold inV at ih ⊢
    rw [List.map_cons, List.any_cons, List.any_cons, ih, hy]
    congr 1
    show (y == z) = decide ((Sum.inr y : Key) = .inr z)
    by_cases e : y = z
    · rw [e]; simp
    · rw [decide_eq_false (fun h => e (Sum.inr.inj h))]; exact beq_eq_false_iff_ne.mpr e
theorem flat_keys (l : List (Key × V)) : (l.map fun kv => kV kv.1).all flatV = true := by
  rw [List.all_eq_true]
  intro v hv
  obtain ⟨⟨k, y⟩, _, rfl⟩ := List.mem_map.mp hv
  cases k <;> rfl
end
end BJ

/-! len(o), x in o of instances whose class has __len__, __contains__ -/
namespace BJ
open PySem PySem.Spec PyProof.Rows L2 Evl
open PySem.W (Frag)
/-- the class's own function of that name -/
structure Dun (K : Frag) (C : Addr) (name : Str) (g : Addr) : Prop where
  f : PySem.W.findIn K (.ref C) name = some (some (.ref g))
  fn : PySem.W.isFn K (.ref g) = true
section
variable {M : Model} {A : Around} {E : Value → Shared → Prop} {s : Shared} {K : Frag} {x C g : Addr} {ox : Obj} {od : Option Obj} {name : Str} {args : List Value}
theorem bind_fn {self : Value} {Q : Value × List Value → Shared → Prop} (X : K.In s.heap) (h : PySem.W.isFn K (.ref g) = true) (q : Q (.ref g, [self]) s) : wpAny M A (bindSpecial (.ref g) self) Q E s := by
  have ht : PySem.W.typeIn K (.ref g) = some (.type "function") := eq_of_beq h
  unfold bindSpecial
  refine wpAny_bind ((PySem.W.looks_typeIn X ht).here ?_)
  exact wpAny_ite_true rfl (wpAny_pure q)
theorem special_own {Q : Option Value → Shared → Prop} (X : K.In s.heap) (I : PySem.W.InstAt s.heap x ox C od) (d : Dun K C name g) (h : wpAny M A (call (.ref g) (.ref x :: args)) (fun v => Q (some v)) E s) : wpAny M A (callSpecial? (.ref x) name args) Q E s := by
  have fin := wpAny_bind (wpAny_mono h (fun v s' (h' : Q (some v) s') => wpAny_pure (M := M) (A := A) (E := E) h') fun _ _ h' => h')
  refine wpAny_bind (wpAny_bind (I.type.here ((PySem.W.looks_findIn X d.f).here ?_)))
  exact wpAny_holding (wpAny_bind (bind_fn X d.fn fin))
end
section
variable {X : Cx}
def rLenI (X : Cx) : List V → Hp → VK → Prop := fun xs H Q => ∃ (a C dx g : Addr) (fs : List (Str × V)) (k : Nat) (sp : Sp), xs = [.ref a] ∧ H a = some (.ins C dx fs) ∧ Dun X.K C "__len__" g ∧
  BJ.CallO X.prog X.w X.K X.mg X.base k (.ref g) sp ∧ Room (k + 1) X.A ∧ sp [.ref a] H (fun v H' => ∃ n : Nat, v = .int n ∧ n ≤ 1000000 ∧ Q (.int n) H') fun _ _ _ => False
theorem call_lenI : CallR X (.builtin "len") (rLenI X) := by
  rintro pins s σ H xs us Q I r ⟨a, C, dx, g, fs, k, sp, rfl, ea, dn, F, hr, q⟩
  obtain ⟨u, rfl, rx⟩ := L2.vals1 r
  obtain rfl : u = Value.ref a := rx
  obtain ⟨mA, O, _, _, _, _⟩ := ins_get I.hok ea
  obtain ⟨od, J, _⟩ := O.look
  refine Calls.call_function_entry kind_len plain_len entry_len (args_len1 _) ?_
  refine id (wpAny_bind (wpAny_pure (wpAny_bind (special_own I.kIn J dn (wpAny_call ?_)))))
  refine codeAny_mono (F X.A.in1 X.stack s H [.ref a] [.ref a] _ _ hr.in1 I.env0.in1 (.cons rfl .nil) q) fun r s' hq => ?_
  cases r with
  | error er =>
    obtain ⟨_, _, _, _, _, _, _, _, _, _, _, _, z⟩ := hq
    exact z.elim
  | ok fl =>
    cases fl with
    | ret u =>
      obtain ⟨v, H', I3, rv, n, rfl, hn, q3⟩ := I.after hq
      obtain ⟨t, rfl⟩ := (rv : ∃ t, u = Value.int (n : Int) t)
      refine wpAny_bind (wpAny_holding (wpAny_pure (wpAny_bind (wpAny_letGo ?_))))
      dsimp only
      rw [if_neg (by omega), if_neg (by omega)]
      exact wpAny_bind (wpAny_mkInt (wpAny_pure ⟨_, rfl, .int n, _, I3.tok _, ⟨_, rfl⟩, q3⟩))
    | _ => exact hq.elim
def rInI (X : Cx) : R2 := fun x y H Q => ∃ (a C dx g : Addr) (fs : List (Str × V)) (k : Nat) (sp : Sp), y = .ref a ∧ H a = some (.ins C dx fs) ∧ Dun X.K C "__contains__" g ∧
  BJ.CallO X.prog X.w X.K X.mg X.base k (.ref g) sp ∧ Room k X.A ∧ sp [.ref a, x] H (fun v H' => ∃ b, v = .bl b ∧ Q (.bl b) H') fun _ _ _ => False
theorem op_inI : OpR X (compareOp .In) (rInI X) := by
  rintro pins s σ H x y v u Q I rx ry ⟨a, C, dx, g, fs, k, sp, rfl, ea, dn, F, hr, q⟩
  obtain rfl : u = Value.ref a := ry
  obtain ⟨mA, O, _, _, _, _⟩ := ins_get I.hok ea
  obtain ⟨od, J, _⟩ := O.look
  refine wpAny_bind (m := contains (.ref a) v) ?_
  unfold contains
  refine wpAny_holding ?_
  show wpAny _ _ (specialOf (.ref a) "__contains__" >>= _) _ _ _
  refine wpAny_bind (wpAny_bind (J.type.here ((PySem.W.looks_findIn I.kIn dn.f).here ?_)))
  refine wpAny_ite_false rfl ?_
  refine wpAny_bind (m := callSpecialUnlessNone? _ _ _ _) ?_
  unfold callSpecialUnlessNone?
  refine wpAny_bind (wpAny_bind (J.type.here ((PySem.W.looks_findIn I.kIn dn.f).here ?_)))
  refine wpAny_holding (wpAny_bind (bind_fn I.kIn dn.fn ?_))
  refine wpAny_ite_false rfl ?_
  refine wpAny_bind (wpAny_call ?_)
  refine codeAny_mono (F X.A X.stack s H [.ref a, v] [.ref a, x] _ _ hr I.env0 (.cons rfl (.cons rx .nil)) q) fun r s' hq => ?_
  cases r with
  | error er =>
    obtain ⟨_, _, _, _, _, _, _, _, _, _, _, _, z⟩ := hq
    exact z.elim
  | ok fl =>
    cases fl with
    | ret u =>
      obtain ⟨v, H', I3, rv, b, rfl, q3⟩ := I.after hq
      obtain rfl : u = Value.bool b := rv
      exact wpAny_pure (wpAny_pure (wpAny_pure ⟨.bl b, _, I3, rfl, q3⟩))
    | _ => exact hq.elim
end
end BJ

/-! d.pop(k), the key there; sorted(d) of a dict whose keys are texts; str(text) -/
namespace BJ
open PySem PySem.Spec PyProof.Rows L2 Evl
open PySem.W (Frag)
section
variable {X : Cx}
def rPopK : V → List V → Hp → VK → Prop := fun x xs H Q => ∃ (a : Addr) (kvs : List (Key × V)) (k : Key) (v : V), x = .ref a ∧ xs = [kV k] ∧ H a = some (.dK kvs) ∧ valV kvs k = some v ∧ Q v (upd H a (.dK (dropK kvs k)))
theorem key_part {k : Key} {u : Value} (r : RelV (kV k) u) : (keyPart u).isSome = true := by
  cases k with
  | inl i => obtain ⟨t, rfl⟩ := (r : ∃ t, u = Value.int i t); rfl
  | inr z => obtain ⟨t, rfl⟩ := (r : ∃ t, u = Value.str z t); rfl
theorem mt_popK : MtR X "dict.pop" rPopK := by
  rintro pins s σ H x xs v us Q I rx r ⟨a, kvs, k, y, rfl, rfl, e, hv, q⟩
  obtain rfl : v = Value.ref a := rx
  obtain ⟨u, rfl, ry⟩ := L2.vals1 r
  obtain ⟨z, hd, vs, rel, dd⟩ := dk_of I.hok e
  have hrel := KV.val rel k
  rw [hv] at hrel
  obtain ⟨y', hy'⟩ : ∃ y', valueAt vs k = some y' := by
    cases hh : valueAt vs k with
    | none => rw [hh] at hrel; exact absurd hrel (by simp [RelO])
    | some y' => exact ⟨y', rfl⟩
  rw [hy'] at hrel
  refine call_meetsIn F.slot_dict_pop dd.typeIs F.entry_dict_pop (F.args_dict_pop_2 _ _) (meets_dict_pop_there (mixKind X.prog X.w) a (kV_is ry) [] (.inl rfl) (key_part ry)) ⟨vs, y', dd, by rw [← KV.length rel]; exact z, hy', fun h' dd' hs => ?_⟩
  have he : ∃ q, h'.get? a = some q := by
    obtain ⟨q, _, _, hq, _⟩ := dd'
    exact ⟨q, hq⟩
  exact ⟨y, _, d_write I (by rw [e]; exact trivial) hs he (dk_new (Nat.le_trans (dropK_le kvs k) z) hd (KV.drop rel k) dd'), hrel, q⟩
end
end BJ

/-! sorted(d) of a dict whose keys are texts -/
namespace BJ
open PySem PySem.Spec PyProof.Rows L2 Evl
section
variable {prog : Program} {w : World} {A : Around} {E : Value → Shared → Prop} {s : Shared} {KK : Type} [DecidableEq KK] {knd : PySem.KeyKind prog w KK} {d : Addr} {kvs : List (KK × Value)} {ep : Nat}
theorem collect_dict {Q : List Value → Shared → Prop} (lo : (d == sysModules) = false) (hh : A.handled = none) (hd : Heap.DictAt knd s.heap d kvs ep) (hn : kvs.length ≤ sizeLine)
    (hQ : ∀ h' tk (acc : Array Value), (∀ b o, s.heap.get? b = some o → h'.get? b = some o) → s.heap.objs.size ≤ h'.objs.size → ItemsOf (fun i v => ∃ k x, kvs[i]? = some (k, x) ∧ knd.is k v = true) acc kvs.length → Q acc.toList { s with heap := h', toks := tk }) :
    wpAny (model prog w) A (collect (.ref d)) Q E s := by
  have K := PySem.W.kdl_dict (prog := prog) (w := w) (knd := knd) (kvs := kvs) (ep := ep) lo
  have hlt := K.there s.heap hd
  unfold collect
  refine wpAny_bind (wpAny_runValue (codeAny_builtin F.entry_proto_collect ?_))
  rw [Around.under_plainId F.plain_proto_collect]
  refine wpAny_bind (wpAny_newObj_type (wpAny_pure ⟨plainId_quiet F.plain_list_iadd _, codeAny_builtin F.entry_list_iadd ?_⟩))
  rw [Around.under_plainId F.plain_list_iadd]
  have hS := Heap.get?_push_size s.heap (o := { cls := Value.type "list", data := Data.seq #[] }) rfl
  have go := PySem.W.kdl_extend (R := fun r s' => match r with
    | .ok (.ret v) => wpAny (model prog w) A (match v with
      | .ref a => do
        let o ← load a
        match o.data with
        | .seq xs _ => pure xs.toList
        | _ => unsupported "internal:collect"
      | _ => unsupported "internal:collect") Q E s'
    | .ok _ => False
    | .error e => E e s') (s := { s with heap := s.heap.push { cls := Value.type "list", data := Data.seq #[] } }) K hh (K.keep s.heap _ hd fun b hb o e => Heap.get?_push_of_some _ e) s.heap.objs.size (Nat.ne_of_gt hlt.1) (Nat.ne_of_gt hlt.2) (.ref s.heap.objs.size) 0 hS (fun h' tk acc c' hk hS' hacc => ?_) hn
  · exact go
  · refine wpAny_bind (wpAny_load hS' (wpAny_pure (hQ h' tk acc (fun b o e => hk b o (Nat.ne_of_lt (Heap.lt_size e)) (Heap.get?_push_of_some _ e)) (Nat.le_of_lt (Heap.lt_size hS')) hacc)))
end
section
variable {X : Cx}
def rSortedDK : List V → Hp → VK → Prop := fun xs H Q => ∃ (a : Addr) (kvs : List (Key × V)) (zs : List Str), xs = [.ref a] ∧ H a = some (.dK kvs) ∧ (kvs.map fun kv => kV kv.1) = zs.map V.str ∧ zs.length < 64 ∧
  ∀ (ys : List Str) (p : Addr), ys.Perm zs → sortedS ys = true → H p = none → Q (.ref p) (upd H p (.lst (ys.map V.str)))
theorem call_sortedDK (hcalm : X.calm = true) : CallR X (.builtin "sorted") rSortedDK := by
  rintro pins s σ H xs us Q I r ⟨a, kvs, zs, rfl, e, hz, h64, q⟩
  obtain ⟨u, rfl, rx⟩ := L2.vals1 r
  obtain rfl : u = Value.ref a := rx
  obtain ⟨z, hd, vs, rel, dd⟩ := dk_of I.hok e
  obtain ⟨ep, hat⟩ := Heap.DictOf.dictAt dd
  have hlen := KV.length rel
  have hzl : kvs.length = zs.length := by have := congrArg List.length hz; simpa using this
  refine Calls.call_function_entry kind_sorted plain_sorted entry_sorted (args_sorted1 _) ?_
  refine id (wpAny_bind (wpAny_pure (wpAny_bind (collect_dict (A := X.A.in1) hd (I.ok.hd hcalm) hat (by rw [← hlen]; exact z) fun h' tk acc hk hs hacc => ?_))))
  have ek : (vs.map fun p => kV p.1) = zs.map V.str := by
    rw [← hz]
    have := congrArg (List.map kV) (KV.keys rel)
    rw [List.map_map, List.map_map] at this
    exact this.symm
  have hv := keys_at (us := acc.toList) (vs := vs) (by rw [Array.length_toList]; exact hacc.1) fun j v e => hacc.2 j v (by rw [← Array.getElem?_toList]; exact e)
  rw [ek] at hv
  have hS := hv.strs
  have hl64 : acc.toList.length < 64 := by rw [Array.length_toList, hacc.1, ← hlen, hzl]; exact h64
  refine wpAny_bind (wpAny_newList ?_ (Nat.le_of_lt (Nat.lt_of_lt_of_le hl64 (by rw [sizeLine_eq]; decide))))
  have hoL := Heap.get?_push_size h' (o := seqObj "list" acc.toList.toArray 0) rfl
  refine wpAny_bind (wpAny_holding (wpAny_call_entry slot_list_sort ⟨_, hoL, rfl⟩ entry_list_sort (list_sort_treeK strKind_oneLt hoL hS.keysOf (fun v1 v2 rest e => keyKind_strs (by rw [← e]; exact hS)) hl64 fun st' hp hs' => ?_) (args_list_sort _)))
  obtain ⟨ys, h1, h2, h3⟩ := sorted_out_str hS hp hs'
  refine ⟨_, rfl, wpAny_pure ⟨_, rfl, ?_⟩⟩
  obtain ⟨c, hc⟩ := sortedHeap_at (out := (arrOf st').map fun x => x.2) hoL
  have hold : ∀ b o, s.heap.get? b = some o → (sortedHeap (h'.push (seqObj "list" acc.toList.toArray 0)) h'.objs.size acc.toList ((arrOf st').map fun x => x.2)).get? b = some o := fun b o eb => by
    have e1 := hk b o eb
    have hb := Heap.lt_size e1
    rw [sortedHeap_old (Nat.ne_of_lt hb) (Nat.lt_of_lt_of_le hb (by rw [size_push']; exact Nat.le_succ _))]
    exact Heap.get?_push_of_some _ e1
  refine ⟨.ref h'.objs.size, upd H h'.objs.size (.lst (ys.map V.str)), I.laid hold hs ⟨?_, _, c, vals_of_strs h1, hc⟩, rfl, q ys _ h2 h3 (HOk.fresh I.hok hs)⟩
  rw [List.length_map, h2.length_eq, sizeLine_eq]
  omega
end
end BJ

/-! x is not False, of bools -/
namespace BJ
open PySem PySem.Spec PyProof.Rows L2 Evl
open PySem.W (Frag)
variable {X : Cx}
theorem bl_beq (a b : Bool) : (Value.bool a == Value.bool b) = decide (a = b) := by
  cases a <;> cases b <;> rfl
def rNB : R2 := fun x y H Q => ∃ a b, x = .bl a ∧ y = .bl b ∧ Q (.bl (!decide (a = b))) H
theorem op_notBool : OpR X (compareOp .IsNot) rNB := by
  intro pins s σ H x y v u Q I rx ry h
  obtain ⟨a, b, rfl, rfl, q⟩ := h
  cases (show v = Value.bool a from rx)
  cases (show u = Value.bool b from ry)
  exact wpAny_isNot_plain rfl (fin_bl I q (congrArg not (bl_beq a b).symm))
end BJ

/-! the head by one kernel run, the tables of the code objects told, too -/
namespace BJ
open PySem PySem.W PySem.Calls PyProof.Rows HeadRun
theorem left_oneM {p q : Program} {loose : List PySem.Str} {Xt : Shared → Bool} {K : Params → Frag} {as : List Addr} {ek : ∀ P, as = (K P).map (·.1)} {ts : List Addr} {N M : Nat}
    (e : opening p = plainProg p.main.scope.names) (hN : Nat.ble 600 N = true) (f : ∀ s, fenceModules? p s = some s) (le : Nat.ble M N = true)
    (run : ∀ (w : World) (os : OsState), (endF (stepQ (denQ tabQ) p w) M p w os).map (fun s => (looksF p (boot_heap w.params) s.abs, seenQ q loose (importedModules p.main.body) Xt s.abs, as.map (getT s), ts.map (getT s))) =
      some (true, openGood q loose, (K w.params).map (fun p => some p.2), ts.map fun _ => some (tabObj #[]))) :
    LeftO p q loose Xt (Hook.obs (kmHook K as ek ts)) (Hook.val (kmHook K as ek ts)) N true :=
  left_one (M := M) e hN f le fun w os => by
    have z := run w os
    have eo : (fun s : SharedT => (looksF p (boot_heap w.params) s.abs, seenQ q loose (importedModules p.main.body) Xt s.abs, as.map (getT s), ts.map (getT s))) =
        fun s => (looksF p (boot_heap w.params) s.abs, seenQ q loose (importedModules p.main.body) Xt s.abs, Hook.obs (kmHook K as ek ts) s.abs) := by
      funext s
      have q1 : (as.map (getT s), ts.map (getT s)) = Hook.obs (kmHook K as ek ts) s.abs := by
        show _ = (as.map s.abs.heap.get?, ts.map s.abs.heap.get?)
        rw [List.map_congr_left fun a _ => getT_eq s a, List.map_congr_left fun a _ => getT_eq s a]
      rw [← q1]
      rfl
    rw [eo] at z
    simp only [endQ_eq, seenQ_eq]
    exact z
end BJ

namespace BJ
/-- one run looked at three times -/
theorem map3 {α β γ δ : Type} {o : Option α} {f : α → β} {g : α → γ} {k : α → δ} {b : β} {c : γ} {d : δ} (h1 : o.map f = some b) (h2 : o.map g = some c) (h3 : o.map k = some d) : o.map (fun s => (f s, g s, k s)) = some (b, c, d) := by
  cases o with
  | none => cases h1
  | some x =>
    injection h1 with h1; injection h2 with h2; injection h3 with h3
    show some (f x, g x, k x) = _
    rw [h1, h2, h3]
end BJ

/-! the head by three runs, each a theorem of its own; the view holds the law alone -/
namespace BJ
open PySem PySem.W PySem.Calls PyProof.Rows HandSHeadRun
/-- some answers of a world, where any will do -/
def anyP : Params := { strHash := fun _ => 0, shareClass := fun _ => 0, mergeTok := fun t => t, idOf := fun _ => 0, idOfShared := fun _ _ => 0, followText := fun _ => false, idOfImm := fun _ => 0 }
def Run1 (r : OpenRow) (M : Nat) : Prop := ∀ (w : World) (os : OsState), (endF (stepQ (denQ tabQ) r.prog w) M r.prog w os).map (fun s => looksF r.prog (boot_heap w.params) s.abs) = some true
def Run2 (r : OpenRow) (M : Nat) (q : Program) (loose : List PySem.Str) : Prop := ∀ (w : World) (os : OsState), (endF (stepQ (denQ tabQ) r.prog w) M r.prog w os).map (fun s => seenQ q loose (importedModules r.prog.main.body) (fun s => xlAt q [] s && recOk r.toRowW.records s) s.abs) = some (openGood q loose)
def Run3 (r : OpenRow) (M : Nat) (as : List Addr) (K : Params → Frag) : Prop := ∀ (w : World) (os : OsState), (endF (stepQ (denQ tabQ) r.prog w) M r.prog w os).map (fun s => as.map (getT s)) = some ((K w.params).map fun x => some x.2)
theorem head_k {r : OpenRow} {q : Program} {loose : List PySem.Str} {K : Params → Frag} {as : List Addr} {M : Nat} {d : DefRec} {kwd : List (PySem.Str × PySem.Expr)} (ek : ∀ P, as = (K P).map (·.1))
    (e : opening r.prog = plainProg r.prog.main.scope.names) (f : ∀ s, fenceModules? r.prog s = some s) (run1 : Run1 r M) (run2 : Run2 r M q loose) (run3 : Run3 r M as K)
    (hdef : defOf q r.name = some (d, kwd)) (hp : r.prog.theDef r.name = some (d.params, d.body, d.scope)) (hk : kwWritten? d.params.kwonlyargs d.params.kw_defaults = some kwd)
    (hwr : (!r.writes || r.records.isEmpty) = true) (k1 : r.wellSaid = true) (ok : (chainsOk q && opensWell r.prog && (frees r.toRowW && r.within.isEmpty)) = true) (hb : r.prog.bare) (hw : r.toRowW.promised)
    (call : WalkO q loose (XL q []) (InK K) r.toRowW d kwd fun f vs => PySem.call f vs) : r.Holds :=
  head_any (H := kHook K as ek) (ob := fun s => as.map (getT s)) (fun s => List.map_congr_left fun a _ => getT_eq s a) e f (fun w os => map3 (run1 w os) (run2 w os) (run3 w os)) hdef hp hk hwr k1 ok hb hw call
end BJ

/-! str(text); x in o within a comprehension; a def with keyword-only parameters -/
namespace BJ
open PySem PySem.Spec PyProof.Rows L2 Evl
open PySem.W (Frag)
section
variable {X X0 : Cx}
def rStrT : List V → Hp → VK → Prop := fun xs H Q => ∃ z, xs = [.str z] ∧ Q (.str z) H
theorem call_str_str : CallR X (.type "str") rStrT := by
  intro pins s σ H xs us Q I r h
  obtain ⟨z, rfl, q⟩ := h
  obtain ⟨u, rfl, t, rfl⟩ := vals1 r
  exact PySem.P.str_of_str ⟨.str _, H, I, ⟨_, rfl⟩, q⟩
theorem rInI_same (h : SameCx X X0) : rInI X0 = rInI X := by
  unfold rInI
  rw [h.p, h.w, h.k, h.m, h.b, h.a]
theorem op_inI' (h : SameCx X X0) : OpR X (compareOp .In) (rInI X0) := by
  rw [rInI_same h]
  exact op_inI
end
/-- the def enter(self, brand, make, reduce, *, takes, build=None), by its two ways of calling -/
structure DefEnt (K : Frag) (st : Stmt) (f : Addr) : Prop where
  ex : ∃ (oc : Value) (od : Option Addr) (D : Addr) (doc pm : Value) (an : Option Addr) (cdv ct : Value) (osl : Array (Option Value)),
    K.lookup f = some ⟨oc, od, .func (PySem.W.fnOf "enter" "Registry.enter" (defArgs st) (defBody st) (defScope st) .none (.ref D) doc pm an cdv ct), osl⟩ ∧ PySem.W.codeIn K cdv "Registry.enter" = true ∧ PySem.W.nsIn K D "build" = some (some .none) ∧
    (∀ u1 u2 u3 u4 t z : Value, KwChain D [("build", z)] (bindArgs (PySem.W.fnOf "enter" "Registry.enter" (defArgs st) (defBody st) (defScope st) .none (.ref D) doc pm an cdv ct) ⟨[u1, u2, u3, u4], [("takes", t)]⟩) [("self", u1), ("brand", u2), ("make", u3), ("reduce", u4), ("takes", t), ("build", z)]) ∧
    (∀ u1 b t r m br : Value, bindArgs (PySem.W.fnOf "enter" "Registry.enter" (defArgs st) (defBody st) (defScope st) .none (.ref D) doc pm an cdv ct) ⟨[u1], [("build", b), ("takes", t), ("reduce", r), ("make", m), ("brand", br)]⟩ = pure [(("self" : Str), u1), (("brand" : Str), br), (("make" : Str), m), (("reduce" : Str), r), (("takes" : Str), t), (("build" : Str), b)])
section
variable {P : Program} {w : World} {K : Frag} {mg : Str → Option Value} {base : Heap} {st : Stmt} {f : Addr} {N : List Str} {k : Nat} {sp : Sp}
theorem DefEnt.ok (D : DefEnt K st f) (S : FnScope N ["self", "brand", "make", "reduce", "takes", "build"] (defScope st)) (len : ∀ vs H Q E, sp vs H Q E → vs.length = 6)
    (hbody : ∀ (cdv : Value) (A : Around) (outer : List Env) (s : Shared) (H : Hp) (vs : List V) (Q : VK) (E : XK),
      Room k (A.deeper (envOfC "Registry.enter" (defScope st) s.heap.objs.size f cdv)) → sp vs H Q E →
      ∃ t, PSs (cxOf (L2.CX P w) P w K mg base N "Registry.enter" (defScope st) f cdv A outer s H E) (defBody st) t ∧ t { nx := fun _ H' => Q .non H', rt := Q } (start N vs) H) :
    (CallX P w K mg base (k + 1) (.ref f) ["takes"] fun vs zs H Q E => vs.length = 4 ∧ zs.length = 1 ∧ sp (vs ++ zs ++ [.non]) H Q E) ∧
    (CallX P w K mg base (k + 1) (.ref f) ["build", "takes", "reduce", "make", "brand"] fun vs zs H Q E => vs.length = 1 ∧ zs.length = 5 ∧ sp (vs ++ zs.reverse.take 3 ++ [zs.getD 1 .non, zs.getD 0 .non]) H Q E) := by
  obtain ⟨oc, od, T, doc, pm, an, cdv, ct, osl, lk, hcd, hb, b1, b2⟩ := D.ex
  have F : FnOk P w K mg base (L2.CX P w) (k + 1) f _ ["self", "brand", "make", "reduce", "takes", "build"] sp := fn_of lk hcd S len fun A outer s H vs Q E hr hsp => hbody cdv A outer s H vs Q E hr hsp
  refine ⟨callX_of F (n := 4) (g := fun us ws => us ++ ws ++ [.none]) (gV := fun vs zs => vs ++ zs ++ [.non]) ⟨fun s us ws X hu hw => ?_, fun r r2 => (r.append r2).append (.cons (show RelV V.non Value.none from rfl) .nil)⟩,
    callX_of F (n := 1) (g := fun us ws => us ++ ws.reverse.take 3 ++ [ws.getD 1 .none, ws.getD 0 .none]) (gV := fun vs zs => vs ++ zs.reverse.take 3 ++ [zs.getD 1 .non, zs.getD 0 .non]) ⟨fun s us ws X hu hw => ?_, fun r r2 => ?_⟩⟩
  · match us, ws, hu, hw with
    | [u1, u2, u3, u4], [t], _, _ =>
      exact BindsTo.of_looks fun M => KwChain.looks X (by
        intro q hq
        rw [List.mem_singleton.mp hq]
        exact hb) (b1 u1 u2 u3 u4 t .none)
  · match us, ws, hu, hw with
    | [u1], [b, t, r, m, br], _, _ => exact .of_eq (b2 u1 b t r m br)
  · have getR : ∀ {vs : List V} {us : List Value} (i : Nat), Vals vs us → RelV (vs.getD i .non) (us.getD i .none) := by
      intro vs us i h
      induction h generalizing i with
      | nil => cases i <;> rfl
      | cons h1 _ ih =>
        cases i with
        | zero => exact h1
        | succ i => exact ih i
    have takeR : ∀ {vs : List V} {us : List Value} (n : Nat), Vals vs us → Vals (vs.take n) (us.take n) := by
      intro vs us n h
      induction h generalizing n with
      | nil => cases n <;> exact .nil
      | cons h1 _ ih =>
        cases n with
        | zero => exact .nil
        | succ n => exact .cons h1 (ih n)
    have revR : ∀ {vs : List V} {us : List Value}, Vals vs us → Vals vs.reverse us.reverse := by
      intro vs us h
      induction h with
      | nil => exact .nil
      | cons h1 _ ih =>
        rw [List.reverse_cons, List.reverse_cons]
        exact ih.append (.cons h1 .nil)
    exact (r.append (takeR 3 (revR r2))).append (.cons (getR 1 r2) (.cons (getR 0 r2) .nil))
end
/-- atoms, None among them -/
def atomN : Value → Option V
  | .none => some .non
  | .bool b => some (.bl b)
  | .int i _ => some (.int i)
  | .str x _ => some (.str x)
  | _ => none
theorem atomN_rel {u : Value} {v : V} (h : atomN u = some v) : RelV v u := by
  cases u <;> simp [atomN] at h
  · subst h; rfl
  · subst h; rfl
  · subst h; exact ⟨_, rfl⟩
  · subst h; exact ⟨_, rfl⟩
def rowN (K : Frag) (b : Addr) : Option (List V) := (tupIn K b).bind fun l => l.mapM atomN
theorem mapM_valsN : ∀ {l : List Value} {vs : List V}, l.mapM atomN = some vs → Vals vs l
  | [], vs, h => by
    simp at h
    subst h
    exact .nil
  | u :: l, vs, h => by
    rw [List.mapM_cons] at h
    simp only [Option.bind_eq_bind, Option.bind_eq_some_iff, Option.pure_def, Option.some.injEq] at h
    obtain ⟨v, hv, ws, hw, rfl⟩ := h
    exact .cons (atomN_rel hv) (mapM_valsN hw)
theorem rowN_at {K : Frag} {b : Addr} {r : List V} (h : rowN K b = some r) (H : Hp) : SqT K H b r := by
  obtain ⟨l, h1, h2⟩ := Option.bind_eq_some_iff.mp (show (tupIn K b).bind (fun l => l.mapM atomN) = some r from h)
  obtain ⟨o, its, n, e1, e2, e3, e4, rfl⟩ := tupIn_at h1
  exact .inr ⟨o, its, n, e1, e2, e3, e4, mapM_valsN h2⟩
end BJ

/-! o.m(..) where the class and the method's promise are known ahead (within lambdas) -/
namespace BJ
open PySem PySem.Spec PyProof.Rows L2 Evl
open PySem.W (Frag)
def tMo (C : Addr) (m : Str) (spk : SpK) (W : WX) (ta : TE) (t tk : TA) : TE := fun σ H Q => ta σ H fun x H1 => ∃ (a dx : Addr) (fs : List (Str × V)), x = .ref a ∧ H1 a = some (.ins C dx fs) ∧ fs.lookup m = none ∧
  t σ H1 fun vs H2 => tk σ H2 fun zs H3 => spk (x :: vs) zs H3 Q fun cls d H' => W cls d σ H'
section
variable {X : Cx} {o e : Expr} {es : List Expr} {kws : List Keyword} {m : Str} {apos pos : Pos} {pl : Sem Bool} {W : WX} {ta : TE} {t tk : TA} {ks : List Str} {C g : Addr} {k : Nat} {spk : SpK}
theorem pe_mo (c : Cls X.K C) (hm : Meth X.K C m g) (F : CallX X.prog X.w X.K X.mg X.base k (.ref g) ks spk) (hr : Room k X.A) (he : PE X o ta) (tkW : Takes X W) (ha : PA X (e :: es) t) (hkw : PK X kws tk)
    (hall : (backToKw pos (keywordEach kws X.env)).all (·.1.isSome) = true := by rfl) (hks : (backToKw pos (keywordEach kws X.env)).filterMap (·.1) = ks := by rfl)
    (hst : starEach (e :: es) X.env = (false, eval e X.env) :: starEach es X.env := by rfl)
    (hpl : ((backTo pos (starEach (e :: es) X.env)).any (·.1) || (backToKw pos (keywordEach kws X.env)).any (·.1.isNone)) = false := by rfl)
    (ht : eval (.Call (.Attribute o m apos) (e :: es) kws pos) X.env = (do
      let ov ← eval o X.env
      standAt apos.atName
      let (f, first) ← holding [ov] (getMethod ov m pl)
      callWith pos f first (backTo pos (starEach (e :: es) X.env)) (backToKw pos (keywordEach kws X.env))) := by rfl) :
    PE X (.Call (.Attribute o m apos) (e :: es) kws pos) (tMo C m spk W ta t tk) := by
  refine ⟨fun pins s σ H Q I h => ?_⟩
  refine PySem.W.methodCall_KW (pl := pl) (thn (he.run pins s σ H _ I h) fun u s1 ⟨x, H1, I1, rx, a, dx, fs, ex, ea, l, q⟩ => ?_) ht
  subst ex
  obtain rfl : u = Value.ref a := rx
  refine getmeth_ok I1 ea c hm l ?_
  refine PySem.W.callWith_KW (first := [.ref a]) (h₀ := X.base) I.ok.mod.kin hm.kp hall (thn (ha.run pos pins s1 σ H1 _ I1 q) fun us s2 ⟨vs, H2, I2, r, q2⟩ => ?_) hpl hst
  refine thn (hkw.run pos pins s2 σ H2 _ I2 q2) ?_
  rintro ws s3 ⟨zs, H3, I3, rz, q3⟩
  rw [hks]
  exact ⟨I3.kIn, run_callX (us := .ref a :: us) (vs := .ref a :: vs) F hr tkW I3 (.cons rfl r) rz q3⟩
theorem pe_mo0 (c : Cls X.K C) (hm : Meth X.K C m g) (F : CallX X.prog X.w X.K X.mg X.base k (.ref g) ks spk) (hr : Room k X.A) (he : PE X o ta) (tkW : Takes X W) (hkw : PK X kws tk)
    (hall : (backToKw pos (keywordEach kws X.env)).all (·.1.isSome) = true := by rfl) (hks : (backToKw pos (keywordEach kws X.env)).filterMap (·.1) = ks := by rfl)
    (hpl : ((backTo pos (starEach [] X.env)).any (·.1) || (backToKw pos (keywordEach kws X.env)).any (·.1.isNone)) = false := by rfl)
    (ht : eval (.Call (.Attribute o m apos) [] kws pos) X.env = (do
      let ov ← eval o X.env
      standAt apos.atName
      let (f, first) ← holding [ov] (getMethod ov m pl)
      callWith pos f first (backTo pos (starEach [] X.env)) (backToKw pos (keywordEach kws X.env))) := by rfl) :
    PE X (.Call (.Attribute o m apos) [] kws pos) (tMo C m spk W ta tNil tk) := by
  refine ⟨fun pins s σ H Q I h => ?_⟩
  refine PySem.W.methodCall_KW (pl := pl) (thn (he.run pins s σ H _ I h) fun u s1 ⟨x, H1, I1, rx, a, dx, fs, ex, ea, l, q⟩ => ?_) ht
  subst ex
  obtain rfl : u = Value.ref a := rx
  refine getmeth_ok I1 ea c hm l ?_
  refine PySem.W.callWith_KW0 (first := [.ref a]) (h₀ := X.base) I.ok.mod.kin hm.kp hall (thn (hkw.run pos pins s1 σ H1 _ I1 q) ?_) hpl
  rintro ws s3 ⟨zs, H3, I3, rz, q3⟩
  rw [hks]
  exact ⟨I3.kIn, run_callX (us := [.ref a]) (vs := [.ref a]) F hr tkW I3 (.cons rfl .nil) rz q3⟩
end
end BJ

/-! the head by runs, the tables of code objects told, too -/
namespace BJ
open PySem PySem.W PySem.Calls PyProof.Rows HandSHeadRun
/-- the table of the code object of the def x -/
def tabAt (K : Frag) (x : PySem.Str) : Addr := match nsIn K mainGlobals x with
  | some (some (.ref f)) => (match K.lookup f with
    | some ⟨_, _, .func fd, _⟩ => (match fd.code with
      | .ref c => (match K.lookup c with
        | some ⟨_, _, .fields vs, _⟩ => (match (vs[11]? : Option Value) with
          | some (.ref p) => p
          | _ => 0)
        | _ => 0)
      | _ => 0)
    | _ => 0)
  | _ => 0
def Run4 (r : OpenRow) (M : Nat) (ts : List Addr) : Prop := ∀ (w : World) (os : OsState), (endF (stepQ (denQ tabQ) r.prog w) M r.prog w os).map (fun s => ts.map (getT s)) = some (ts.map fun _ => some (tabObj #[]))
theorem map4 {α β γ δ ε : Type} {o : Option α} {f : α → β} {g : α → γ} {k : α → δ} {l : α → ε} {b : β} {c : γ} {d : δ} {e : ε} (h1 : o.map f = some b) (h2 : o.map g = some c) (h3 : o.map k = some d) (h4 : o.map l = some e) : o.map (fun s => (f s, g s, (k s, l s))) = some (b, c, (d, e)) := by
  cases o with
  | none => cases h1
  | some x =>
    injection h1 with h1; injection h2 with h2; injection h3 with h3; injection h4 with h4
    show some (f x, g x, (k x, l x)) = _
    rw [h1, h2, h3, h4]
theorem head_km {r : OpenRow} {q : Program} {loose : List PySem.Str} {K : Params → Frag} {as ts : List Addr} {M : Nat} {d : DefRec} {kwd : List (PySem.Str × PySem.Expr)} (ek : ∀ P, as = (K P).map (·.1))
    (e : opening r.prog = plainProg r.prog.main.scope.names) (f : ∀ s, fenceModules? r.prog s = some s) (run1 : Run1 r M) (run2 : Run2 r M q loose) (run3 : Run3 r M as K) (run4 : Run4 r M ts)
    (hdef : defOf q r.name = some (d, kwd)) (hp : r.prog.theDef r.name = some (d.params, d.body, d.scope)) (hk : kwWritten? d.params.kwonlyargs d.params.kw_defaults = some kwd)
    (hwr : (!r.writes || r.records.isEmpty) = true) (k1 : r.wellSaid = true) (ok : (chainsOk q && opensWell r.prog && (frees r.toRowW && r.within.isEmpty)) = true) (hb : r.prog.bare) (hw : r.toRowW.promised)
    (call : WalkO q loose (XL q []) (kmHook K as ek ts).says r.toRowW d kwd fun f vs => PySem.call f vs) : r.Holds :=
  head_any (H := kmHook K as ek ts) (ob := fun s => (as.map (getT s), ts.map (getT s))) (fun s => Prod.ext (List.map_congr_left fun a _ => getT_eq s a) (List.map_congr_left fun a _ => getT_eq s a)) e f
    (fun w os => map4 (run1 w os) (run2 w os) (run3 w os) (run4 w os)) hdef hp hk hwr k1 ok hb hw call
end BJ

/-! dead branches; with C(..): without exceptions; list.extend(tuple); d.get(text) of a written dict -/
namespace BJ
open PySem PySem.Spec PyProof.Rows L2 Evl
open PySem.W (Frag)
section
variable {X : Cx}
theorem pe_dead {e : Expr} : PE X e (fun _ _ _ => False) := ⟨fun _ _ _ _ _ _ z => z.elim⟩
theorem ps_dead {st : Stmt} : PS X st (fun _ _ _ => False) := ⟨fun _ _ _ _ _ _ z => z.elim⟩
theorem pss_dead {st : List Stmt} : PSs X st (fun _ _ _ => False) := ⟨fun _ _ _ _ _ _ z => z.elim⟩
theorem pt_dead {e : Expr} : PT X e (fun _ _ _ => False) := ⟨fun _ _ _ _ _ _ z => z.elim⟩
end

section
variable {X : Cx}
/-- with o: body, where neither the body nor the methods raise and the body goes on behind its end -/
def tWith (X : Cx) (tc : TE) (tb : TS) : TS := fun D σ H => tc σ H fun v H1 => ∃ (a C dx g1 g2 : Addr) (fs : List (Str × V)) (k : Nat) (sp1 sp2 : Sp), v = .ref a ∧ H1 a = some (.ins C dx fs) ∧ Dun X.K C "__enter__" g1 ∧ Dun X.K C "__exit__" g2 ∧
  BJ.CallO X.prog X.w X.K X.mg X.base k (.ref g1) sp1 ∧ BJ.CallO X.prog X.w X.K X.mg X.base k (.ref g2) sp2 ∧ Room k X.A ∧
  sp1 [.ref a] H1 (fun _ H2 => tb { nx := fun σ' H3 => sp2 [.ref a, .non, .non, .non] H3 (fun _ H4 => D.nx σ' H4) fun _ _ _ => False, rt := fun _ _ => False } σ H2) fun _ _ _ => False
theorem ps_with {ctx : Expr} {body : List Stmt} {pos : Pos} {tc : TE} {tb : TS} (hc : PE X ctx tc) (hb : PSs X.nox body tb) : PS X (.With [⟨ctx, none⟩] body pos) (tWith X tc tb) := by
  refine ⟨fun pins s σ H D I h => ?_⟩
  refine PySem.W.kw_exec0 (thn (hc.run pins s σ H _ I h) fun u s1 ⟨v, H1, I1, rv, a, C, dx, g1, g2, fs, k, sp1, sp2, ev, ea, d1, d2, F1, F2, hr, q⟩ => ?_)
  subst ev
  obtain rfl : u = Value.ref a := rv
  obtain ⟨mA, O, _, _, _, _⟩ := ins_get I1.hok ea
  obtain ⟨od, J, _⟩ := O.look
  refine PySem.W.kw_core0 I1.kIn J d1.f d1.fn d2.f d2.fn (wpAny_call ?_)
  refine codeAny_mono (F1 X.A X.stack s1 H1 [.ref a] [.ref a] _ _ hr I1.env0 (.cons rfl .nil) q) fun r s' hq => ?_
  cases r with
  | error er =>
    obtain ⟨_, _, _, _, _, _, _, _, _, _, _, _, z⟩ := hq
    exact z.elim
  | ok fl =>
    cases fl with
    | ret u =>
      obtain ⟨v2, H2, I2, _, q2⟩ := I1.after hq
      refine wpAny_mono (hb.run pins s' σ H2 _ (I2.wish _) q2) (fun f s3 q3 => ?_) fun _ _ z => z.elim
      have q3' := q3.unwish
      cases f with
      | next =>
        obtain ⟨σ', H3, I3, q4⟩ := q3'
        refine wpAny_call ?_
        refine codeAny_mono (F2 X.A X.stack s3 H3 [.ref a, .none, .none, .none] [.ref a, .non, .non, .non] _ _ hr I3.env0 (.cons rfl (.cons rfl (.cons rfl (.cons rfl .nil)))) q4) fun r s4 hq4 => ?_
        cases r with
        | error er =>
          obtain ⟨_, _, _, _, _, _, _, _, _, _, _, _, z⟩ := hq4
          exact z.elim
        | ok fl =>
          cases fl with
          | ret u =>
            obtain ⟨v5, H5, I5, _, q5⟩ := I3.after hq4
            exact ⟨σ', H5, I5, q5⟩
          | _ => exact hq4.elim
      | ret v => obtain ⟨_, _, _, _, _, z⟩ := q3'; exact z.elim
      | brk => obtain ⟨_, _, _, z⟩ := q3'; exact z.elim
      | cont => obtain ⟨_, _, _, z⟩ := q3'; exact z.elim
    | _ => exact hq.elim
end

set_option maxRecDepth 8000 in
theorem extend_tup (l : Addr) (items : Array Value) (n : Nat) (b : Addr) (di : Option Addr) (sl : Array (Option Value)) (items2 : Array Value) (n2 : Nat) (hs0 : ¬(!items.isEmpty && Builtin.List.listTooLong (items.size + items2.size)) = true) (hs1 : items.size ≤ sizeLine) (hs2 : items.size + items2.size ≤ sizeLine + 1) :
    Meets (Builtin.«list.extend» ⟨[.ref l, .ref b], []⟩) (fun _ R s => s.heap.get? l = some { cls := .type "list", dict := none, data := .seq items n, slots := #[] } ∧ s.heap.get? b = some { cls := .type "tuple", dict := di, data := .seq items2 n2, slots := sl } ∧ R (.ok (.ret Value.none)) { s with heap := s.heap.update l (Obj.mapSeq fun x => x ++ items2), toks := s.toks }) :=
  .of_wp fun prog w A R s h => by
    obtain ⟨hp, g, d, tk, os⟩ := s; obtain ⟨hl, hb, h⟩ := h; have f1 := AutoSeq1.idx_int; have f2 := AutoSeq1.sub_tuple_tuple; have f3 := AutoSeq1.sub_list_list; have f4 := AutoSeq1.sub_tuple_list; have f5 := AutoSeq1.sub_list_tuple;
    have hz' : (items ++ items2).size ≤ sizeLine + 1 := by rw [Array.size_append]; exact hs2
    wp_walk using (wpAny_updateSeq hl rfl (hz := hs1) (_hz' := hz')), wpAny_loadPart' hl, wpAny_loadPart' hb; exact ⟨_, rfl, h⟩
/-- xs.extend(tuple) -/
def rExtendT : V → List V → Hp → VK → Prop := fun x vs H Q => ∃ l b xs zs, x = .ref l ∧ vs = [.ref b] ∧ H l = some (.lst xs) ∧ H b = some (.tup zs) ∧ xs.length + zs.length ≤ sizeLine ∧ Q .non (upd H l (.lst (xs ++ zs)))
theorem mt_extendT {X : Cx} : MtM X "list.extend" rExtendT := by
  intro pins s σ H x vs v us Q I rx rv h
  obtain ⟨l, b, xs, zs, rfl, rfl, hH, hB, hz, q⟩ := h
  cases rx
  obtain ⟨u, rfl, ru⟩ := rv.one
  cases ru
  obtain ⟨z, its, n, r, hl, e⟩ := I.lstM hH
  obtain ⟨hz2, its2, r2, ⟨c2, di2, da2, sl2⟩, e2, ec2, n2, ed2⟩ := (show ObjOk X.prog X.w H s.heap b (.tup zs) from I.hok b _ hB)
  cases (show c2 = _ from ec2)
  cases (show da2 = _ from ed2)
  have hl2 := r2.length
  have hsz : its.toArray.size + its2.toArray.size ≤ sizeLine := by rw [List.size_toArray, List.size_toArray]; omega
  have hlong : ¬ (!its.toArray.isEmpty && Builtin.List.listTooLong (its.toArray.size + its2.toArray.size)) = true := by
    rw [notLongL hsz, Bool.and_false]
    exact Bool.false_ne_true
  refine call_meets F.slot_list_extend ⟨_, e, rfl⟩ F.entry_list_extend (F.args_list_extend_2 _ _)
    (extend_tup l its.toArray n b di2 sl2 its2.toArray n2 hlong (by rw [List.size_toArray]; omega) (by omega)) ⟨e, e2, ?_⟩
  refine ⟨.non, _, I.lset (its' := its ++ its2) hH e (by simp) (r.append r2) ?_, rfl, q⟩
  rw [List.length_append]
  omega

section
variable {X : Cx} {o e : Expr} {apos cpos : Pos} {to te : TE}
/-- d.get(text) of a written dict -/
def tKGet (X : Cx) (to te : TE) : TE := fun σ H Q => to σ H fun x H1 => ∃ (a : Addr) (L : List (Str × V)), x = .ref a ∧ KDL X.K X.w.params a L ∧ te σ H1 fun y H2 => ∃ z : Str, y = .str z ∧ Q ((L.lookup z).getD .non) H2
theorem pe_kget (ho : PE X o to) (he : PE X e te) (m : M1 X o "get" apos e cpos) : PE X (.Call (.Attribute o "get" apos) [e] [] cpos) (tKGet X to te) := by
  refine ⟨fun pins s σ H Q I h => ?_⟩
  refine wpAny_Call_method m.base m.few m.line PySem.F.plainAttrs_dict PySem.F.slot_dict_get PySem.F.type_dict_get (thn (ho.run pins s σ H _ I h) fun u s1 ⟨x, H1, I1, rx, a, L, ex, d, q1⟩ => ?_)
  subst ex
  obtain rfl : u = Value.ref a := rx
  obtain ⟨es, n, hl, hk⟩ := d.kd.1
  have hm' := PySem.W.mapOf_K (prog := X.prog) (w := X.w) I1.kIn hl hk
  refine ⟨hm'.typeIs, fun b q => ?_, ?_⟩
  · cases q
    exact ⟨_, I1.kIn _ _ hl, rfl⟩
  rw [m.trees]
  refine Calls.callWith_builtin rfl (Calls.evalArgs_plain (Calls.spliced_cons (thn (he.run pins s1 σ H1 _ I1 q1) fun iv s2 ⟨y, H2, I2, ry, z, ey, q2⟩ => Calls.spliced_nil ?_)))
  subst ey
  obtain ⟨t, rfl⟩ := (show ∃ t, iv = Value.str z t from ry)
  have hm2 := PySem.W.mapOf_K (prog := X.prog) (w := X.w) I2.kIn hl hk
  refine call_meetsIn PySem.F.slot_dict_get hm2.typeIs PySem.F.entry_dict_get (PySem.F.args_dict_get_2 _ _) (meets_dict_get (strKind X.prog X.w) a (strKind_is X.prog X.w z t) d.low) ⟨_, hm2, ?_⟩
  have lk := d.look z
  refine ⟨_, H2, I2.tok _, ?_, q2⟩
  cases hz : L.lookup z with
  | none =>
    rw [hz] at lk
    rw [PySem.W.find_K hl lk]
    rfl
  | some v =>
    rw [hz] at lk
    obtain ⟨u, e1, e2⟩ := lk
    rw [PySem.W.find_K hl e1]
    exact e2
end
end BJ

/-! {**d, k: v} -/
namespace BJ
open PySem PySem.Spec PyProof.Rows L2 Evl
open PySem.W (Frag)
section
variable {prog : Program} {w : World} {K : Type} [DecidableEq K] {knd : KeyKind prog w K} {A : Around} {E : Value → Shared → Prop} {s : Shared}
theorem dictPut_pairs {d : Addr} {kvs : List (K × Value)} {k : K} {key v : Value} {Q : Unit → Shared → Prop} (hkey : knd.is k key = true) (hm : s.heap.DictOf knd d kvs)
    (hQ : ∀ h', h'.DictOf knd d (stored kvs k v) → Heap.SameBut d s.heap h' → Q () { s with heap := h' })
    (hsz : kvs.length ≤ sizeLine) :
    wpAny (model prog w) A (dictPut d (knd.hash k) key v) Q E s := by
  obtain ⟨o, es, ep, ho, hc, hd, hk, hp, hn⟩ := hm
  have hes : es.size ≤ sizeLine := by have e1 := hp.length; have e2 : es.toList.length = es.size := by simp
                                      omega
  unfold dictPut
  refine wpAny_bind (wpAny_dictFind_of hkey ho hd hk ?_)
  have hidx : (es.findIdx? fun e => knd.is k e.key) = kvs.findIdx? fun kv => decide (kv.1 = k) := by
    rw [← hp.findIdx k]; obtain ⟨l⟩ := es; simp
  cases hi : es.findIdx? fun e => knd.is k e.key with
  | some i =>
    refine wpAny_updateDict ho hd (hQ _ ⟨_, _, ep, Heap.get?_update_self _ ho (Obj.isFreed_of_dict (Obj.data_mapDict hd _)),
      hc.mapDict _, Obj.data_mapDict hd _, hk.modify _ _, ?_, ?_⟩ (Heap.SameBut.update ..))
    · rw [stored, if_pos (any_of_findIdx_some (hidx ▸ hi))]
      have hl : (es.toList.findIdx? fun e => knd.is k e.key) = some i := by rw [← hi]; obtain ⟨l⟩ := es; simp
      have := hp.modify hn hl v
      obtain ⟨l⟩ := es
      simpa using this
    · rw [stored, if_pos (any_of_findIdx_some (hidx ▸ hi)), keys_map_store]; exact hn
  | none =>
    have hnot : k ∉ kvs.map (·.1) := not_mem_of_findIdx_none (hidx ▸ hi)
    have hany : ¬ (kvs.any fun kv => decide (kv.1 = k)) = true := by
      rw [List.any_eq_true]; rintro ⟨kv, hkv, he⟩
      exact hnot (List.mem_map.mpr ⟨kv, hkv, of_decide_eq_true he⟩)
    refine wpAny_updateDictKeys (hz := hes) ho hd (hQ _ ⟨_, _, ep + 1, Heap.get?_update_self _ ho (Obj.isFreed_of_dict (Obj.data_mapDictKeys hd _)),
      hc.mapDictKeys _, Obj.data_mapDictKeys hd _, hk.push hkey _, ?_, ?_⟩ (Heap.SameBut.update ..))
    · rw [stored, if_neg hany]
      have := hp.append hkey (knd.hash k) v
      obtain ⟨l⟩ := es
      simpa using this
    · rw [stored, if_neg hany, List.map_append, List.nodup_append]
      refine ⟨hn, by simp, ?_⟩
      intro a ha b hb
      simp only [List.map_cons, List.map_nil, List.mem_singleton] at hb
      subst hb
      exact fun e => hnot (e ▸ ha)
end
section
variable {prog : Program} {w : World} {A : Around} {E : Value → Shared → Prop} {s : Shared}
theorem key_noRef {k : Key} {x : Value} (h : (mixKind prog w).is k x = true) : ∀ a, x ≠ .ref a := by
  rintro a rfl
  rcases keyIs_shape h with ⟨i, t, _, e⟩ | ⟨z, t, _, e⟩ <;> cases e
theorem merge_loop {d o : Addr} {kvs more : List (Key × Value)} {Q : Unit → Shared → Prop} (hdo : d ≠ o)
    (hd : s.heap.DictOf (mixKind prog w) d kvs) (ho : s.heap.DictOf (mixKind prog w) o more)
    (hQ : ∀ h', h'.DictOf (mixKind prog w) d (merged kvs more) → h'.DictOf (mixKind prog w) o more → Heap.SameBut d s.heap h' → Q () { s with heap := h' })
    (hsz : kvs.length + more.length ≤ sizeLine) :
    wpAny (model prog w) A (do
      let l ← dictEntries o
      let epoch ← dictEpoch o
      forIn (List.range l.size) PUnit.unit fun i (_ : PUnit) => (do
          let l' ← dictEntries o
          match l'[i]? with
            | some e => do
              holding [e.key, e.val]
                  (if false = true then do
                    let f ← dictFind d e.key e.hash
                    if f.isSome = true then do
                        rule "dict.merge.duplicate-key"
                        let x ← newExc (Value.type "KeyError") [e.key]
                        (raiseNew x : Sem PUnit)
                        dictPut d e.hash e.key e.val
                      else dictPut d e.hash e.key e.val
                  else dictPut d e.hash e.key e.val)
              let ep' ← dictEpoch o
              if (ep' != epoch) = true then do
                  (unsupported "dict.changed-during-merge" : Sem PUnit)
                  pure (ForInStep.yield PUnit.unit)
                else pure (ForInStep.yield PUnit.unit)
            | _ => do
              (unsupported "dict.changed-during-merge" : Sem PUnit)
              pure (ForInStep.yield PUnit.unit) : Sem (ForInStep PUnit))
      pure ()) Q E s := by
  obtain ⟨od, esd, epd, hod, hcd, hdd, hkd, hpd, hnd⟩ := id hd
  obtain ⟨oo, eso, epo, hoo, hco, hdo', hko, hpo, hno⟩ := id ho
  have hlen : more.length = eso.size := by rw [← hpo.length]; simp
  refine wpAny_bind (wpAny_dictEntries hoo hdo' ?_)
  refine wpAny_bind (wpAny_dictEpoch hoo hdo' ?_)
  rw [List.range_eq_range']
  refine wpAny_bind ?_
  refine wpAny_forIn_list _
      (fun rest _ s' => ∃ h' i, s' = { s with heap := h' } ∧ rest = List.range' i (eso.size - i) ∧ i ≤ eso.size ∧ h'.DictOf (mixKind prog w) d (merged kvs (more.take i)) ∧ h'.get? o = some oo ∧ Heap.SameBut d s.heap h')
      _ ?_ ?_ _ _ ⟨s.heap, 0, rfl, by simp, Nat.zero_le _, by simpa [merged] using hd, hoo, Heap.SameBut.refl _ _⟩
  · rintro x rest b s' ⟨h', i, rfl, hr, hi, hd', hoo', hs'⟩
    have hlt : i < eso.size := by
      rcases Nat.lt_or_ge i eso.size with h | h
      · exact h
      · rw [Nat.sub_eq_zero_of_le h] at hr; simp at hr
    obtain ⟨rfl, hrest⟩ : x = i ∧ rest = List.range' (i + 1) (eso.size - (i + 1)) := by
      have e : eso.size - i = (eso.size - (i + 1)) + 1 := by omega
      rw [e, List.range'_succ] at hr
      injection hr with h1 h2
      exact ⟨h1, h2⟩
    refine wpAny_bind (wpAny_dictEntries hoo' hdo' ?_)
    rw [Array.getElem?_eq_getElem hlt]
    obtain ⟨kv, hkv⟩ : ∃ kv, more[x]? = some kv := ⟨more[x]'(by rw [hlen]; exact hlt), List.getElem?_eq_getElem _⟩
    obtain ⟨k, v⟩ := kv
    obtain ⟨hkey, hval⟩ := hpo.get? (e := eso[x]) (by simp [hlt]) hkv
    obtain ⟨k', hkey', hhash⟩ := hko eso[x] (Array.getElem_mem hlt)
    obtain rfl : k' = k := (mixKind prog w).inj _ _ _ hkey' hkey
    show wpAny _ _ (holding [eso[x].key, eso[x].val] (dictPut d eso[x].hash eso[x].key eso[x].val) >>= _) _ _ _
    rw [hhash, hval]
    have hmx : (merged kvs (more.take x)).length ≤ sizeLine := by
      have e1 := merged_length_le kvs (more.take x)
      have e2 : (more.take x).length ≤ more.length := by rw [List.length_take]; omega
      omega
    refine wpAny_bind (wpAny_holding (dictPut_pairs hkey hd' (fun h'' hd'' hs'' => ?_) hmx))
    have hoo'' : h''.get? o = some oo := (hs''.2 o (Ne.symm hdo)).trans hoo'
    refine wpAny_bind (wpAny_dictEpoch hoo'' hdo' ?_)
    rw [if_neg (by simp)]
    exact wpAny_pure ⟨h'', x + 1, rfl, hrest, hlt, by rw [merged_take_succ kvs more x (k', v) hkv]; exact hd'', hoo'', hs'.trans hs''⟩
  · rintro b s' ⟨h', i, rfl, hr, hi, hd', hoo', hs'⟩
    have hin : i = eso.size := by
      rcases Nat.lt_or_ge i eso.size with h | h
      · have e : eso.size - i = (eso.size - (i + 1)) + 1 := by omega
        rw [e, List.range'_succ] at hr; exact nomatch hr
      · exact Nat.le_antisymm hi h
    refine wpAny_pure (hQ h' ?_ ⟨oo, eso, epo, hoo', hco, hdo', hko, hpo, hno⟩ hs')
    rw [hin, ← hlen, List.take_length] at hd'; exact hd'
theorem merge_map {d o : Addr} {kvs more : List (Key × Value)} {Q : Unit → Shared → Prop} (hdo : d ≠ o) (hoS : (o == sysModules) = false)
    (hd : s.heap.DictOf (mixKind prog w) d kvs) (ho : s.heap.DictOf (mixKind prog w) o more)
    (hQ : ∀ h', h'.DictOf (mixKind prog w) d (merged kvs more) → h'.DictOf (mixKind prog w) o more → Heap.SameBut d s.heap h' → Q () { s with heap := h' })
    (hsz : kvs.length + more.length ≤ sizeLine) :
    wpAny (model prog w) A (mergeMapping d (.ref o) false) Q E s := by
  obtain ⟨od, esd, epd, hod, hcd, hdd, hkd, hpd, hnd⟩ := id hd
  obtain ⟨oo, eso, epo, hoo, hco, hdo', hko, hpo, hno⟩ := id ho
  have hlen : more.length = eso.size := by rw [← hpo.length]; simp
  unfold mergeMapping
  refine wpAny_bind (wpAny_isInstance ho.typeIs isSubtype_dict_dict ?_)
  simp only [if_true]
  refine wpAny_bind (wpAny_specialOf ho.typeIs F.slot_dict_iter.lookup (wpAny_bind (wpAny_pure ?_)))
  simp only [beq_self_eq_true]
  rw [if_neg (by rw [hoS]; exact Bool.false_ne_true)]
  refine wpAny_bind (wpAny_dictEntries hod hdd ?_)
  split
  · refine wpAny_bind (wpAny_dictEntries hoo hdo' ?_)
    have hloop : (forIn eso PUnit.unit fun e (_ : PUnit) => (match e.key with
                    | Value.ref _ => (do
                      let v ← specialOf e.key (Str.ofString "__eq__")
                      if (v != some (Value.builtin "object.__eq__")) = true then
                          if (Array.filter (fun x => x.hash == e.hash) eso).size > 1 then do
                            (unsupported "dict.merge-into-an-empty-dict:keys-of-equal-hash" : Sem PUnit)
                            pure (ForInStep.yield PUnit.unit)
                          else pure (ForInStep.yield PUnit.unit)
                        else pure (ForInStep.yield PUnit.unit))
                    | x => pure (ForInStep.yield PUnit.unit) : Sem (ForInStep PUnit))) = pure PUnit.unit := by
      rw [← Array.forIn_toList]
      refine forIn_yield_id _ fun e he c => ?_
      obtain ⟨k, hkey, _⟩ := hko e (Array.mem_toList_iff.mp he)
      have := key_noRef hkey
      split
      · rename_i a ea; exact absurd ea (this a)
      · rfl
    refine wpAny_bind (wpAny_of_eq hloop (merge_loop hdo hd ho hQ hsz))
  · exact merge_loop hdo hd ho hQ hsz
end

section
variable {X : Cx} {pos : Pos} {d k v : Expr} {td tk tv : TE}
/-- {**d, k: v} -/
def tStar (td tk tv : TE) : TE := fun σ H Q => ∀ p, H p = none → td σ (upd H p (.dK [])) fun x H1 => ∃ (a : Addr) (kvs : List (Key × V)), x = .ref a ∧ H1 a = some (.dK kvs) ∧ a ≠ p ∧ H1 p = some (.dK []) ∧ kvs.length + 1 ≤ sizeLine ∧
  ∀ q, q ≠ p → H1 q = none → tk σ (upd (upd H1 p (.dK (mergeK [] kvs))) q (.dK [])) fun y H2 => ∃ ky : Key, y = kV ky ∧ tv σ H2 fun z H3 => H3 q = some (.dK []) ∧ H3 p = some (.dK (mergeK [] kvs)) ∧
    Q (.ref p) (upd (upd H3 q (.dK [(ky, z)])) p (.dK (mergeK (mergeK [] kvs) [(ky, z)])))
theorem pe_star (hd : PE X d td) (hk : PE X k tk) (hv : PE X v tv) : PE X (.Dict [none, some k] [d, v] pos) (tStar td tk tv) := by
  refine ⟨fun pins s σ H Q I h => ?_⟩
  rw [arm_eval_Dict]
  refine wpAny_bind (wpAny_standAt ?_)
  show wpAny _ _ (dictDisplay [(none, _), (some (eval k X.env), _)]) _ _ _
  unfold dictDisplay
  dsimp only
  simp only [List.forIn_cons, List.forIn_nil, List.isEmpty_nil, if_true, pure_bind, bind_assoc, List.nil_append, List.length_singleton, Nat.reduceBEq, Bool.false_eq_true, if_false]
  refine wpAny_bind (wpAny_alloc ?_)
  have hn := I.hok.fresh (Nat.le_refl s.heap.objs.size)
  have I1 := I.laid (a := s.heap.objs.size) (o := .dK []) (h' := s.heap.push { cls := .type "dict", data := .dict #[] }) (t' := s.toks) (fun _ _ q => Heap.get?_push_of_some _ q) (Nat.le_refl _) (dk_empty s.heap I.big)
  refine wpAny_bind (wpAny_holding (wpAny_bind (thn (hd.run pins _ σ _ _ I1 (h _ hn)) fun u s1 ⟨x, H1, J1, rx, a, kvs, ex, ea, hap, ep, hz, q1⟩ => wpAny_bind (wpAny_standAt (wpAny_pure ?_)))))
  subst ex
  obtain rfl : u = Value.ref a := rx
  obtain ⟨_, _, vs0, r0, dd0⟩ := dk_of J1.hok ep
  cases r0
  obtain ⟨z1, hda, vs, r1, dd1⟩ := dk_of J1.hok ea
  have hl1 := r1.length
  have hm1 := length_mergeK kvs []
  rw [List.length_nil] at hm1
  refine wpAny_bind (wpAny_onRaise (wpAny_tryCatch (wpAny_onRaise (wpAny_holding (merge_map (Ne.symm hap) hda dd0 dd1 (fun h' dm _ sb => ?_) (by rw [List.length_nil]; omega))))))
  have J2 : Inv X pins σ (upd H1 s.heap.objs.size (.dK (mergeK [] kvs))) { s1 with heap := h' } :=
    d_write J1 (by rw [ep]; exact True.intro) sb (let ⟨q, _, _, hq, _⟩ := dm; ⟨q, hq⟩) (dk_new (by omega) (beq_eq_false_iff_ne.mpr (Ne.symm (Nat.ne_of_lt I.big))) (r1.merge .nil) dm)
  rw [if_neg (by simp)]
  rw [bind_assoc]
  have hp2 : (upd H1 s.heap.objs.size (.dK (mergeK [] kvs))) h'.objs.size = none := J2.hok.fresh (Nat.le_refl h'.objs.size)
  have hqp : h'.objs.size ≠ s.heap.objs.size := by
    intro e
    rw [e, upd_same] at hp2
    cases hp2
  have hq1 : H1 h'.objs.size = none := by rwa [upd_ne hqp] at hp2
  have J3 := J2.laid (a := h'.objs.size) (o := .dK []) (h' := h'.push { cls := .type "dict", data := .dict #[] }) (t' := s1.toks) (fun _ _ q => Heap.get?_push_of_some _ q) (Nat.le_refl _) (dk_empty h' J2.big)
  refine wpAny_bind (wpAny_holding (wpAny_subDict (knd := mixKind X.prog X.w) (by simp) ?_))
  refine evalPairs_cons (thn (hk.run pins _ σ _ _ J3 (q1 _ hqp hq1)) fun uk s2 ⟨y, H2, I2, ry, ky, ey, q2⟩ => wpAny_bind (thn (hv.run pins s2 σ H2 _ I2 q2) fun uv s3 ⟨zz, H3, I3, rz, e1, e2, q3⟩ => wpAny_bind (wpAny_standAt (wpAny_pure (evalPairs_nil ?_)))))
  subst ey
  obtain ⟨_, hdq, vq, rq, ddq⟩ := dk_of I3.hok e1
  cases rq
  refine ⟨[(ky, uv)], ⟨kV_is ry, rfl, True.intro⟩, ddq, fun h2 dm2 sb2 => ?_⟩
  have kv1 : KV [(ky, zz)] [(ky, uv)] := .cons ⟨rfl, rz⟩ .nil
  have J4 : Inv X pins σ (upd H3 h'.objs.size (.dK [(ky, zz)])) { s3 with heap := h2, toks := s3.toks + 1 } :=
    d_write I3 (by rw [e1]; exact True.intro) sb2 (let ⟨q, _, _, hq, _⟩ := dm2; ⟨q, hq⟩) (dk_new (by rw [sizeLine_eq]; simp) hdq (kv1.merge .nil) dm2)
  obtain ⟨_, hdp4, vp4, rp4, ddp4⟩ := dk_of J4.hok (show (upd H3 h'.objs.size (.dK [(ky, zz)])) s.heap.objs.size = some (.dK (mergeK [] kvs)) by rw [upd_ne (Ne.symm hqp)]; exact e2)
  obtain ⟨_, hdq4, vq4, rq4, ddq4⟩ := dk_of J4.hok (show (upd H3 h'.objs.size (.dK [(ky, zz)])) h'.objs.size = some (.dK [(ky, zz)]) by rw [upd_same])
  have l4 := rp4.length
  have l5 := rq4.length
  have l6 := length_mergeK [(ky, zz)] (mergeK [] kvs)
  rw [List.length_singleton] at l5 l6
  refine wpAny_bind (wpAny_bind (wpAny_onRaise (wpAny_holding (merge_map (Ne.symm hqp) hdq4 ddp4 ddq4 (fun h5 dm5 _ sb5 => wpAny_pure (wpAny_pure ⟨.ref s.heap.objs.size, _, ?_, rfl, q3⟩)) (by omega)))))
  exact d_write J4 (by rw [upd_ne (Ne.symm hqp), e2]; exact True.intro) sb5 (let ⟨q, _, _, hq, _⟩ := dm5; ⟨q, hq⟩) (dk_new (by omega) hdp4 (rq4.merge rp4) dm5)
end
end BJ

/-! defs with defaults, in order and keyword-only -/
namespace BJ
open PySem PySem.Spec PyProof.Rows L2 Evl
open PySem.W (Frag)
/-- a def with defaults dvs, and keyword-only ones kws -/
structure DefF (K : Frag) (x qual : Str) (st : Stmt) (f : Addr) (dvs : List V) (kws : List (Str × V)) : Prop where
  ex : ∃ fd, FunD K x qual (defArgs st) (defBody st) (defScope st) dvs kws f fd
section
variable {P : Program} {w : World} {K : Frag} {mg : Str → Option Value} {base : Heap} {x qual : Str} {st : Stmt} {f : Addr} {dvs : List V} {kws : List (Str × V)} {N ps : List Str} {k : Nat} {sp : Sp}
theorem DefF.ok (D : DefF K x qual st f dvs kws) (S : FnScope N ps (defScope st)) (len : ∀ vs H Q E, sp vs H Q E → vs.length = ps.length)
    (hbody : ∀ (cdv : Value) (A : Around) (outer : List Env) (s : Shared) (H : Hp) (vs : List V) (Q : VK) (E : XK),
      Room k (A.deeper (envOfC qual (defScope st) s.heap.objs.size f cdv)) → sp vs H Q E →
      ∃ t, PSs (cxOf (L2.CX P w) P w K mg base N qual (defScope st) f cdv A outer s H E) (defBody st) t ∧ t { nx := fun _ H' => Q .non H', rt := Q } (start N vs) H) :
    ∃ fd, FunD K x qual (defArgs st) (defBody st) (defScope st) dvs kws f fd ∧ FnOk P w K mg base (L2.CX P w) (k + 1) f fd ps sp := by
  obtain ⟨fd, F⟩ := D.ex
  exact ⟨fd, F, F.ok S len hbody⟩
theorem binds_kbn {fd : FuncData} {ds : List Value} {dv : List V} {n : Nat} (hb : Binds K fd ps ds) (r : Vals dv ds) (hn : n + ds.length = ps.length) : KBn K fd ps n [] (fun us _ => us ++ ds) (fun vs _ => vs ++ dv) := by
  refine ⟨fun s us ws X hu hw => ?_, fun r1 _ => r1.append r⟩
  obtain rfl := List.length_eq_zero_iff.mp hw
  exact hb s us X (by rw [List.length_append, hu]; exact hn)
/-- f(e1, .., en): the first j defaults are not wanted -/
theorem DefF.call {fd : FuncData} (F : FunD K x qual (defArgs st) (defBody st) (defScope st) dvs [] f fd) (G : FnOk P w K mg base (L2.CX P w) (k + 1) f fd ps sp) (n j : Nat) (hd : dvs ≠ []) (hn : n + (dvs.length - j) = ps.length)
    (h : ∀ (T : Addr) (kV doc pm : Value) (an : Option Addr) (cdv ct : Value) (us its : List Value), us.length = n → its.length = dvs.length →
      ∃ k, bindArgs (PySem.W.fnOf x qual (defArgs st) (defBody st) (defScope st) (.ref T) kV doc pm an cdv ct) ⟨us, []⟩ = seqItems? (.ref T) >>= k ∧ k (some its.toArray) = pure (ps.zip (us ++ its.drop j))) :
    CallX P w K mg base (k + 1) (.ref f) [] fun vs zs H Q E => vs.length = n ∧ zs.length = 0 ∧ sp (vs ++ dvs.drop j) H Q E := by
  obtain ⟨ds, r, hb⟩ := F.binds1 n j hd hn h
  have l := r.length
  rw [List.length_drop] at l
  exact callX_of G (binds_kbn hb r (by rw [← l]; exact hn))
end
end BJ

/-! y = {k: v for ..}; f(text.replace(..)) -/
namespace BJ
open PySem PySem.Spec PyProof.Rows L2 Evl
open PySem.W (Frag)
section
variable {X : Cx}
theorem ps_setDc {i : Nat} {y : Str} {py : Pos} {kx vx tg iter : Expr} {ifs : List Expr} {scope : Scope} {own : List (Str × Nat)} {pos spos : Pos} {wi : TI} {g : TG} {tt : TT} {tk tv : TE} (hc : X.calm = true) (hN : X.N.Nodup) (hy : X.N[i]? = some y) (hyl : X.env.scope.names.lookup y = some .local)
    (hsw : swapsWith (.DictComp kx vx [⟨tg, iter, ifs, 0⟩] scope pos) (some (.Name y py)) spos.line X.env = pure true) (hi : PI X tg iter wi) (ok : BlkOk X.N X.env.scope scope own)
    (hg : ∀ (s : Shared) (H : Hp) (C : Addr) (cl : List (Str × Addr)) (fp : List Addr), PG (X.blk s H scope (compEnvC scope cl C X.env) fp) tg g) (ht : ∀ (s : Shared) (H : Hp) (C : Addr) (cl : List (Str × Addr)) (fp : List Addr), PTs (X.blk s H scope (compEnvC scope cl C X.env) fp) ifs tt)
    (hk : ∀ (s : Shared) (H : Hp) (C : Addr) (cl : List (Str × Addr)) (fp : List Addr), PE (X.blk s H scope (compEnvC scope cl C X.env) fp) kx tk)
    (he : ∀ (s : Shared) (H : Hp) (C : Addr) (cl : List (Str × Addr)) (fp : List Addr), PE (X.blk s H scope (compEnvC scope cl C X.env) fp) vx tv) (hs : ∀ x, foldedSetIterable iter X.env x = pure x := by intro _; rfl) :
    PS X (.Assign [.Name y py] (.DictComp kx vx [⟨tg, iter, ifs, 0⟩] scope pos) spos) (tAsg (tDc wi g tt tk tv (own.map (·.2))) (gName i)) := by
  refine ⟨fun pins s σ H D I h => ?_⟩
  rw [exec_Assign_Name_used _ _ _ _ hsw]
  refine wpAny_bind (wpAny_standAt (wpAny_bind ?_))
  show wpAny _ X.A (do let _ ← comprehension (.DictComp kx vx [⟨tg, iter, ifs, 0⟩] scope pos) scope X.env (firstIterPos [⟨tg, iter, ifs, 0⟩] pos) newDict false (eval iter X.env) (some (assign (.Name y py) X.env))) _ _ s
  have h : tDc wi g tt tk tv (own.map (·.2)) σ H (fun x H1 => gName i x σ H1 D.nx) := h
  refine wpAny_bind (thn (dc_core (Qf := fun _ s' => SP X pins D .next s') hc hN I hi ok hg ht hk he hs h fun L C s' m H' I' q hn f => ?_) fun _ s' hq => wpAny_pure (wpAny_pure hq))
  show wpAny _ _ (assign (.Name y py) X.env (.ref L)) _ _ _
  refine wpAny_assign_Name (store_ok2 (v := V.ref L) I' hN hy (.inl hyl) rfl (fun s2 I2 ⟨a, sb, ha⟩ => ?_) (.inr hyl))
  obtain ⟨f0, f1, f2, f3, f4, f5⟩ := f
  have haC : C ≠ a := by
    rcases ha with z | z
    · rw [z]; exact f1
    · exact fun e => f4 y a z e.symm
  refine ⟨m, hn.sameBut sb haC, fun h3 sb3 => ?_⟩
  exact ⟨_, H', I2.turned (t' := s2.toks) (fun b o hb e => (sb3.2 b hb).trans e) f0 f1 f3 f4 f5, q⟩
theorem sw_trueD {kx vx : Expr} {gs : List Comprehension} {scope : Scope} {pos py : Pos} {y : Str} {l : Nat} {env : Env} (hk : env.scope.kind = .function) (hy : env.scope.names.lookup y = some .local) (hl : (py.line == pos.line) = true)
    (ha : (scope.names.any fun (n, k) => n == y && (k == .local || k == .cell)) = false) : swapsWith (.DictComp kx vx gs scope pos) (some (.Name y py)) l env = pure true := by
  have ky : env.kindOf y = some .local := hy
  have hb : env.blockKind = .function := by unfold Env.blockKind; rw [hk]; rfl
  unfold swapsWith
  simp only [hb, ky, ha, Expr.pos, hl]
  rfl
end
section
variable {X : Cx} {W : WX} {u : Value} {sp : Sp} {k : Nat} {x : Str} {e : Expr} {es : List Expr} {t : TA} {p pos : Pos}
theorem pet_co (F : CallO X.prog X.w X.K X.mg X.base k u sp) (hr : Room k X.A) (hg : Gl X x) (hm : X.mg x = some u)
    (hk : PySem.W.keepIn X.K u = true) (tkW : Takes X W) (ha : PAT X (e :: es) t) (hdb : (x == ("__debug__" : Str)) = false := by decide)
    (he : starEach (e :: es) X.env = (false, eval e X.env) :: starEach es X.env := by rfl)
    (hpl : (backTo pos (starEach es X.env)).any (·.1) = false := by rfl) : PET X (.Call (.Name x p) (e :: es) [] pos) (tCa sp W t) := by
  intro pins s σ H Q h0 I h
  refine wpAny_Call_Name_kw (ld_glob I hg hm ?_ hdb)
  refine PySem.W.callWith_K (h₀ := X.base) I.ok.mod.kin hk (thn (ha pos pins s σ H _ h0 I h) ?_) he hpl
  rintro us s1 ⟨vs, H1, I1, r, q⟩
  exact ⟨I1.kIn, run_callO F hr tkW I1 r q⟩
end
end BJ

/-! the head where the top asks a row of the world: each answer a theorem of its own; list.extend of any tuple -/
namespace BJ
open PySem PySem.W PySem.Calls PyProof.Rows HandSHeadRun
def Run1At (r : OpenRow) (M : Nat) (w : World) (os : OsState) : Prop := (endF (stepQ (denQ tabQ) r.prog w) M r.prog w os).map (fun s => looksF r.prog (boot_heap w.params) s.abs) = some true
def Run2At (r : OpenRow) (M : Nat) (q : Program) (loose : List PySem.Str) (w : World) (os : OsState) : Prop := (endF (stepQ (denQ tabQ) r.prog w) M r.prog w os).map (fun s => seenQ q loose (importedModules r.prog.main.body) (fun s => xlAt q [] s && recOk r.toRowW.records s) s.abs) = some (openGood q loose)
def Run3At (r : OpenRow) (M : Nat) (as : List Addr) (K : Params → Frag) (w : World) (os : OsState) : Prop := (endF (stepQ (denQ tabQ) r.prog w) M r.prog w os).map (fun s => as.map (getT s)) = some ((K w.params).map fun x => some x.2)
theorem run1_row {r : OpenRow} {M : Nat} (row : String) (hf : ∀ (w : World) (os : OsState), Run1At r M (w.withFollow row false) os) (ht : ∀ (w : World) (os : OsState), Run1At r M (w.withFollow row true) os) : Run1 r M := fun w os =>
  byRow2 row (P := fun w => Run1At r M w os) (fun w => hf w os) (fun w => ht w os) w
theorem run2_row {r : OpenRow} {M : Nat} {q : Program} {loose : List PySem.Str} (row : String) (hf : ∀ (w : World) (os : OsState), Run2At r M q loose (w.withFollow row false) os) (ht : ∀ (w : World) (os : OsState), Run2At r M q loose (w.withFollow row true) os) : Run2 r M q loose := fun w os =>
  byRow2 row (P := fun w => Run2At r M q loose w os) (fun w => hf w os) (fun w => ht w os) w
theorem run3_row {r : OpenRow} {M : Nat} {as : List Addr} {K : Params → Frag} (row : String) (hf : ∀ (w : World) (os : OsState), Run3At r M as K (w.withFollow row false) os) (ht : ∀ (w : World) (os : OsState), Run3At r M as K (w.withFollow row true) os) : Run3 r M as K := fun w os =>
  byRow2 row (P := fun w => Run3At r M as K w os) (fun w => hf w os) (fun w => ht w os) w
end BJ

/-! the top's run in two parts: the state between them is written down, what is not known of it is any -/
namespace BJ
open PySem PySem.W PySem.Calls PyProof.Rows HandSHeadRun
section
variable (st : SharedT → Thread → Option (SharedT × Thread)) (n0 : Nat) (ann : Option Value)
/-- just so many steps of the top -/
def goS : Nat → SharedT → Thread → Option (SharedT × Thread)
  | 0, s, t => some (s, t)
  | k + 1, s, t => match through t with
    | true => none
    | false => match stepOk n0 ann t with
      | false => none
      | true => match st s t with
        | some (s1, t1) => frS s1 fun s2 => goS k s2 t1
        | none => none
theorem goF_app {j : Nat} : ∀ {k : Nat} {s s1 : SharedT} {t t1 : Thread}, goS st n0 ann k s t = some (s1, t1) → goF st n0 ann (j + k) s t = goF st n0 ann j s1 t1
  | 0, s, s1, t, t1, h => by
    injection h with h
    injection h with h1 h2
    rw [h1, h2]
    rfl
  | k + 1, s, s1, t, t1, h => by
    unfold goS at h
    show (match through t with
      | true => some s
      | false => match stepOk n0 ann t with
        | false => none
        | true => match st s t with
          | some (s', t') => frS s' fun s' => goF st n0 ann (j + k) s' t'
          | none => none) = _
    cases e1 : through t with
    | true => rw [e1] at h; cases h
    | false =>
      rw [e1] at h
      cases e2 : stepOk n0 ann t with
      | false => rw [e2] at h; cases h
      | true =>
        rw [e2] at h
        cases e3 : st s t with
        | none => rw [e3] at h; cases h
        | some r =>
          obtain ⟨s2, t2⟩ := r
          rw [e3] at h
          simp only [frS_eq] at h ⊢
          exact goF_app h
end
/-- the state behind so many steps, from the boot -/
noncomputable def bootS (st : SharedT → Thread → Option (SharedT × Thread)) (N : Nat) (p : Program) (w : World) (os : OsState) : Option (Nat × SharedT × Thread) := match putAll (boot_heap w.params).objs.toList .nil 0 with
  | some (t, n) => frNat n fun m => match goS st m (bootAnn w) N (bootT w os (t, m)) (topStub p) with
    | some r => some (m, r)
    | none => none
  | none => none
theorem endF_cut {st : SharedT → Thread → Option (SharedT × Thread)} {N j n0 : Nat} {p : Program} {w : World} {os : OsState} {s : SharedT} {t : Thread} (h : bootS st N p w os = some (n0, s, t)) : endF st (j + N) p w os = goF st n0 (bootAnn w) j s t := by
  unfold bootS at h
  unfold endF
  cases e : putAll (boot_heap w.params).objs.toList .nil 0 with
  | none => rw [e] at h; cases h
  | some r =>
    obtain ⟨b, n⟩ := r
    rw [e] at h
    simp only [frNat_eq] at h ⊢
    cases g : goS st n (bootAnn w) N (bootT w os (b, n)) (topStub p) with
    | none => rw [g] at h; cases h
    | some q =>
      obtain ⟨s2, t2⟩ := q
      rw [g] at h
      injection h with h
      injection h with h1 h2
      injection h2 with h2 h3
      rw [goF_app st n (bootAnn w) g, h1, h2, h3]
/-- the objects at a, a + 1, .. (k of them): those of the list, else those that f tells -/
def fillL (f : Nat → Obj) : Nat → Nat → List (Addr × Obj) → List Obj
  | 0, _, _ => []
  | k + 1, a, [] => f a :: fillL f k (a + 1) []
  | k + 1, a, (b, o) :: r => match Nat.beq a b with
    | true => o :: fillL f k (a + 1) r
    | false => f a :: fillL f k (a + 1) ((b, o) :: r)
def treeOf (l : List Obj) : PySem.W.BT := match putAll l .nil 0 with
  | some (t, _) => t
  | none => .nil
noncomputable def bootFill (w : World) (x : Nat → Obj) (a : Nat) : Obj := match Nat.blt a 11 with
  | true => ((boot_heap w.params).objs.toList[a]?).getD default
  | false => x a
/-- those named first, then the boot's, then any -/
noncomputable def exFill (w : World) (x : Nat → Obj) : List (Nat × Obj) → Nat → Obj
  | [], a => bootFill w x a
  | (b, o) :: r, a => match Nat.beq a b with
    | true => o
    | false => exFill w x r a
noncomputable def midS (K : Params → Frag) (ex : List (Nat × Obj)) (n toks : Nat) (w : World) (os : OsState) (x : Nat → Obj) : SharedT := ⟨treeOf (fillL (exFill w x ex) n 0 (K w.params)), n, {}, #[], {}, toks, os⟩
/-- the thread that runs the rest of the top -/
noncomputable def restQ (rest : List Stmt) (env : Env) (c : Code) (pos q : Pos) : Thread := ⟨denQ tabQ (.body rest env), c, pos, [topFrame q]⟩
def envTop (p : Program) (c f : Nat) : Env := { scope := p.main.scope, locals := mainNs, globals := mainNs, cells := [], code := .ref c, frame := some f }
/-- the object at a behind a run -/
noncomputable def objOf (r : Option (Nat × SharedT × Thread)) (a : Nat) : Obj := match r with
  | some (_, s, _) => (s.tree.get a).getD default
  | none => default
/-- the first part at a world -/
def HalfAt (p : Program) (N : Nat) (K : Params → Frag) (ex : List (Nat × Obj)) (n toks : Nat) (t : Thread) (w : World) (os : OsState) : Prop := ∃ x : Nat → Obj, bootS (stepQ (denQ tabQ) p w) N p w os = some (11, midS K ex n toks w os x, t)
def Half (p : Program) (N : Nat) (K : Params → Frag) (ex : List (Nat × Obj)) (n toks : Nat) (t : Thread) : Prop := ∀ (w : World) (os : OsState), HalfAt p N K ex n toks t w os
theorem half_row {p : Program} {N : Nat} {K : Params → Frag} {ex : List (Nat × Obj)} {n toks : Nat} {t : Thread} (row : String) (hf : ∀ (w : World) (os : OsState), HalfAt p N K ex n toks t (w.withFollow row false) os)
    (ht : ∀ (w : World) (os : OsState), HalfAt p N K ex n toks t (w.withFollow row true) os) : Half p N K ex n toks t := fun w os =>
  byRow2 row (P := fun w => HalfAt p N K ex n toks t w os) (fun w => hf w os) (fun w => ht w os) w
section
variable {r : OpenRow} {N j n toks : Nat} {K : Params → Frag} {ex : List (Nat × Obj)} {t : Thread}
/-- the second part at a world: the looks, the view, K's objects -/
def Part1 (r : OpenRow) (j : Nat) (K : Params → Frag) (ex : List (Nat × Obj)) (n toks : Nat) (t : Thread) (w : World) (os : OsState) : Prop := ∀ x : Nat → Obj, (goF (stepQ (denQ tabQ) r.prog w) 11 (bootAnn w) j (midS K ex n toks w os x) t).map (fun s => looksF r.prog (boot_heap w.params) s.abs) = some true
def Part2 (r : OpenRow) (q : Program) (loose : List PySem.Str) (j : Nat) (K : Params → Frag) (ex : List (Nat × Obj)) (n toks : Nat) (t : Thread) (w : World) (os : OsState) : Prop := ∀ x : Nat → Obj, (goF (stepQ (denQ tabQ) r.prog w) 11 (bootAnn w) j (midS K ex n toks w os x) t).map (fun s => seenQ q loose (importedModules r.prog.main.body) (fun s => xlAt q [] s && recOk r.toRowW.records s) s.abs) = some (openGood q loose)
def Part3 (r : OpenRow) (as : List Addr) (K' : Params → Frag) (j : Nat) (K : Params → Frag) (ex : List (Nat × Obj)) (n toks : Nat) (t : Thread) (w : World) (os : OsState) : Prop := ∀ x : Nat → Obj, (goF (stepQ (denQ tabQ) r.prog w) 11 (bootAnn w) j (midS K ex n toks w os x) t).map (fun s => as.map (getT s)) = some ((K' w.params).map fun x => some x.2)
theorem run1_cut (row : String) (h : Half r.prog N K ex n toks t) (kf : ∀ (w : World) (os : OsState), Part1 r j K ex n toks t (w.withFollow row false) os) (kt : ∀ (w : World) (os : OsState), Part1 r j K ex n toks t (w.withFollow row true) os) : Run1 r (j + N) := fun w os => by
  obtain ⟨x, hx⟩ := h w os
  rw [endF_cut hx]
  exact byRow2 row (P := fun w => Part1 r j K ex n toks t w os) (fun w => kf w os) (fun w => kt w os) w x
theorem run2_cut {q : Program} {loose : List PySem.Str} (row : String) (h : Half r.prog N K ex n toks t) (kf : ∀ (w : World) (os : OsState), Part2 r q loose j K ex n toks t (w.withFollow row false) os) (kt : ∀ (w : World) (os : OsState), Part2 r q loose j K ex n toks t (w.withFollow row true) os) : Run2 r (j + N) q loose := fun w os => by
  obtain ⟨x, hx⟩ := h w os
  rw [endF_cut hx]
  exact byRow2 row (P := fun w => Part2 r q loose j K ex n toks t w os) (fun w => kf w os) (fun w => kt w os) w x
theorem run3_cut {as : List Addr} {K' : Params → Frag} (row : String) (h : Half r.prog N K ex n toks t) (kf : ∀ (w : World) (os : OsState), Part3 r as K' j K ex n toks t (w.withFollow row false) os) (kt : ∀ (w : World) (os : OsState), Part3 r as K' j K ex n toks t (w.withFollow row true) os) : Run3 r (j + N) as K' := fun w os => by
  obtain ⟨x, hx⟩ := h w os
  rw [endF_cut hx]
  exact byRow2 row (P := fun w => Part3 r as K' j K ex n toks t w os) (fun w => kf w os) (fun w => kt w os) w x
/-- a part between two states written down -/
def StepAt (r : OpenRow) (N2 : Nat) (K : Params → Frag) (ex : List (Nat × Obj)) (n toks : Nat) (t : Thread) (K2 : Params → Frag) (ex2 : List (Nat × Obj)) (n2 toks2 : Nat) (t2 : Thread) (w : World) (os : OsState) : Prop := ∀ x : Nat → Obj, ∃ y : Nat → Obj,
  goS (stepQ (denQ tabQ) r.prog w) 11 (bootAnn w) N2 (midS K ex n toks w os x) t = some (midS K2 ex2 n2 toks2 w os y, t2)
noncomputable def objOf2 (r : Option (SharedT × Thread)) (a : Nat) : Obj := match r with
  | some (s, _) => (s.tree.get a).getD default
  | none => default
section
variable {N2 n2 toks2 : Nat} {K2 : Params → Frag} {ex2 : List (Nat × Obj)} {t2 : Thread} {w : World} {os : OsState}
theorem part1_app (h : StepAt r N2 K ex n toks t K2 ex2 n2 toks2 t2 w os) (k : Part1 r j K2 ex2 n2 toks2 t2 w os) : Part1 r (j + N2) K ex n toks t w os := fun x => by
  obtain ⟨y, hy⟩ := h x
  rw [goF_app _ _ _ hy]
  exact k y
theorem part2_app {q : Program} {loose : List PySem.Str} (h : StepAt r N2 K ex n toks t K2 ex2 n2 toks2 t2 w os) (k : Part2 r q loose j K2 ex2 n2 toks2 t2 w os) : Part2 r q loose (j + N2) K ex n toks t w os := fun x => by
  obtain ⟨y, hy⟩ := h x
  rw [goF_app _ _ _ hy]
  exact k y
theorem part3_app {as : List Addr} {K' : Params → Frag} (h : StepAt r N2 K ex n toks t K2 ex2 n2 toks2 t2 w os) (k : Part3 r as K' j K2 ex2 n2 toks2 t2 w os) : Part3 r as K' (j + N2) K ex n toks t w os := fun x => by
  obtain ⟨y, hy⟩ := h x
  rw [goF_app _ _ _ hy]
  exact k y
end
end
end BJ

/-! list.extend of any tuple; comprehensions that make tuples, by what is in them -/
namespace BJ
open PySem PySem.Spec PyProof.Rows L2 Evl
open PySem.W (Frag)
/-- xs.extend(tuple), the tuple known by what is in it -/
def rExtendS (K : Frag) : V → List V → Hp → VK → Prop := fun x vs H Q => ∃ l b xs zs, x = .ref l ∧ vs = [.ref b] ∧ H l = some (.lst xs) ∧ SqT K H b zs ∧ xs.length + zs.length ≤ sizeLine ∧ Q .non (upd H l (.lst (xs ++ zs)))
theorem mt_extendS {X : Cx} : MtM X "list.extend" (rExtendS X.K) := by
  intro pins s σ H x vs v us Q I rx rv h
  obtain ⟨l, b, xs, zs, rfl, rfl, hH, hB, hz, q⟩ := h
  cases rx
  obtain ⟨u, rfl, ru⟩ := rv.one
  cases ru
  obtain ⟨z, its, n, r, hl, e⟩ := I.lstM hH
  obtain ⟨its2, r2, ⟨⟨c2, di2, da2, sl2⟩, e2, ec2, n2, ed2⟩, hz2⟩ := I.tuple hB
  cases (show c2 = _ from ec2)
  cases (show da2 = _ from ed2)
  have hl2 := r2.length
  have hsz : its.toArray.size + its2.toArray.size ≤ sizeLine := by rw [List.size_toArray, List.size_toArray]; omega
  have hlong : ¬ (!its.toArray.isEmpty && Builtin.List.listTooLong (its.toArray.size + its2.toArray.size)) = true := by
    rw [notLongL hsz, Bool.and_false]
    exact Bool.false_ne_true
  refine call_meets F.slot_list_extend ⟨_, e, rfl⟩ F.entry_list_extend (F.args_list_extend_2 _ _)
    (extend_tup l its.toArray n b di2 sl2 its2.toArray n2 hlong (by rw [List.size_toArray]; omega) (by omega)) ⟨e, e2, ?_⟩
  refine ⟨.non, _, I.lset (its' := its ++ its2) hH e (by simp) (r.append r2) ?_, rfl, q⟩
  rw [List.length_append]
  omega
/-- the tuples at ts hold xss -/
def Tups (K : Frag) (H : Hp) (ts : List Addr) (xss : List (List V)) : Prop := Paired (fun (t : Addr) (xs : List V) => SqT K H t xs) ts xss
section
variable {K : Frag} {H H1 : Hp}
theorem Tups.len {ts : List Addr} {xss : List (List V)} (h : Tups K H ts xss) : ts.length = xss.length := Paired.length h
theorem Tups.keep : ∀ {ts : List Addr} {xss : List (List V)}, Tups K H ts xss → (∀ t xs, SqT K H t xs → SqT K H1 t xs) → Tups K H1 ts xss
  | _, _, .nil, _ => .nil
  | _, _, .cons h r, k => .cons (k _ _ h) (Tups.keep r k)
theorem Tups.ex {ts : List Addr} {xss : List (List V)} (h : Tups K H ts xss) (e : Ex H H1) : Tups K H1 ts xss := h.keep fun _ _ q => ex_t e q
theorem Tups.snoc {t : Addr} {xs : List V} (ht : SqT K H t xs) : ∀ {ts : List Addr} {xss : List (List V)}, Tups K H ts xss → Tups K H (ts ++ [t]) (xss ++ [xs])
  | _, _, .nil => .cons ht .nil
  | _, _, .cons h r => .cons h (Tups.snoc ht r)
theorem Tups.get : ∀ {ts : List Addr} {xss : List (List V)}, Tups K H ts xss → ∀ (i : Nat) (xs : List V), xss[i]? = some xs → ∃ t, ts[i]? = some t ∧ SqT K H t xs
  | _, _, .nil => fun i q h => nomatch h
  | _, _, .cons h r => fun i q hq => by
    cases i with
    | zero => cases hq; exact ⟨_, rfl, h⟩
    | succ i => exact Tups.get r i q hq
theorem Tups.append {us : List Addr} {yss : List (List V)} (h2 : Tups K H us yss) : ∀ {ts : List Addr} {xss : List (List V)}, Tups K H ts xss → Tups K H (ts ++ us) (xss ++ yss)
  | _, _, .nil => h2
  | _, _, .cons h r => .cons h (Tups.append h2 r)
theorem Prs.keepT {H H' : Hp} : ∀ {ts : List Addr} {kvs : List (Key × V)}, Prs H ts kvs → (∀ t ys, H t = some (.tup ys) → H' t = some (.tup ys)) → Prs H' ts kvs
  | _, _, .nil, _ => .nil
  | _, _, .cons h t, k => .cons (k _ _ h) (Prs.keepT t k)
/-- a list changes, tuples stand -/
theorem sqT_lst {l t : Addr} {xs ys : List V} {o : HO} (hl : H l = some (.lst ys)) (h : SqT K H t xs) : SqT K (upd H l o) t xs := by
  rcases h with (h | ⟨o', h⟩) | h
  · have : t ≠ l := fun z => by rw [z, hl] at h; cases h
    exact .inl (.inl (by rw [upd_ne this]; exact h))
  · have : t ≠ l := fun z => by rw [z, hl] at h; cases h
    exact .inl (.inr ⟨o', by rw [upd_ne this]; exact h⟩)
  · exact .inr h
end
section
variable {K : Frag} {σ : L2.St} {H : Hp} {te tl : TE} {tt : TT} {wi : TI} {vs : List Nat} {D : Ends}
/-- a new list of tuples -/
def EvSS (K : Frag) (te : TE) (σ : L2.St) (H : Hp) (xss : List (List V)) : Prop := ∀ H1, Ex H H1 → ∀ Q : VK, (∀ p ts H2, H1 p = none → Ex H1 H2 → H2 p = some (.lst (ts.map V.ref)) → Tups K H2 ts xss → Q (.ref p) H2) → te σ H1 Q
theorem lc_ss {J : It} {n : Nat} {G : Hp → Prop} {Y : Nat → Hp → V → Hp → Prop} (w : Walk J n G Y) {g : TG} {H1 : Hp} {Q : VK} (F : Nat → List V) (hn : n ≤ 100000) (hG : ∀ H, Ex H1 H → G H)
    (hs : ∀ i x H2 H3, i < n → Ex H1 H2 → Y i H2 x H3 → ∃ σ2, wipe σ2 vs = wipe σ vs ∧ Ex H2 H3 ∧ (∀ Q : L2.St → Hp → Prop, Q σ2 H3 → g x (wipe σ vs) H3 Q) ∧ EvS K te σ2 H1 (F i))
    (k : ∀ D ts H', H1 D = none → Ex H1 H' → H' D = some (.lst (ts.map V.ref)) → Tups K H' ts ((List.range n).map F) → Q (.ref D) H') :
    ∀ D, H1 D = none → ∃ W : Nat → Nat → Hp → Prop, (∃ m, W 0 m (upd H1 D (.lst []))) ∧ ∀ i m H, W i m H →
      (J.stop i H ∧ Q (.ref D) H) ∨ (J.go i H ∧ ∃ Nx : Hp → Prop, (∀ H', Nx H' → ∃ m', m' < m ∧ W (i + 1) m' H') ∧ ∀ x H', J.yld i H x H' → g x (wipe σ vs) H' fun σ2 H2 => wipe σ2 vs = wipe σ vs ∧ tYes σ2 H2 fun b H3 =>
        if b = true then te σ2 H3 fun y H4 => ∃ acc, H4 D = some (.lst acc) ∧ acc.length < sizeLine ∧ Nx (upd H4 D (.lst (acc ++ [y]))) else Nx H3) := fun Dl nD => by
  refine lc_it w (fun i H' => Ex H1 H' ∧ ∃ ts, H' Dl = some (.lst (ts.map V.ref)) ∧ Tups K H' ts ((List.range i).map F)) ⟨Ex.new nD, [], upd_same, .nil⟩ (fun i H' _ h => hG H' h.1) (fun i x H2 H3 hi h y => ?_) fun H' h => ?_
  · obtain ⟨e2, ts, hx, hts⟩ := h
    obtain ⟨σ2, hw, e3, hg, he⟩ := hs i x H2 H3 hi e2 y
    refine hg _ ⟨hw, ?_⟩
    unfold tYes
    dsimp only
    refine iteT ?_
    have hx3 := e3 _ _ hx
    have hts3 := hts.ex e3
    have hlen := hts.len
    rw [List.length_map, List.length_range] at hlen
    refine he H3 (e2.trans e3) _ fun t H5 e5 ht5 => ?_
    refine ⟨_, e5 _ _ hx3, (by rw [List.length_map, sizeLine_eq]; omega), Ex.mut ((e2.trans e3).trans e5) nD, ts ++ [t], (by rw [List.map_append]; exact upd_same), ?_⟩
    rw [List.range_succ, List.map_append]
    exact Tups.snoc (sqT_lst (e5 _ _ hx3) ht5) ((hts3.ex e5).keep fun _ _ q => sqT_lst (e5 _ _ hx3) q)
  · obtain ⟨e2, ts, hx, hts⟩ := h
    exact k Dl ts H' nD e2 hx hts
/-- [f(a, b) for a, b in pairs], each a tuple -/
theorem ess_prs {j l : Nat} {ts : List Addr} {kvs : List (Key × V)} (hi : EvI wi σ H (ts.map V.ref)) (hP : Prs H ts kvs) (F : Key × V → List V) (hn : kvs.length ≤ 100000) (hw : ∀ x y, wipe (((wipe σ vs).set j (some x)).set l (some y)) vs = wipe σ vs)
    (he : ∀ q ∈ kvs, ∀ H1, Ex H H1 → EvS K te (((wipe σ vs).set j (some (kV q.1))).set l (some q.2)) H1 (F q)) :
    EvSS K (tLc wi (gTup K 2 (gCons (gName j) (gCons (gName l) gNil))) tYes te vs) σ H (kvs.map F) := fun H1 e1 Q k => by
  have hl := Prs.len hP
  refine hi H1 e1 _ fun H2 J G e2 w hG => ?_
  have e12 := e1.trans e2
  refine lc_ss (K := K) w (fun i => F (kvs.getD i (.inl 0, .non))) (by rw [List.length_map, hl]; exact hn) hG (fun i x H3 H4 hlt e3 y => ?_) (fun D ts' H' nD e' hx hts => ?_)
  · rw [List.length_map, hl] at hlt
    obtain ⟨rfl, hx⟩ := y
    obtain ⟨t, h1, h2⟩ := prs_nm hP hlt
    rw [h1] at hx
    cases hx
    have hd : kvs.getD i (.inl 0, .non) = kvs[i] := by rw [List.getD, List.getElem?_eq_getElem hlt]; rfl
    rw [hd]
    exact ⟨_, hw _ _, Ex.refl _, fun Q q => ⟨t, _, rfl, st_of (e3 _ _ (e12 _ _ h2)), rfl, _, _, rfl, _, _, rfl, rfl, q⟩, he _ (List.getElem_mem hlt) H2 e12⟩
  · refine k D ts' H' (fresh_back e2 nD) (e2.trans e') hx ?_
    have hr := given_pick kvs (.inl 0, .non) (fun _ => true) F
    rw [show ((List.range kvs.length).filter fun _ => true) = List.range kvs.length from List.filter_eq_self.mpr (fun _ _ => rfl), show (kvs.filter fun _ => true) = kvs from List.filter_eq_self.mpr (fun _ _ => rfl)] at hr
    rw [List.length_map, hl, hr] at hts
    exact hts
theorem take_flat {xss : List (List V)} {i : Nat} {xs : List V} (h : xss[i]? = some xs) : (xss.take (i + 1)).flatten = (xss.take i).flatten ++ xs := by
  rw [List.take_succ, h, List.flatten_append]
  simp
theorem take_snoc {xs : List V} {j : Nat} {y : V} (h : xs[j]? = some y) : xs.take (j + 1) = xs.take j ++ [y] := by
  rw [List.take_succ, h]
  rfl
theorem sum_take (xss : List (List V)) (i : Nat) : (xss.take i).flatten.length ≤ xss.flatten.length := by
  have h := congrArg (fun l : List (List V) => l.flatten.length) (List.take_append_drop i xss)
  simp only [List.flatten_append, List.length_append] at h
  omega
/-- [y for x in tuples for y in x] -/
theorem el_flat {i1 i2 : Nat} {vs1 : List Nat} {ts : List Addr} {xss : List (List V)} (hi : EvI wi σ H (ts.map V.ref)) (hT : Tups K H ts xss) (hn : ts.length ≤ 100000) (hf : xss.flatten.length ≤ 100000)
    (hw : ∀ x, wipe ((wipe σ vs).set i1 (some x)) vs = wipe σ vs) (h1 : ∀ x, ((wipe σ vs).set i1 (some x))[i1]? = some (some x))
    (hw1 : ∀ x y, wipe ((wipe ((wipe σ vs).set i1 (some x)) vs1).set i2 (some y)) vs1 = wipe ((wipe σ vs).set i1 (some x)) vs1) (h2 : ∀ x y, ((wipe ((wipe σ vs).set i1 (some x)) vs1).set i2 (some y))[i2]? = some (some y)) :
    EvL (tLc2 wi (gName i1) tYes (iTup K (tVar i1)) (gName i2) tYes (tVar i2) vs vs1) σ H xss.flatten := fun H0 e0 Q q => by
  refine hi H0 e0 _ fun H1 J G e1 w hG => ?_
  have hT1 := hT.ex (e0.trans e1)
  have hl := hT.len
  intro Dl nD
  refine ⟨fun i m H' => m = (ts.map V.ref).length - i ∧ i ≤ (ts.map V.ref).length ∧ Ex H1 H' ∧ H' Dl = some (.lst (xss.take i).flatten), ⟨_, rfl, Nat.zero_le _, Ex.new nD, upd_same⟩, ?_⟩
  rintro i m H' ⟨rfl, hle, e', hd⟩
  by_cases hlt : i < (ts.map V.ref).length
  · refine .inr ⟨w.goes i H' hlt (hG H' e'), fun H2 => Ex H1 H2 ∧ H2 Dl = some (.lst (xss.take (i + 1)).flatten), fun H2 ⟨a, b⟩ => ⟨_, by omega, rfl, hlt, a, b⟩, fun x H2 y => ?_⟩
    obtain ⟨rfl, hx⟩ := w.yields i H' x H2 hlt (hG H' e') y
    rw [List.length_map] at hlt
    obtain ⟨xi, hxi⟩ : ∃ xi, xss[i]? = some xi := ⟨_, List.getElem?_eq_getElem (by omega)⟩
    obtain ⟨t, ht, hs⟩ := hT1.get i xi hxi
    rw [List.getElem?_map, ht] at hx
    cases hx
    refine ⟨hw _, ?_⟩
    unfold tYes
    dsimp only
    refine iteT ⟨_, h1 _, t, rfl, ⟨_, ex_t e' hs⟩, ?_⟩
    refine ⟨fun j k H3 => k = xi.length - j ∧ j ≤ xi.length ∧ Ex H1 H3 ∧ H3 Dl = some (.lst ((xss.take i).flatten ++ xi.take j)), ⟨_, rfl, Nat.zero_le _, e', by rw [List.take_zero, List.append_nil]; exact hd⟩, ?_⟩
    rintro j k H3 ⟨rfl, hj, e3, hd3⟩
    by_cases hjl : j < xi.length
    · refine .inr ⟨⟨_, xi[j], ex_t e3 hs, List.getElem?_eq_getElem hjl⟩, fun H4 => Ex H1 H4 ∧ H4 Dl = some (.lst ((xss.take i).flatten ++ xi.take (j + 1))), fun H4 ⟨a, b⟩ => ⟨_, by omega, rfl, hjl, a, b⟩, fun y H4 hy => ?_⟩
      obtain ⟨rfl, hy⟩ := hy
      have hy := hy _ (ex_t e3 hs)
      refine ⟨hw1 _ _, ?_⟩
      dsimp only
      refine iteT ⟨_, h2 _ _, _, hd3, ?_, Ex.mut e3 nD, ?_⟩
      · have a1 := sum_take xss (i + 1)
        rw [take_flat hxi, List.length_append] at a1
        rw [List.length_append, List.length_take, sizeLine_eq]
        omega
      · rw [take_snoc hy, ← List.append_assoc]
        exact upd_same
    · obtain rfl : j = xi.length := by omega
      refine .inl ⟨⟨_, ex_t e3 hs, Nat.le_refl _⟩, e3, ?_⟩
      rw [take_flat hxi]
      rw [List.take_length] at hd3
      exact hd3
  · obtain rfl : i = (ts.map V.ref).length := by omega
    refine .inl ⟨w.stops H' (hG H' e'), q Dl H' (fresh_back e1 nD) (e1.trans e') ?_⟩
    rw [List.length_map, hl, List.take_length] at hd
    exact hd
theorem el_flat2 {i1 i2 : Nat} {vs1 : List Nat} {us : List V} {ts : List Addr} {xss : List (List V)} (hi : EvI wi σ H us) (hu : us = ts.map V.ref) (hT : Tups K H ts xss) (hn : ts.length ≤ 100000) (hf : xss.flatten.length ≤ 100000)
    (hw : ∀ x, wipe ((wipe σ vs).set i1 (some x)) vs = wipe σ vs) (h1 : ∀ x, ((wipe σ vs).set i1 (some x))[i1]? = some (some x))
    (hw1 : ∀ x y, wipe ((wipe ((wipe σ vs).set i1 (some x)) vs1).set i2 (some y)) vs1 = wipe ((wipe σ vs).set i1 (some x)) vs1) (h2 : ∀ x y, ((wipe ((wipe σ vs).set i1 (some x)) vs1).set i2 (some y))[i2]? = some (some y)) :
    EvL (tLc2 wi (gName i1) tYes (iTup K (tVar i1)) (gName i2) tYes (tVar i2) vs vs1) σ H xss.flatten := by
  subst hu
  exact el_flat hi hT hn hf hw h1 hw1 h2
/-- xs + ys of tracked lists -/
theorem el_catS {i j p r : Nat} {xs ys : List V} (h1 : σ[i]? = some (some (.ref p))) (h2 : σ[j]? = some (some (.ref r))) (hp : H p = some (.lst xs)) (hr : H r = some (.lst ys)) (hl : xs.length + ys.length ≤ 100000) : EvL (tOp (BJ.rCatS K) (tVar i) (tVar j)) σ H (xs ++ ys) := fun H1 e Q q =>
  ⟨_, h1, _, h2, p, r, xs, ys, rfl, rfl, .inl (.inl (e _ _ hp)), .inl (.inl (e _ _ hr)), (by rw [sizeLine_eq]; omega), fun l nl => q l _ nl (Ex.new nl) upd_same⟩
theorem s_extS {ta : TE} {l : Addr} {xs zs : List V} (hl : H l = some (.lst xs)) (ha : Ev ta σ H (.ref l)) (h : EvS K te σ H zs) (hz : xs.length + zs.length ≤ 100000) (k : ∀ H1, Ex H H1 → D.nx σ (upd H1 l (.lst (xs ++ zs)))) :
    tDrop (tBM K "list" (rExtendS K) ta (tCons te tNil)) D σ H := ha H (Ex.refl H) _ fun H1 e1 =>
  ⟨Or.inl ⟨rfl, xs, sq_of (e1 l _ hl)⟩, h H1 e1 _ fun p H2 e2 hp => ⟨l, p, xs, zs, rfl, rfl, e2 l _ (e1 l _ hl), hp, (by rw [sizeLine_eq]; omega), k H2 (e1.trans e2)⟩⟩
theorem q_extS {ta : TE} {tz : TS} {l : Addr} {xs zs : List V} (hl : H l = some (.lst xs)) (ha : Ev ta σ H (.ref l)) (h : EvS K te σ H zs) (hz : xs.length + zs.length ≤ 100000) (k : ∀ H1, Ex H H1 → tz D σ (upd H1 l (.lst (xs ++ zs)))) :
    tSeq (tDrop (tBM K "list" (rExtendS K) ta (tCons te tNil))) tz D σ H := s_extS (D := { D with nx := tz D }) hl ha h hz k
theorem q_asgSS {tz : TS} {i : Nat} {xss : List (List V)} (h : EvSS K te σ H xss) (k : ∀ p ts H1, H p = none → Ex H H1 → H1 p = some (.lst (ts.map V.ref)) → Tups K H1 ts xss → tz D (σ.set i (some (.ref p))) H1) : tSeq (tAsg te (gName i)) tz D σ H := h H (Ex.refl _) _ fun p ts H1 np e hp hT => k p ts H1 np e hp hT
theorem q_asgR {tz : TS} {i : Nat} {kvs : List (Key × V)} (h : EvR K te σ H kvs) (k : ∀ p ts H1, Ex H H1 → SqL K H1 p (ts.map V.ref) → Prs H1 ts kvs → tz D (σ.set i (some (.ref p))) H1) : tSeq (tAsg te (gName i)) tz D σ H := h H (Ex.refl _) _ fun p ts H1 e hp hP => k p ts H1 e hp hP
/-- a if c else b, then the name is set, something behind -/
theorem q_asgIf {t : TT} {ta tb : TE} {g : TG} {tz : TS} {b : Bool} (h : EvT t σ H b) (h1 : b = true → ∀ H1, Ex H H1 → tSeq (tAsg ta g) tz D σ H1) (h2 : b = false → ∀ H1, Ex H H1 → tSeq (tAsg tb g) tz D σ H1) : tSeq (tAsg (tIf t ta tb) g) tz D σ H :=
  asg_if (D := { D with nx := tz D }) h h1 h2
theorem el_nil : EvL (tLst tNil) σ H [] := fun H1 e Q q => ⟨Nat.zero_le _, fun l nl => q l _ nl (Ex.new nl) upd_same⟩
/-- [e] of a tuple -/
theorem ess_one {xs : List V} (h : EvS K te σ H xs) : EvSS K (tLst (tCons te tNil)) σ H [xs] := fun H1 e Q q => h H1 e _ fun p H2 e2 hp => ⟨by show 1 ≤ sizeLine; decide, fun l nl => q l [p] _ (fresh_back e2 nl) (e2.trans (Ex.new nl)) upd_same (.cons (ex_t (Ex.new nl) hp) .nil)⟩
end
end BJ

/-! {k: v for a, b in pairs if no} -/
namespace BJ
open PySem PySem.Spec PyProof.Rows L2 Evl
open PySem.W (Frag)
section
variable {K : Frag} {σ : L2.St} {H : Hp} {te tk tv : TE} {tt : TT} {tz : TS} {wi : TI} {vs : List Nat} {D : Ends}
theorem q_dcNone {i j l : Nat} {ts : List Addr} {kvs : List (Key × V)} (hi : EvI wi σ H (ts.map V.ref)) (hP : Prs H ts kvs) (hw : ∀ x y, wipe (((wipe σ vs).set j (some x)).set l (some y)) vs = wipe σ vs)
    (ht : ∀ q ∈ kvs, ∀ H1, Ex H H1 → EvT tt (((wipe σ vs).set j (some (kV q.1))).set l (some q.2)) H1 false) (k : ∀ p H1, H p = none → Ex H H1 → H1 p = some (.dK []) → tz D (σ.set i (some (.ref p))) H1) :
    tSeq (tAsg (tDc wi (gTup K 2 (gCons (gName j) (gCons (gName l) gNil))) tt tk tv vs) (gName i)) tz D σ H := by
  refine hi H (Ex.refl _) _ fun H1 J G e1 w hG => ?_
  have hl := Prs.len hP
  intro Dl nD
  refine ⟨fun i m H' => m = (ts.map V.ref).length - i ∧ i ≤ (ts.map V.ref).length ∧ Ex H1 H' ∧ H' Dl = some (.dK []), ⟨_, rfl, Nat.zero_le _, Ex.new nD, upd_same⟩, ?_⟩
  rintro i m H' ⟨rfl, hle, e', hd⟩
  by_cases hlt : i < (ts.map V.ref).length
  · refine .inr ⟨w.goes i H' hlt (hG H' e'), fun H2 => Ex H1 H2 ∧ H2 Dl = some (.dK []), fun H2 ⟨a, b⟩ => ⟨_, by omega, rfl, hlt, a, b⟩, fun x H2 y => ?_⟩
    obtain ⟨rfl, hx⟩ := w.yields i H' x H2 hlt (hG H' e') y
    rw [List.length_map] at hlt
    obtain ⟨q, hq⟩ : ∃ q, kvs[i]? = some q := ⟨_, List.getElem?_eq_getElem (by omega)⟩
    obtain ⟨t, h1, h2⟩ := Prs.get hP i q hq
    rw [List.getElem?_map, h1] at hx
    cases hx
    refine ⟨t, _, rfl, st_of (e' _ _ (e1 _ _ h2)), rfl, _, _, rfl, _, _, rfl, rfl, hw _ _, ?_⟩
    refine ht q (List.mem_of_getElem? hq) H1 e1 H2 e' _ fun H3 e3 => ?_
    refine iteF ⟨e'.trans e3, e3 _ _ hd⟩
  · obtain rfl : i = (ts.map V.ref).length := by omega
    exact .inl ⟨w.stops H' (hG H' e'), k Dl H' (fresh_back e1 nD) (e1.trans e') hd⟩
end
end BJ

/-! enumerate(tuple) -/
namespace BJ
open PySem
open Sem (wp)
open AutoSeq1 (wpAny_loadPart')
theorem meets_enumT (l : Addr) (items : Array Value) (n : Nat) (dct : Option Addr) (sl : Array (Option Value)) :
    Meets (Builtin.«enumerate.__new__» ⟨[.type "enumerate", .ref l], []⟩) (fun _ R s => s.heap.get? l = some { cls := .type "tuple", dict := dct, data := .seq items n, slots := sl } ∧
      R (.ok (.ret (.ref (s.heap.push { cls := .type "tuple_iterator", data := .fields #[.ref l, .int 0 0] }).objs.size)))
        { s with heap := (s.heap.push { cls := .type "tuple_iterator", data := .fields #[.ref l, .int 0 0] }).push { cls := .type "enumerate", data := .fields #[.none, .bool false, .ref s.heap.objs.size, rawInt 0, .none, .none] } }) :=
  .of_wp fun prog w A R s h => by
    obtain ⟨hp, g, d, tk, os⟩ := s
    obtain ⟨hl, h⟩ := h
    have hb := sub_enumerate
    have hT : Heap.IsTuple (Shared.heap ⟨hp, g, d, tk, os⟩) l items := ⟨_, hl, rfl, n, rfl⟩
    wp_walk using wpAny_loadPart' hl
    refine wpAny_stack_any fun st => wpAny_pure ?_
    split
    · rename_i c _ _ _ _ _
      cases (c == Value.type "enumerate")
      · wp_walk using wpAny_loadPart' hl, wpAny_pyIter_tuple hT
        exact ⟨_, rfl, h⟩
      · wp_walk using wpAny_loadPart' hl, wpAny_pyIter_tuple hT
        exact ⟨_, rfl, h⟩
    · wp_walk using wpAny_loadPart' hl, wpAny_pyIter_tuple hT
      exact ⟨_, rfl, h⟩
section
variable {prog : Program} {w : World} {A : Around} {E : Value → Shared → Prop} {s : Shared}
theorem call_enumT {l : Addr} {items : Array Value} {Q : Value → Shared → Prop} (hL : s.heap.IsTuple l items)
    (h : ∀ h', IsEnum h' (s.heap.objs.size + 1) s.heap.objs.size 0 .none → h'.IsTupleIter s.heap.objs.size l 0 → h'.objs.size = s.heap.objs.size + 2 →
      (∀ b o, s.heap.get? b = some o → h'.get? b = some o) → Q (.ref (s.heap.objs.size + 1)) { s with heap := h' }) :
    wpAny (model prog w) A (call (.type "enumerate") [.ref l]) Q E s := by
  obtain ⟨⟨c, dct, dt, sl⟩, hl, hc, n, hd⟩ := hL
  cases (show c = _ from hc)
  cases (show dt = _ from hd)
  refine callType_new F.called_enumerate (by decide) (F.typeCall_enumerate_1 _) (F.newCall_enumerate_1 _) (fun obj => F.args_object_init_2 obj _) F.entry_enumerate_new
    (meets_enumT l items n dct sl) ⟨hl, ?_⟩
  have z : (s.heap.push { cls := .type "tuple_iterator", data := .fields #[.ref l, .int 0 0] }).objs.size = s.heap.objs.size + 1 := Heap.size_push ..
  show _ ∧ _
  rw [z]
  have he : IsEnum ((s.heap.push { cls := .type "tuple_iterator", data := .fields #[.ref l, .int 0 0] }).push
      { cls := .type "enumerate", data := .fields #[.none, .bool false, .ref s.heap.objs.size, rawInt 0, .none, .none] }) (s.heap.objs.size + 1) s.heap.objs.size 0 .none := by
    have q := Heap.get?_push_size (s.heap.push { cls := .type "tuple_iterator", data := .fields #[.ref l, .int 0 0] })
      (o := { cls := .type "enumerate", data := .fields #[.none, .bool false, .ref s.heap.objs.size, rawInt 0, .none, .none] }) rfl
    rw [z] at q
    exact q
  exact ⟨⟨_, he, rfl⟩, h _ he ⟨_, Heap.get?_push_of_some _ (Heap.get?_push_size _ rfl), rfl, rfl⟩ (by rw [Heap.size_push, z]) fun b o y => Heap.get?_push_of_some _ (Heap.get?_push_of_some _ y)⟩
end
theorem drawsT {prog : Program} {w : World} {A : Around} (hh : A.handled = none) (it l : Addr) (hne : l ≠ it) (items : Array Value) :
    Draws prog w A it [it, l] items.size (fun i v => items[i]? = some v) (fun i h => h.IsTupleIter it l i ∧ h.IsTuple l items) where
  live := fun _ _ st => let ⟨o, ho, _⟩ := st.1; ⟨o, ho⟩
  frame := fun _ _ _ st hk => ⟨let ⟨o, ho, r⟩ := st.1; ⟨o, hk it (by simp) o ho, r⟩, let ⟨o, ho, r⟩ := st.2; ⟨o, hk l (by simp) o ho, r⟩⟩
  item := fun i s Q E hi st hQ => by
    refine RZ.nextOf_tuple_item st.1 st.2 (x := items[i]) (by simp [hi]) fun h' hit' hs' => ?_
    exact hQ _ h' s.toks (by simp [hi]) ⟨hit', st.2.extBut hs'.extBut hne⟩ hs'
  done := fun s Q E st hE => RZ.nextOf_tuple_end hh st.1 st.2 (by simp) hE
end BJ
namespace BJ
open PySem PySem.Spec PyProof.Rows L2 Evl
open PySem.W (Frag)
def IteT (K : Frag) (a : Addr) : It :=
  ⟨fun i H => ∃ (xs : List V) (x : V), SqT K H a xs ∧ xs[i]? = some x, fun i H v H' => ∃ T x, v = .ref T ∧ H T = none ∧ H' = upd H T (.tup [.int (i : Nat), x]) ∧ ∀ xs, SqT K H a xs → xs[i]? = some x, fun i H => ∃ xs : List V, SqT K H a xs ∧ xs.length = i⟩
theorem turn_enumT {P : Program} {w : World} {K : Frag} {elts : List Expr} {kk : Nat} {tpos : Pos} (a e it : Addr) :
    Turn P w K (.Tuple elts kk tpos) (IteT K a) [e, it] e (fun i h => (∃ old, IsEnum h e it ((i : Nat) : Int) old) ∧ h.IsTupleIter it a i ∧ e ≠ it) where
  mem := by simp
  obj := by
    rintro i h ⟨⟨old, he⟩, ⟨o, ho, hc, hd⟩, _⟩ b hb
    have e' : b = e ∨ b = it := by simpa using hb
    rcases e' with rfl | rfl
    · exact ⟨_, he, fun v q => nomatch q⟩
    · exact ⟨o, ho, fun v q => by rw [hd] at q; cases q⟩
  keep := by
    rintro i h h' ⟨⟨old, he⟩, ⟨o, ho, r⟩, hne⟩ k
    exact ⟨⟨old, k e (by simp) _ he⟩, ⟨o, k it (by simp) o ho, r⟩, hne⟩
  item := by
    rintro X rfl rfl rfl hc i pins s σ H E I hf ⟨⟨old, he⟩, hit, hne⟩ hg
    obtain ⟨xs, x, hq, hx⟩ := hg
    obtain ⟨its, rv, p, hz⟩ := I.tuple hq
    have p : s.heap.IsTuple a its.toArray := p
    obtain ⟨u, hu, ru⟩ := rv.get hx
    have hel : e < s.heap.objs.size := Heap.lt_size he
    have hil : it < s.heap.objs.size := by
      obtain ⟨_, q, _⟩ := hit
      exact Heap.lt_size q
    have ai : a ≠ it := fun z => by
      obtain ⟨o1, h1, c1, _⟩ := p
      obtain ⟨o2, h2, c2, _⟩ := hit
      rw [z, h2] at h1
      cases h1
      rw [c1] at c2
      exact absurd c2 (by decide)
    have ae : e ≠ a := fun z => by
      obtain ⟨o1, h1, c1, _⟩ := p
      have h2 : s.heap.get? e = _ := he
      rw [z, h1] at h2
      cases h2
      exact absurd (show Value.type "enumerate" = Value.type "tuple" from c1) (by decide)
    have D := drawsT (prog := X.prog) (w := X.w) (A := X.A.in1) (I.ok.hd hc) it a ai its.toArray
    refine wpAny_pyNext_enum_itemD (i := i) D he ⟨hit, p⟩ (by have := (List.getElem?_eq_some_iff.mp hu).1; simpa using this) hne (by simp [hne, ae]) fun v h' tk hv ho hit' hT hsz hk => ?_
    have hvu : v = u := by
      have : its[i]? = some v := by simpa using hv
      rw [hu] at this
      exact (Option.some.inj this).symm
    subst hvu
    refine ⟨_, rfl, wpAny_letOwnedTupleGo_enum (s := { s with heap := h', toks := tk + 1 }) ho fun h'' he' sb => ?_⟩
    have hT2 : h''.get? s.heap.objs.size = some { cls := .type "tuple", data := .seq #[.int i tk, v] } := (sb.2 _ (Nat.ne_of_gt hel)).trans hT
    have new : ObjOk X.prog X.w (upd H s.heap.objs.size (.tup [.int (i : Nat), x])) h'' s.heap.objs.size (.tup [.int (i : Nat), x]) :=
      ⟨by show 2 ≤ sizeLine; decide, [.int i tk, v], .cons ⟨_, rfl⟩ (.cons ru .nil), ⟨_, hT2, rfl, _, rfl⟩⟩
    have I1 : Inv X pins σ (upd H s.heap.objs.size (.tup [.int (i : Nat), x])) { s with heap := h'', toks := tk + 1 } :=
      I.turnedNew (ch := [e, it]) (fun b ob hb q => (sb.2 b (fun z => hb (by simp [z]))).trans (hk b ob (fun z => hb (by simp [z])) (fun z => hb (by simp [z])) q)) hf (Nat.le_refl _) new
    refine ⟨.ref s.heap.objs.size, _, I1, rfl, ⟨_, x, rfl, I.hok.fresh (Nat.le_refl _), rfl, fun ys hy => by rw [I.tuple_inj hy hq]; exact hx⟩, ⟨⟨v, ?_⟩, ?_, hne⟩, fun b hb => ?_⟩
    · have e1 : ((i + 1 : Nat) : Int) = (i : Int) + 1 := by omega
      rw [e1]
      exact he'
    · obtain ⟨o, ho', r⟩ := hit'.1
      exact ⟨o, (sb.2 it (Ne.symm hne)).trans ho', r⟩
    · have e' : b = e ∨ b = it := by simpa using hb
      have hb' : b < s.heap.objs.size := by
        rcases e' with rfl | rfl
        · exact hel
        · exact hil
      rw [upd_ne (Nat.ne_of_lt hb')]
      exact (hf b hb).1
  done := by
    rintro X rfl rfl rfl hc i pins s σ H E I hf ⟨⟨old, he⟩, hit, hne⟩ hg
    obtain ⟨f0, f1, f2, f3, f4, f5⟩ := hf it (by simp)
    obtain ⟨xs, hq, hx⟩ := hg
    obtain ⟨its, rv, p, hz⟩ := I.tuple hq
    have p : s.heap.IsTuple a its.toArray := p
    have hl := rv.length
    have ai : a ≠ it := fun z => by
      obtain ⟨o1, h1, c1, _⟩ := p
      obtain ⟨o2, h2, c2, _⟩ := hit
      rw [z, h2] at h1
      cases h1
      rw [c1] at c2
      exact absurd c2 (by decide)
    have D := drawsT (prog := X.prog) (w := X.w) (A := X.A.in1) (I.ok.hd hc) it a ai its.toArray
    have hi : i = its.toArray.size := by rw [List.size_toArray]; omega
    exact wpAny_pyNext_enum_endD D he (by rw [← hi]; exact ⟨hit, p⟩) fun h' eb => ⟨rfl, I.turned (t' := s.toks) (fun b o hb q => eb b o hb q) f0 f1 f3 f4 f5⟩
  self := fun A i s Q E st h => by
    obtain ⟨⟨_, he⟩, _⟩ := st
    exact wpAny_pyIter_enum he h
def iEnumT (K : Frag) (ta : TA) : TI := fun σ H R => ta σ H fun vs H1 => ∃ a xs, vs = [.ref a] ∧ SqT K H1 a xs ∧ R (IteT K a) H1
theorem pi_enumT {X : Cx} {e : Expr} {ta : TA} {p pos tpos : Pos} {elts : List Expr} {kk : Nat} (hg : Gl X "enumerate") (hm : X.mg "enumerate" = none) (ha : PA X [e] ta) (hs : starEach [e] X.env = [(false, eval e X.env)] := by rfl) :
    PI X (.Tuple elts kk tpos) (.Call (.Name "enumerate" p) [e] [] pos) (iEnumT X.K ta) where
  run := by
    intro pins s σ H R I h
    refine Call_ (ld_blt I hg hm boot_enumerate (PyProof.Rows.callWith_type1 (thn (ha.run pos pins s σ H _ I h) ?_) hs rfl))
    rintro us s1 ⟨vs, H1, I1, r1, a, xs, rfl, hq, q⟩
    obtain ⟨u, rfl, r⟩ := vals1 r1
    cases r
    obtain ⟨its, rv, p', hz⟩ := I1.tuple hq
    refine call_enumT p' fun h' he hit hsz hk => wpAny_pyIter_enum he ?_
    have I2 : Inv X pins σ H1 { s1 with heap := h' } := I1.kept (t' := s1.toks) hk
    refine ⟨s1.heap.objs.size + 1, [s1.heap.objs.size + 1, s1.heap.objs.size], _, _, H1, rfl, I2, turn_enumT a (s1.heap.objs.size + 1) s1.heap.objs.size, ⟨⟨.none, he⟩, hit, Nat.succ_ne_self _⟩, fun b hb => ?_, q⟩
    have hle : s1.heap.objs.size ≤ b := by
      have e' : b = s1.heap.objs.size + 1 ∨ b = s1.heap.objs.size := by simpa using hb
      rcases e' with rfl | rfl
      · exact Nat.le_add_right _ _
      · exact Nat.le_refl _
    exact I1.fpOk hle (I1.hok.fresh hle)
theorem walk_enumT {K : Frag} {a : Addr} {xs : List V} : Walk (IteT K a) xs.length (fun H => SqT K H a xs) (fun i H v H' => ∃ T x, v = .ref T ∧ H T = none ∧ H' = upd H T (.tup [.int (i : Nat), x]) ∧ xs[i]? = some x) :=
  ⟨fun i _ hi q => ⟨xs, xs[i], q, by simp [hi]⟩, fun _ q => ⟨xs, q, rfl⟩, fun _ _ _ _ _ q ⟨T, x, h1, h2, h3, h4⟩ => ⟨T, x, h1, h2, h3, h4 xs q⟩⟩
end BJ

namespace BJL
open PySem PySem.Spec PyProof.Rows L2 BJ
def topS (i : Nat) : Stmt := PySem.Challenge.pw_brinejar_k55_batches_refuse.main.body.getD i (.Pass ⟨0, 0, 0, 0⟩)
abbrev s_is_edit : Stmt := topS 29
theorem sc_is_edit : FnScope ["thing"] ["thing"] (defScope s_is_edit) := ⟨rfl, rfl, rfl, by decide +kernel, rfl, by decide +kernel, by decide +kernel⟩
abbrev s_Batch___init__ : Stmt := inClass (topS 30) 0
theorem sc_Batch___init__ : FnScope ["self", "jar"] ["self", "jar"] (defScope s_Batch___init__) := ⟨rfl, rfl, rfl, by decide +kernel, rfl, by decide +kernel, by decide +kernel⟩
abbrev s_Batch___enter__ : Stmt := inClass (topS 30) 1
theorem sc_Batch___enter__ : FnScope ["self"] ["self"] (defScope s_Batch___enter__) := ⟨rfl, rfl, rfl, by decide +kernel, rfl, by decide +kernel, by decide +kernel⟩
abbrev s_Batch___exit__ : Stmt := inClass (topS 30) 2
theorem sc_Batch___exit__ : FnScope ["self", "kind", "value", "trace"] ["self", "kind", "value", "trace"] (defScope s_Batch___exit__) := ⟨rfl, rfl, rfl, by decide +kernel, rfl, by decide +kernel, by decide +kernel⟩
abbrev s_batched_all : Stmt := topS 32
theorem sc_batched_all : FnScope ["jar", "edits", "position", "edit"] ["jar", "edits"] (defScope s_batched_all) := ⟨rfl, rfl, rfl, by decide +kernel, rfl, by decide +kernel, by decide +kernel⟩
abbrev s_batched : Stmt := topS 33
theorem sc_batched : FnScope ["jar", "edits"] ["jar", "edits"] (defScope s_batched) := ⟨rfl, rfl, rfl, by decide +kernel, rfl, by decide +kernel, by decide +kernel⟩
abbrev s_is_integer : Stmt := topS 49
theorem sc_is_integer : FnScope ["thing"] ["thing"] (defScope s_is_integer) := ⟨rfl, rfl, rfl, by decide +kernel, rfl, by decide +kernel, by decide +kernel⟩
abbrev s_is_whole_atom : Stmt := topS 50
theorem sc_is_whole_atom : FnScope ["thing"] ["thing"] (defScope s_is_whole_atom) := ⟨rfl, rfl, rfl, by decide +kernel, rfl, by decide +kernel, by decide +kernel⟩
abbrev s_is_text : Stmt := topS 51
theorem sc_is_text : FnScope ["thing"] ["thing"] (defScope s_is_text) := ⟨rfl, rfl, rfl, by decide +kernel, rfl, by decide +kernel, by decide +kernel⟩
abbrev s_is_key : Stmt := topS 52
theorem sc_is_key : FnScope ["thing"] ["thing"] (defScope s_is_key) := ⟨rfl, rfl, rfl, by decide +kernel, rfl, by decide +kernel, by decide +kernel⟩
abbrev s_is_atom : Stmt := topS 53
theorem sc_is_atom : FnScope ["thing"] ["thing"] (defScope s_is_atom) := ⟨rfl, rfl, rfl, by decide +kernel, rfl, by decide +kernel, by decide +kernel⟩
abbrev s_holds_value : Stmt := topS 56
theorem sc_holds_value : FnScope ["thing"] ["thing"] (defScope s_holds_value) := ⟨rfl, rfl, rfl, by decide +kernel, rfl, by decide +kernel, by decide +kernel⟩
abbrev s_rules_of : Stmt := topS 70
theorem sc_rules_of : FnScope ["registry"] ["registry"] (defScope s_rules_of) := ⟨rfl, rfl, rfl, by decide +kernel, rfl, by decide +kernel, by decide +kernel⟩
abbrev s_atom_form : Stmt := topS 74
theorem sc_atom_form : FnScope ["atom"] ["atom"] (defScope s_atom_form) := ⟨rfl, rfl, rfl, by decide +kernel, rfl, by decide +kernel, by decide +kernel⟩
abbrev s_NodeView___init__ : Stmt := inClass (topS 75) 0
theorem sc_NodeView___init__ : FnScope ["self", "registry", "outside"] ["self", "registry", "outside"] (defScope s_NodeView___init__) := ⟨rfl, rfl, rfl, by decide +kernel, rfl, by decide +kernel, by decide +kernel⟩
abbrev s_NodeView_shape_of : Stmt := inClass (topS 75) 1
theorem sc_NodeView_shape_of : FnScope ["self", "value"] ["self", "value"] (defScope s_NodeView_shape_of) := ⟨rfl, rfl, rfl, by decide +kernel, rfl, by decide +kernel, by decide +kernel⟩
abbrev s_NodeView_label : Stmt := inClass (topS 75) 2
theorem sc_NodeView_label : FnScope ["self", "value", "hook", "answer"] ["self", "value"] (defScope s_NodeView_label) := ⟨rfl, rfl, rfl, by decide +kernel, rfl, by decide +kernel, by decide +kernel⟩
abbrev s_NodeView_plain : Stmt := inClass (topS 75) 3
theorem sc_NodeView_plain : FnScope ["self", "value", "form"] ["self", "value", "form"] (defScope s_NodeView_plain) := ⟨rfl, rfl, rfl, by decide +kernel, rfl, by decide +kernel, by decide +kernel⟩
abbrev s_Drafting___init__ : Stmt := inClass (topS 77) 0
theorem sc_Drafting___init__ : FnScope ["self", "view", "version", "numbers", "most"] ["self", "view", "version", "numbers", "most"] (defScope s_Drafting___init__) := ⟨rfl, rfl, rfl, by decide +kernel, rfl, by decide +kernel, by decide +kernel⟩
abbrev s_Drafting_add : Stmt := inClass (topS 77) 1
theorem sc_Drafting_add : FnScope ["self", "name", "argument"] ["self", "name", "argument"] (defScope s_Drafting_add) := ⟨rfl, rfl, rfl, by decide +kernel, rfl, by decide +kernel, by decide +kernel⟩
abbrev s_Drafting_put : Stmt := inClass (topS 77) 2
theorem sc_Drafting_put : FnScope ["self", "thing"] ["self", "thing"] (defScope s_Drafting_put) := ⟨rfl, rfl, rfl, by decide +kernel, rfl, by decide +kernel, by decide +kernel⟩
abbrev s_Drafting_enter_value : Stmt := inClass (topS 77) 3
theorem sc_Drafting_enter_value : FnScope ["self"] ["self"] (defScope s_Drafting_enter_value) := ⟨rfl, rfl, rfl, by decide +kernel, rfl, by decide +kernel, by decide +kernel⟩
abbrev s_Drafting_write : Stmt := inClass (topS 77) 4
theorem sc_Drafting_write : FnScope ["self", "value", "form", "label"] ["self", "value"] (defScope s_Drafting_write) := ⟨rfl, rfl, rfl, by decide +kernel, rfl, by decide +kernel, by decide +kernel⟩
abbrev s_Drafting_write_atom : Stmt := inClass (topS 77) 5
theorem sc_Drafting_write_atom : FnScope ["self", "atom", "form"] ["self", "atom", "form"] (defScope s_Drafting_write_atom) := ⟨rfl, rfl, rfl, by decide +kernel, rfl, by decide +kernel, by decide +kernel⟩
abbrev s_Drafting_write_text : Stmt := inClass (topS 77) 6
theorem sc_Drafting_write_text : FnScope ["self", "text"] ["self", "text"] (defScope s_Drafting_write_text) := ⟨rfl, rfl, rfl, by decide +kernel, rfl, by decide +kernel, by decide +kernel⟩
abbrev s_integer_name : Stmt := topS 78
theorem sc_integer_name : FnScope ["integer", "version"] ["integer", "version"] (defScope s_integer_name) := ⟨rfl, rfl, rfl, by decide +kernel, rfl, by decide +kernel, by decide +kernel⟩
abbrev s_text_name : Stmt := topS 79
theorem sc_text_name : FnScope ["text", "version"] ["text", "version"] (defScope s_text_name) := ⟨rfl, rfl, rfl, by decide +kernel, rfl, by decide +kernel, by decide +kernel⟩
abbrev s_full_rows : Stmt := topS 82
theorem sc_full_rows : FnScope ["value", "view", "version", "numbers", "most", "drafting"] ["value", "view", "version", "numbers", "most"] (defScope s_full_rows) := ⟨rfl, rfl, rfl, by decide +kernel, rfl, by decide +kernel, by decide +kernel⟩
abbrev s_least_rows : Stmt := topS 83
theorem sc_least_rows : FnScope ["rows", "got", "name", "argument", "order", "found"] ["rows"] (defScope s_least_rows) := ⟨rfl, rfl, rfl, by decide +kernel, rfl, by decide +kernel, by decide +kernel⟩
abbrev s_named_rows : Stmt := topS 84
theorem sc_named_rows : FnScope ["rows", "version", "found", "name", "argument"] ["rows", "version"] (defScope s_named_rows) := ⟨rfl, rfl, rfl, by decide +kernel, rfl, by decide +kernel, by decide +kernel⟩
abbrev s_text_octets : Stmt := topS 95
theorem sc_text_octets : FnScope ["text", "sign"] ["text"] (defScope s_text_octets) := ⟨rfl, rfl, rfl, by decide +kernel, rfl, by decide +kernel, by decide +kernel⟩
abbrev s_line_octets : Stmt := topS 97
theorem sc_line_octets : FnScope ["text"] ["text"] (defScope s_line_octets) := ⟨rfl, rfl, rfl, by decide +kernel, rfl, by decide +kernel, by decide +kernel⟩
abbrev s_wide_octets : Stmt := topS 102
theorem sc_wide_octets : FnScope ["number"] ["number"] (defScope s_wide_octets) := ⟨rfl, rfl, rfl, by decide +kernel, rfl, by decide +kernel, by decide +kernel⟩
abbrev s_row_of : Stmt := topS 110
theorem sc_row_of : FnScope ["name"] ["name"] (defScope s_row_of) := ⟨rfl, rfl, rfl, by decide +kernel, rfl, by decide +kernel, by decide +kernel⟩
abbrev s_argument_form : Stmt := topS 111
theorem sc_argument_form : FnScope ["name"] ["name"] (defScope s_argument_form) := ⟨rfl, rfl, rfl, by decide +kernel, rfl, by decide +kernel, by decide +kernel⟩
abbrev s_is_version : Stmt := topS 127
theorem sc_is_version : FnScope ["thing"] ["thing"] (defScope s_is_version) := ⟨rfl, rfl, rfl, by decide +kernel, rfl, by decide +kernel, by decide +kernel⟩
abbrev s_check_version : Stmt := topS 128
theorem sc_check_version : FnScope ["version"] ["version"] (defScope s_check_version) := ⟨rfl, rfl, rfl, by decide +kernel, rfl, by decide +kernel, by decide +kernel⟩
abbrev s_argument_octets : Stmt := topS 136
theorem sc_argument_octets : FnScope ["name", "argument", "form", "is_plain", "octets"] ["name", "argument"] (defScope s_argument_octets) := ⟨rfl, rfl, rfl, by decide +kernel, rfl, by decide +kernel, by decide +kernel⟩
abbrev s_encoded : Stmt := topS 137
theorem sc_encoded : FnScope ["name", "argument"] ["name", "argument"] (defScope s_encoded) := ⟨rfl, rfl, rfl, by decide +kernel, rfl, by decide +kernel, by decide +kernel⟩
abbrev s_framed : Stmt := topS 138
theorem sc_framed : FnScope ["pieces", "found", "part", "piece"] ["pieces"] (defScope s_framed) := ⟨rfl, rfl, rfl, by decide +kernel, rfl, by decide +kernel, by decide +kernel⟩
abbrev s_laid_out : Stmt := topS 139
theorem sc_laid_out : FnScope ["rows", "version", "pieces", "name", "argument", "head", "piece", "octet"] ["rows", "version"] (defScope s_laid_out) := ⟨rfl, rfl, rfl, by decide +kernel, rfl, by decide +kernel, by decide +kernel⟩
abbrev s_sealed : Stmt := topS 141
theorem sc_sealed : FnScope ["rows", "version", "stream"] ["rows", "version"] (defScope s_sealed) := ⟨rfl, rfl, rfl, by decide +kernel, rfl, by decide +kernel, by decide +kernel⟩
abbrev s_dump : Stmt := topS 142
theorem sc_dump : FnScope ["value", "registry", "version", "outside", "rows"] ["value", "registry", "version", "outside"] (defScope s_dump) := ⟨rfl, rfl, rfl, by decide +kernel, rfl, by decide +kernel, by decide +kernel⟩
abbrev s_is_jar_name : Stmt := topS 160
theorem sc_is_jar_name : FnScope ["thing", "sign"] ["thing"] (defScope s_is_jar_name) := ⟨rfl, rfl, rfl, by decide +kernel, rfl, by decide +kernel, by decide +kernel⟩
abbrev s_check_name : Stmt := topS 161
theorem sc_check_name : FnScope ["name"] ["name"] (defScope s_check_name) := ⟨rfl, rfl, rfl, by decide +kernel, rfl, by decide +kernel, by decide +kernel⟩
abbrev s_Jar___init__ : Stmt := inClass (topS 162) 0
theorem sc_Jar___init__ : FnScope ["self", "registry", "version"] ["self", "registry", "version"] (defScope s_Jar___init__) := ⟨rfl, rfl, rfl, by decide +kernel, rfl, by decide +kernel, by decide +kernel⟩
abbrev s_Jar_names : Stmt := inClass (topS 162) 1
theorem sc_Jar_names : FnScope ["self"] ["self"] (defScope s_Jar_names) := ⟨rfl, rfl, rfl, by decide +kernel, rfl, by decide +kernel, by decide +kernel⟩
abbrev s_Jar_version : Stmt := inClass (topS 162) 2
theorem sc_Jar_version : FnScope ["self"] ["self"] (defScope s_Jar_version) := ⟨rfl, rfl, rfl, by decide +kernel, rfl, by decide +kernel, by decide +kernel⟩
abbrev s_Jar_total : Stmt := inClass (topS 162) 3
theorem sc_Jar_total : FnScope ["self", "stream"] ["self"] (defScope s_Jar_total) := ⟨rfl, rfl, rfl, by decide +kernel, rfl, by decide +kernel, by decide +kernel⟩
abbrev s_Jar_changes : Stmt := inClass (topS 162) 4
theorem sc_Jar_changes : FnScope ["self"] ["self"] (defScope s_Jar_changes) := ⟨rfl, rfl, rfl, by decide +kernel, rfl, by decide +kernel, by decide +kernel⟩
abbrev s_Jar_change_to : Stmt := inClass (topS 162) 5
theorem sc_Jar_change_to : FnScope ["self", "shelf", "version"] ["self", "shelf", "version"] (defScope s_Jar_change_to) := ⟨rfl, rfl, rfl, by decide +kernel, rfl, by decide +kernel, by decide +kernel⟩
abbrev s_Jar_put : Stmt := inClass (topS 162) 6
theorem sc_Jar_put : FnScope ["self", "name", "value", "stream"] ["self", "name", "value"] (defScope s_Jar_put) := ⟨rfl, rfl, rfl, by decide +kernel, rfl, by decide +kernel, by decide +kernel⟩
abbrev s_Jar_stream_of : Stmt := inClass (topS 162) 7
theorem sc_Jar_stream_of : FnScope ["self", "name"] ["self", "name"] (defScope s_Jar_stream_of) := ⟨rfl, rfl, rfl, by decide +kernel, rfl, by decide +kernel, by decide +kernel⟩
abbrev s__law_begin : Stmt := topS 164
theorem sc__law_begin : FnScope ["script"] ["script"] (defScope s__law_begin) := ⟨rfl, rfl, rfl, by decide +kernel, rfl, by decide +kernel, by decide +kernel⟩
abbrev s__law_mixed : Stmt := topS 165
theorem sc__law_mixed : FnScope ["cell", "k", "mixed"] ["cell", "k"] (defScope s__law_mixed) := ⟨rfl, rfl, rfl, by decide +kernel, rfl, by decide +kernel, by decide +kernel⟩
abbrev s__law_next : Stmt := topS 166
theorem sc__law_next : FnScope ["draw", "bound", "found", "cells", "cell"] ["draw", "bound"] (defScope s__law_next) := ⟨rfl, rfl, rfl, by decide +kernel, rfl, by decide +kernel, by decide +kernel⟩
abbrev s__law_refusal : Stmt := topS 167
theorem sc__law_refusal : FnScope ["jar", "edits", "is_one", "caught", "e"] ["jar", "edits", "is_one"] (defScope s__law_refusal) := ⟨rfl, rfl, rfl, by decide +kernel, rfl, by decide +kernel, by decide +kernel⟩
abbrev s__law_state : Stmt := topS 168
theorem sc__law_state : FnScope ["jar", "one"] ["jar"] (defScope s__law_state) := ⟨rfl, rfl, rfl, by decide +kernel, rfl, by decide +kernel, by decide +kernel⟩
abbrev s__law_no_edit : Stmt := topS 169
theorem sc__law_no_edit : FnScope ["draw", "some"] ["draw"] (defScope s__law_no_edit) := ⟨rfl, rfl, rfl, by decide +kernel, rfl, by decide +kernel, by decide +kernel⟩
abbrev s__law_edit : Stmt := topS 170
theorem sc__law_edit : FnScope ["draw", "some"] ["draw"] (defScope s__law_edit) := ⟨rfl, rfl, rfl, by decide +kernel, rfl, by decide +kernel, by decide +kernel⟩
abbrev s__law_right : Stmt := topS 171
theorem sc__law_right : FnScope ["draw", "jar", "here", "many", "edits", "at", "k", "odd", "told"] ["draw", "jar"] (defScope s__law_right) := ⟨rfl, rfl, rfl, by decide +kernel, rfl, by decide +kernel, by decide +kernel⟩
abbrev s_law : Stmt := topS 172
theorem sc_law : FnScope ["script", "draw", "turn", "jar", "again", "here"] ["script"] (defScope s_law) := ⟨rfl, rfl, rfl, by decide +kernel, rfl, by decide +kernel, by decide +kernel⟩
structure Adr where
  is_edit : Addr
  Batch___init__ : Addr
  Batch___enter__ : Addr
  Batch___exit__ : Addr
  batched_all : Addr
  batched : Addr
  is_integer : Addr
  is_whole_atom : Addr
  is_text : Addr
  is_key : Addr
  is_atom : Addr
  holds_value : Addr
  rules_of : Addr
  atom_form : Addr
  NodeView___init__ : Addr
  NodeView_shape_of : Addr
  NodeView_label : Addr
  NodeView_plain : Addr
  Drafting___init__ : Addr
  Drafting_add : Addr
  Drafting_put : Addr
  Drafting_enter_value : Addr
  Drafting_write : Addr
  Drafting_write_atom : Addr
  Drafting_write_text : Addr
  integer_name : Addr
  text_name : Addr
  full_rows : Addr
  least_rows : Addr
  named_rows : Addr
  text_octets : Addr
  line_octets : Addr
  wide_octets : Addr
  row_of : Addr
  argument_form : Addr
  is_version : Addr
  check_version : Addr
  argument_octets : Addr
  encoded : Addr
  framed : Addr
  laid_out : Addr
  sealed : Addr
  dump : Addr
  is_jar_name : Addr
  check_name : Addr
  Jar___init__ : Addr
  Jar_names : Addr
  Jar_version : Addr
  Jar_total : Addr
  Jar_changes : Addr
  Jar_change_to : Addr
  Jar_put : Addr
  Jar_stream_of : Addr
  _law_begin : Addr
  _law_mixed : Addr
  _law_next : Addr
  _law_refusal : Addr
  _law_state : Addr
  _law_no_edit : Addr
  _law_edit : Addr
  _law_right : Addr
  law : Addr
  JarError : Addr
  InvalidEdit : Addr
  StateError : Addr
  MissingError : Addr
  Batch : Addr
  Node : Addr
  NodeView : Addr
  Drafting : Addr
  Jar : Addr
  InvalidEdit_i : Addr
  InvalidEdit_c : Addr
  InvalidEdit_d : Addr
  Jar_names_p : Addr
  Jar_version_p : Addr
  Jar_total_p : Addr
  Jar_changes_p : Addr
  WORDS : Addr
  NUMBERS : Addr
  ROWS : Addr
  OCTET_ROWS : Addr
  LINE_TEXTS : Addr
  par : Params
def rowsN : List (Str × Int × Str) := [(("stop" : Str), (1 : Int), ("none" : Str)), (("version" : Str), (2 : Int), ("octet" : Str)), (("frame" : Str), (4 : Int), ("wide" : Str)), (("none" : Str), (1 : Int), ("none" : Str)), (("false" : Str), (1 : Int), ("none" : Str)), (("true" : Str), (1 : Int), ("none" : Str)), (("integer-line" : Str), (1 : Int), ("line" : Str)), (("integer-octet" : Str), (2 : Int), ("octet" : Str)), (("integer-counted" : Str), (2 : Int), ("counted" : Str)), (("text-line" : Str), (1 : Int), ("line" : Str)), (("text-wide" : Str), (2 : Int), ("wide counted" : Str)), (("text-short" : Str), (3 : Int), ("counted" : Str)), (("octets-line" : Str), (1 : Int), ("line" : Str)), (("octets-wide" : Str), (3 : Int), ("wide counted" : Str)), (("mark" : Str), (1 : Int), ("none" : Str)), (("drop" : Str), (1 : Int), ("none" : Str)), (("drop-to-mark" : Str), (1 : Int), ("none" : Str)), (("pack" : Str), (1 : Int), ("none" : Str)), (("pack-0" : Str), (2 : Int), ("none" : Str)), (("pack-1" : Str), (2 : Int), ("none" : Str)), (("pack-2" : Str), (2 : Int), ("none" : Str)), (("pack-3" : Str), (2 : Int), ("none" : Str)), (("row" : Str), (1 : Int), ("none" : Str)), (("append" : Str), (1 : Int), ("none" : Str)), (("append-all" : Str), (2 : Int), ("none" : Str)), (("book" : Str), (1 : Int), ("none" : Str)), (("enter" : Str), (1 : Int), ("none" : Str)), (("enter-all" : Str), (2 : Int), ("none" : Str)), (("bag" : Str), (4 : Int), ("none" : Str)), (("add-all" : Str), (4 : Int), ("none" : Str)), (("put-line" : Str), (1 : Int), ("line" : Str)), (("put-octet" : Str), (2 : Int), ("octet" : Str)), (("put-wide" : Str), (2 : Int), ("wide" : Str)), (("put-next" : Str), (3 : Int), ("none" : Str)), (("get-line" : Str), (1 : Int), ("line" : Str)), (("get-octet" : Str), (2 : Int), ("octet" : Str)), (("get-wide" : Str), (2 : Int), ("wide" : Str)), (("class-line" : Str), (1 : Int), ("line" : Str)), (("class-text" : Str), (4 : Int), ("none" : Str)), (("make" : Str), (1 : Int), ("none" : Str)), (("build" : Str), (1 : Int), ("none" : Str)), (("outer-line" : Str), (1 : Int), ("line" : Str)), (("outer-text" : Str), (2 : Int), ("none" : Str))]
def rowV (r : Str × Int × Str) : List V := [.str r.1, .int r.2.1, .str r.2.2]
def rowsL : List (List V) := rowsN.map rowV
def numL : List (Str × V) := [(("stop" : Str), V.int 160), (("version" : Str), V.int 161), (("frame" : Str), V.int 162), (("none" : Str), V.int 163), (("false" : Str), V.int 164), (("true" : Str), V.int 165), (("integer-line" : Str), V.int 166), (("integer-octet" : Str), V.int 167), (("integer-counted" : Str), V.int 168), (("text-line" : Str), V.int 169), (("text-wide" : Str), V.int 170), (("text-short" : Str), V.int 171), (("octets-line" : Str), V.int 172), (("octets-wide" : Str), V.int 173), (("mark" : Str), V.int 174), (("drop" : Str), V.int 175), (("drop-to-mark" : Str), V.int 176), (("pack" : Str), V.int 177), (("pack-0" : Str), V.int 178), (("pack-1" : Str), V.int 179), (("pack-2" : Str), V.int 180), (("pack-3" : Str), V.int 181), (("row" : Str), V.int 182), (("append" : Str), V.int 183), (("append-all" : Str), V.int 184), (("book" : Str), V.int 185), (("enter" : Str), V.int 186), (("enter-all" : Str), V.int 187), (("bag" : Str), V.int 188), (("add-all" : Str), V.int 189), (("put-line" : Str), V.int 190), (("put-octet" : Str), V.int 191), (("put-wide" : Str), V.int 192), (("put-next" : Str), V.int 193), (("get-line" : Str), V.int 194), (("get-octet" : Str), V.int 195), (("get-wide" : Str), V.int 196), (("class-line" : Str), V.int 197), (("class-text" : Str), V.int 198), (("make" : Str), V.int 199), (("build" : Str), V.int 200), (("outer-line" : Str), V.int 201), (("outer-text" : Str), V.int 202)]
def wordL : List (Str × V) := [(("put" : Str), V.int 3), (("drop" : Str), V.int 2), (("convert" : Str), V.int 2), (("undo" : Str), V.int 1)]
structure Txt (P : Program) (K : PySem.W.Frag) (mg : Str → Option Value) (a : Adr) : Prop where
  b_ValueError : mg "ValueError" = none
  b_all : mg "all" = none
  b_bool : mg "bool" = none
  b_enumerate : mg "enumerate" = none
  b_int : mg "int" = none
  b_isinstance : mg "isinstance" = none
  b_len : mg "len" = none
  b_list : mg "list" = none
  b_min : mg "min" = none
  b_ord : mg "ord" = none
  b_property : mg "property" = none
  b_range : mg "range" = none
  b_repr : mg "repr" = none
  b_sorted : mg "sorted" = none
  b_str : mg "str" = none
  b_sum : mg "sum" = none
  b_tuple : mg "tuple" = none
  b_super : mg "super" = none
  c_MOST_INTEGER : ∃ t, mg "MOST_INTEGER" = some (.int (1000000000000000000000000000000000000000000000000000000000000000000000000000000000000000000000000000000000000000000000000000000000000000000000000000000000000000000000000000000000000000000000000000000000000000000000000000000000000000000000000000000000000000000000000000000000000000000000000000000000000) t)
  c_MOST_CHARACTERS : ∃ t, mg "MOST_CHARACTERS" = some (.int (2000) t)
  c_MOST_OPEN : ∃ t, mg "MOST_OPEN" = some (.int (50) t)
  c_LEAST_SHARED : ∃ t, mg "LEAST_SHARED" = some (.int (4) t)
  c_NEWLINE : ∃ t, mg "NEWLINE" = some (.int (10) t)
  c_FIRST : ∃ t, mg "FIRST" = some (.int (160) t)
  c_MOST_OCTETS : ∃ t, mg "MOST_OCTETS" = some (.int (50000) t)
  c_LEAST_FRAME : ∃ t, mg "LEAST_FRAME" = some (.int (64) t)
  c_MOST_NAMES : ∃ t, mg "MOST_NAMES" = some (.int (50) t)
  g_WORDS : mg "WORDS" = some (.ref a.WORDS)
  g_NUMBERS : mg "NUMBERS" = some (.ref a.NUMBERS)
  g_ROWS : mg "ROWS" = some (.ref a.ROWS)
  g_OCTET_ROWS : mg "OCTET_ROWS" = some (.ref a.OCTET_ROWS)
  g_LINE_TEXTS : mg "LINE_TEXTS" = some (.ref a.LINE_TEXTS)
  g_is_edit : mg "is_edit" = some (.ref a.is_edit)
  k_is_edit : PySem.W.keepIn K (.ref a.is_edit) = true
  d_is_edit : DefAt K "is_edit" "is_edit" s_is_edit a.is_edit ["thing"]
  k_Batch___init__ : PySem.W.keepIn K (.ref a.Batch___init__) = true
  d_Batch___init__ : DefAt K "__init__" "Batch.__init__" s_Batch___init__ a.Batch___init__ ["self", "jar"]
  k_Batch___enter__ : PySem.W.keepIn K (.ref a.Batch___enter__) = true
  d_Batch___enter__ : DefAt K "__enter__" "Batch.__enter__" s_Batch___enter__ a.Batch___enter__ ["self"]
  k_Batch___exit__ : PySem.W.keepIn K (.ref a.Batch___exit__) = true
  d_Batch___exit__ : DefAt K "__exit__" "Batch.__exit__" s_Batch___exit__ a.Batch___exit__ ["self", "kind", "value", "trace"]
  g_batched_all : mg "batched_all" = some (.ref a.batched_all)
  k_batched_all : PySem.W.keepIn K (.ref a.batched_all) = true
  d_batched_all : DefAt K "batched_all" "batched_all" s_batched_all a.batched_all ["jar", "edits"]
  g_batched : mg "batched" = some (.ref a.batched)
  k_batched : PySem.W.keepIn K (.ref a.batched) = true
  d_batched : DefS K "batched" "batched" s_batched a.batched ["jar"] "edits"
  g_is_integer : mg "is_integer" = some (.ref a.is_integer)
  k_is_integer : PySem.W.keepIn K (.ref a.is_integer) = true
  d_is_integer : DefAt K "is_integer" "is_integer" s_is_integer a.is_integer ["thing"]
  g_is_whole_atom : mg "is_whole_atom" = some (.ref a.is_whole_atom)
  k_is_whole_atom : PySem.W.keepIn K (.ref a.is_whole_atom) = true
  d_is_whole_atom : DefAt K "is_whole_atom" "is_whole_atom" s_is_whole_atom a.is_whole_atom ["thing"]
  g_is_text : mg "is_text" = some (.ref a.is_text)
  k_is_text : PySem.W.keepIn K (.ref a.is_text) = true
  d_is_text : DefAt K "is_text" "is_text" s_is_text a.is_text ["thing"]
  g_is_key : mg "is_key" = some (.ref a.is_key)
  k_is_key : PySem.W.keepIn K (.ref a.is_key) = true
  d_is_key : DefAt K "is_key" "is_key" s_is_key a.is_key ["thing"]
  g_is_atom : mg "is_atom" = some (.ref a.is_atom)
  k_is_atom : PySem.W.keepIn K (.ref a.is_atom) = true
  d_is_atom : DefAt K "is_atom" "is_atom" s_is_atom a.is_atom ["thing"]
  g_holds_value : mg "holds_value" = some (.ref a.holds_value)
  k_holds_value : PySem.W.keepIn K (.ref a.holds_value) = true
  d_holds_value : DefAt K "holds_value" "holds_value" s_holds_value a.holds_value ["thing"]
  g_rules_of : mg "rules_of" = some (.ref a.rules_of)
  k_rules_of : PySem.W.keepIn K (.ref a.rules_of) = true
  d_rules_of : DefAt K "rules_of" "rules_of" s_rules_of a.rules_of ["registry"]
  g_atom_form : mg "atom_form" = some (.ref a.atom_form)
  k_atom_form : PySem.W.keepIn K (.ref a.atom_form) = true
  d_atom_form : DefAt K "atom_form" "atom_form" s_atom_form a.atom_form ["atom"]
  k_NodeView___init__ : PySem.W.keepIn K (.ref a.NodeView___init__) = true
  d_NodeView___init__ : DefAt K "__init__" "NodeView.__init__" s_NodeView___init__ a.NodeView___init__ ["self", "registry", "outside"]
  k_NodeView_shape_of : PySem.W.keepIn K (.ref a.NodeView_shape_of) = true
  d_NodeView_shape_of : DefAt K "shape_of" "NodeView.shape_of" s_NodeView_shape_of a.NodeView_shape_of ["self", "value"]
  k_NodeView_label : PySem.W.keepIn K (.ref a.NodeView_label) = true
  d_NodeView_label : DefAt K "label" "NodeView.label" s_NodeView_label a.NodeView_label ["self", "value"]
  k_NodeView_plain : PySem.W.keepIn K (.ref a.NodeView_plain) = true
  d_NodeView_plain : DefAt K "plain" "NodeView.plain" s_NodeView_plain a.NodeView_plain ["self", "value", "form"]
  k_Drafting___init__ : PySem.W.keepIn K (.ref a.Drafting___init__) = true
  d_Drafting___init__ : DefAt K "__init__" "Drafting.__init__" s_Drafting___init__ a.Drafting___init__ ["self", "view", "version", "numbers", "most"]
  k_Drafting_add : PySem.W.keepIn K (.ref a.Drafting_add) = true
  d_Drafting_add : DefF K "add" "Drafting.add" s_Drafting_add a.Drafting_add [.non] []
  k_Drafting_put : PySem.W.keepIn K (.ref a.Drafting_put) = true
  d_Drafting_put : DefAt K "put" "Drafting.put" s_Drafting_put a.Drafting_put ["self", "thing"]
  k_Drafting_enter_value : PySem.W.keepIn K (.ref a.Drafting_enter_value) = true
  d_Drafting_enter_value : DefAt K "enter_value" "Drafting.enter_value" s_Drafting_enter_value a.Drafting_enter_value ["self"]
  k_Drafting_write : PySem.W.keepIn K (.ref a.Drafting_write) = true
  d_Drafting_write : DefAt K "write" "Drafting.write" s_Drafting_write a.Drafting_write ["self", "value"]
  k_Drafting_write_atom : PySem.W.keepIn K (.ref a.Drafting_write_atom) = true
  d_Drafting_write_atom : DefAt K "write_atom" "Drafting.write_atom" s_Drafting_write_atom a.Drafting_write_atom ["self", "atom", "form"]
  k_Drafting_write_text : PySem.W.keepIn K (.ref a.Drafting_write_text) = true
  d_Drafting_write_text : DefAt K "write_text" "Drafting.write_text" s_Drafting_write_text a.Drafting_write_text ["self", "text"]
  g_integer_name : mg "integer_name" = some (.ref a.integer_name)
  k_integer_name : PySem.W.keepIn K (.ref a.integer_name) = true
  d_integer_name : DefAt K "integer_name" "integer_name" s_integer_name a.integer_name ["integer", "version"]
  g_text_name : mg "text_name" = some (.ref a.text_name)
  k_text_name : PySem.W.keepIn K (.ref a.text_name) = true
  d_text_name : DefAt K "text_name" "text_name" s_text_name a.text_name ["text", "version"]
  g_full_rows : mg "full_rows" = some (.ref a.full_rows)
  k_full_rows : PySem.W.keepIn K (.ref a.full_rows) = true
  d_full_rows : DefF K "full_rows" "full_rows" s_full_rows a.full_rows [.non] []
  g_least_rows : mg "least_rows" = some (.ref a.least_rows)
  k_least_rows : PySem.W.keepIn K (.ref a.least_rows) = true
  d_least_rows : DefAt K "least_rows" "least_rows" s_least_rows a.least_rows ["rows"]
  g_named_rows : mg "named_rows" = some (.ref a.named_rows)
  k_named_rows : PySem.W.keepIn K (.ref a.named_rows) = true
  d_named_rows : DefAt K "named_rows" "named_rows" s_named_rows a.named_rows ["rows", "version"]
  g_text_octets : mg "text_octets" = some (.ref a.text_octets)
  k_text_octets : PySem.W.keepIn K (.ref a.text_octets) = true
  d_text_octets : DefAt K "text_octets" "text_octets" s_text_octets a.text_octets ["text"]
  g_line_octets : mg "line_octets" = some (.ref a.line_octets)
  k_line_octets : PySem.W.keepIn K (.ref a.line_octets) = true
  d_line_octets : DefAt K "line_octets" "line_octets" s_line_octets a.line_octets ["text"]
  g_wide_octets : mg "wide_octets" = some (.ref a.wide_octets)
  k_wide_octets : PySem.W.keepIn K (.ref a.wide_octets) = true
  d_wide_octets : DefAt K "wide_octets" "wide_octets" s_wide_octets a.wide_octets ["number"]
  g_row_of : mg "row_of" = some (.ref a.row_of)
  k_row_of : PySem.W.keepIn K (.ref a.row_of) = true
  d_row_of : DefAt K "row_of" "row_of" s_row_of a.row_of ["name"]
  g_argument_form : mg "argument_form" = some (.ref a.argument_form)
  k_argument_form : PySem.W.keepIn K (.ref a.argument_form) = true
  d_argument_form : DefAt K "argument_form" "argument_form" s_argument_form a.argument_form ["name"]
  g_is_version : mg "is_version" = some (.ref a.is_version)
  k_is_version : PySem.W.keepIn K (.ref a.is_version) = true
  d_is_version : DefAt K "is_version" "is_version" s_is_version a.is_version ["thing"]
  g_check_version : mg "check_version" = some (.ref a.check_version)
  k_check_version : PySem.W.keepIn K (.ref a.check_version) = true
  d_check_version : DefAt K "check_version" "check_version" s_check_version a.check_version ["version"]
  g_argument_octets : mg "argument_octets" = some (.ref a.argument_octets)
  k_argument_octets : PySem.W.keepIn K (.ref a.argument_octets) = true
  d_argument_octets : DefAt K "argument_octets" "argument_octets" s_argument_octets a.argument_octets ["name", "argument"]
  g_encoded : mg "encoded" = some (.ref a.encoded)
  k_encoded : PySem.W.keepIn K (.ref a.encoded) = true
  d_encoded : DefAt K "encoded" "encoded" s_encoded a.encoded ["name", "argument"]
  g_framed : mg "framed" = some (.ref a.framed)
  k_framed : PySem.W.keepIn K (.ref a.framed) = true
  d_framed : DefAt K "framed" "framed" s_framed a.framed ["pieces"]
  g_laid_out : mg "laid_out" = some (.ref a.laid_out)
  k_laid_out : PySem.W.keepIn K (.ref a.laid_out) = true
  d_laid_out : DefAt K "laid_out" "laid_out" s_laid_out a.laid_out ["rows", "version"]
  g_sealed : mg "sealed" = some (.ref a.sealed)
  k_sealed : PySem.W.keepIn K (.ref a.sealed) = true
  d_sealed : DefAt K "sealed" "sealed" s_sealed a.sealed ["rows", "version"]
  g_dump : mg "dump" = some (.ref a.dump)
  k_dump : PySem.W.keepIn K (.ref a.dump) = true
  d_dump : DefF K "dump" "dump" s_dump a.dump [.non] [("version", .int (4)), ("outside", .non)]
  g_is_jar_name : mg "is_jar_name" = some (.ref a.is_jar_name)
  k_is_jar_name : PySem.W.keepIn K (.ref a.is_jar_name) = true
  d_is_jar_name : DefAt K "is_jar_name" "is_jar_name" s_is_jar_name a.is_jar_name ["thing"]
  g_check_name : mg "check_name" = some (.ref a.check_name)
  k_check_name : PySem.W.keepIn K (.ref a.check_name) = true
  d_check_name : DefAt K "check_name" "check_name" s_check_name a.check_name ["name"]
  k_Jar___init__ : PySem.W.keepIn K (.ref a.Jar___init__) = true
  d_Jar___init__ : DefF K "__init__" "Jar.__init__" s_Jar___init__ a.Jar___init__ [.non] [("version", .int (4))]
  k_Jar_names : PySem.W.keepIn K (.ref a.Jar_names) = true
  d_Jar_names : DefAt K "names" "Jar.names" s_Jar_names a.Jar_names ["self"]
  k_Jar_version : PySem.W.keepIn K (.ref a.Jar_version) = true
  d_Jar_version : DefAt K "version" "Jar.version" s_Jar_version a.Jar_version ["self"]
  k_Jar_total : PySem.W.keepIn K (.ref a.Jar_total) = true
  d_Jar_total : DefAt K "total" "Jar.total" s_Jar_total a.Jar_total ["self"]
  k_Jar_changes : PySem.W.keepIn K (.ref a.Jar_changes) = true
  d_Jar_changes : DefAt K "changes" "Jar.changes" s_Jar_changes a.Jar_changes ["self"]
  k_Jar_change_to : PySem.W.keepIn K (.ref a.Jar_change_to) = true
  d_Jar_change_to : DefAt K "change_to" "Jar.change_to" s_Jar_change_to a.Jar_change_to ["self", "shelf", "version"]
  k_Jar_put : PySem.W.keepIn K (.ref a.Jar_put) = true
  d_Jar_put : DefAt K "put" "Jar.put" s_Jar_put a.Jar_put ["self", "name", "value"]
  k_Jar_stream_of : PySem.W.keepIn K (.ref a.Jar_stream_of) = true
  d_Jar_stream_of : DefAt K "stream_of" "Jar.stream_of" s_Jar_stream_of a.Jar_stream_of ["self", "name"]
  g__law_begin : mg "_law_begin" = some (.ref a._law_begin)
  k__law_begin : PySem.W.keepIn K (.ref a._law_begin) = true
  d__law_begin : DefAt K "_law_begin" "_law_begin" s__law_begin a._law_begin ["script"]
  g__law_mixed : mg "_law_mixed" = some (.ref a._law_mixed)
  k__law_mixed : PySem.W.keepIn K (.ref a._law_mixed) = true
  d__law_mixed : DefAt K "_law_mixed" "_law_mixed" s__law_mixed a._law_mixed ["cell", "k"]
  g__law_next : mg "_law_next" = some (.ref a._law_next)
  k__law_next : PySem.W.keepIn K (.ref a._law_next) = true
  d__law_next : DefAt K "_law_next" "_law_next" s__law_next a._law_next ["draw", "bound"]
  g__law_refusal : mg "_law_refusal" = some (.ref a._law_refusal)
  k__law_refusal : PySem.W.keepIn K (.ref a._law_refusal) = true
  d__law_refusal : DefAt K "_law_refusal" "_law_refusal" s__law_refusal a._law_refusal ["jar", "edits", "is_one"]
  g__law_state : mg "_law_state" = some (.ref a._law_state)
  k__law_state : PySem.W.keepIn K (.ref a._law_state) = true
  d__law_state : DefAt K "_law_state" "_law_state" s__law_state a._law_state ["jar"]
  g__law_no_edit : mg "_law_no_edit" = some (.ref a._law_no_edit)
  k__law_no_edit : PySem.W.keepIn K (.ref a._law_no_edit) = true
  d__law_no_edit : DefAt K "_law_no_edit" "_law_no_edit" s__law_no_edit a._law_no_edit ["draw"]
  g__law_edit : mg "_law_edit" = some (.ref a._law_edit)
  k__law_edit : PySem.W.keepIn K (.ref a._law_edit) = true
  d__law_edit : DefAt K "_law_edit" "_law_edit" s__law_edit a._law_edit ["draw"]
  g__law_right : mg "_law_right" = some (.ref a._law_right)
  k__law_right : PySem.W.keepIn K (.ref a._law_right) = true
  d__law_right : DefAt K "_law_right" "_law_right" s__law_right a._law_right ["draw", "jar"]
  g_law : mg "law" = some (.ref a.law)
  k_law : PySem.W.keepIn K (.ref a.law) = true
  d_law : DefAt K "law" "law" s_law a.law ["script"]
  g_JarError : mg "JarError" = some (.ref a.JarError)
  x_JarError : PySem.W.subIn K (.ref a.JarError) (.type "BaseException") = some true
  t_JarError : PySem.W.typeIn K (.ref a.JarError) = some (.type "type")
  h_JarError : PySem.W.hasDictIn K a.JarError = true
  g_InvalidEdit : mg "InvalidEdit" = some (.ref a.InvalidEdit)
  x_InvalidEdit : PySem.W.subIn K (.ref a.InvalidEdit) (.type "BaseException") = some true
  t_InvalidEdit : PySem.W.typeIn K (.ref a.InvalidEdit) = some (.type "type")
  h_InvalidEdit : PySem.W.hasDictIn K a.InvalidEdit = true
  e_InvalidEdit : ErrK P K mg a.InvalidEdit a.InvalidEdit_i a.InvalidEdit_c a.InvalidEdit_d "ValueError" "ValueError.__init__" "ValueError.__new__" [.type "ValueError", .type "Exception", .type "BaseException", .type "object"] "InvalidEdit" ["position"]
  i_InvalidEdit : IniK K a.InvalidEdit_i a.InvalidEdit_c a.InvalidEdit_d "InvalidEdit.__init__" "invalid edit" ["position"]
  k_InvalidEdit : PySem.W.keepIn K (.ref a.InvalidEdit) = true
  R_InvalidEdit : ErrR K a.InvalidEdit
  n_InvalidEdit_position : PySem.W.findIn K (.ref a.InvalidEdit) "position" = some none
  g_StateError : mg "StateError" = some (.ref a.StateError)
  x_StateError : PySem.W.subIn K (.ref a.StateError) (.type "BaseException") = some true
  t_StateError : PySem.W.typeIn K (.ref a.StateError) = some (.type "type")
  h_StateError : PySem.W.hasDictIn K a.StateError = true
  g_MissingError : mg "MissingError" = some (.ref a.MissingError)
  x_MissingError : PySem.W.subIn K (.ref a.MissingError) (.type "BaseException") = some true
  t_MissingError : PySem.W.typeIn K (.ref a.MissingError) = some (.type "type")
  h_MissingError : PySem.W.hasDictIn K a.MissingError = true
  g_Batch : mg "Batch" = some (.ref a.Batch)
  c_Batch : Cls K a.Batch
  k_Batch : PySem.W.keepIn K (.ref a.Batch) = true
  e_Batch : IdEq K a.Batch
  t_Batch : PySem.W.typeIn K (.ref a.Batch) = some (.type "type")
  m_Batch : Mk K a.Batch a.Batch___init__
  p_Batch___enter__ : Meth K a.Batch "__enter__" a.Batch___enter__
  p_Batch___exit__ : Meth K a.Batch "__exit__" a.Batch___exit__
  n_Batch_target : NoAttr K a.Batch "target"
  n_Batch_first_shelf : NoAttr K a.Batch "first_shelf"
  n_Batch_first_layout : NoAttr K a.Batch "first_layout"
  n_Batch_first_past : NoAttr K a.Batch "first_past"
  n_Batch_shelf : NoAttr K a.Batch "shelf"
  n_Batch_layout : NoAttr K a.Batch "layout"
  n_Batch_past : NoAttr K a.Batch "past"
  g_Node : mg "Node" = some (.ref a.Node)
  c_Node : Cls K a.Node
  k_Node : PySem.W.keepIn K (.ref a.Node) = true
  e_Node : IdEq K a.Node
  t_Node : PySem.W.typeIn K (.ref a.Node) = some (.type "type")
  g_NodeView : mg "NodeView" = some (.ref a.NodeView)
  c_NodeView : Cls K a.NodeView
  k_NodeView : PySem.W.keepIn K (.ref a.NodeView) = true
  e_NodeView : IdEq K a.NodeView
  t_NodeView : PySem.W.typeIn K (.ref a.NodeView) = some (.type "type")
  m_NodeView : Mk K a.NodeView a.NodeView___init__
  p_NodeView_shape_of : Meth K a.NodeView "shape_of" a.NodeView_shape_of
  p_NodeView_label : Meth K a.NodeView "label" a.NodeView_label
  p_NodeView_plain : Meth K a.NodeView "plain" a.NodeView_plain
  n_NodeView_rules : NoAttr K a.NodeView "rules"
  n_NodeView_outside : NoAttr K a.NodeView "outside"
  n_NodeView_answers : NoAttr K a.NodeView "answers"
  g_Drafting : mg "Drafting" = some (.ref a.Drafting)
  c_Drafting : Cls K a.Drafting
  k_Drafting : PySem.W.keepIn K (.ref a.Drafting) = true
  e_Drafting : IdEq K a.Drafting
  t_Drafting : PySem.W.typeIn K (.ref a.Drafting) = some (.type "type")
  m_Drafting : Mk K a.Drafting a.Drafting___init__
  p_Drafting_add : Meth K a.Drafting "add" a.Drafting_add
  p_Drafting_put : Meth K a.Drafting "put" a.Drafting_put
  p_Drafting_enter_value : Meth K a.Drafting "enter_value" a.Drafting_enter_value
  p_Drafting_write : Meth K a.Drafting "write" a.Drafting_write
  p_Drafting_write_atom : Meth K a.Drafting "write_atom" a.Drafting_write_atom
  p_Drafting_write_text : Meth K a.Drafting "write_text" a.Drafting_write_text
  n_Drafting_view : NoAttr K a.Drafting "view"
  n_Drafting_edition : NoAttr K a.Drafting "edition"
  n_Drafting_given : NoAttr K a.Drafting "given"
  n_Drafting_most : NoAttr K a.Drafting "most"
  n_Drafting_rows : NoAttr K a.Drafting "rows"
  n_Drafting_deep : NoAttr K a.Drafting "deep"
  n_Drafting_begun : NoAttr K a.Drafting "begun"
  g_Jar : mg "Jar" = some (.ref a.Jar)
  c_Jar : Cls K a.Jar
  k_Jar : PySem.W.keepIn K (.ref a.Jar) = true
  e_Jar : IdEq K a.Jar
  t_Jar : PySem.W.typeIn K (.ref a.Jar) = some (.type "type")
  m_Jar : Mk K a.Jar a.Jar___init__
  p_Jar_names : PropOf K a.Jar "names" a.Jar_names_p a.Jar_names
  p_Jar_version : PropOf K a.Jar "version" a.Jar_version_p a.Jar_version
  p_Jar_total : PropOf K a.Jar "total" a.Jar_total_p a.Jar_total
  p_Jar_changes : PropOf K a.Jar "changes" a.Jar_changes_p a.Jar_changes
  p_Jar_change_to : Meth K a.Jar "change_to" a.Jar_change_to
  p_Jar_put : Meth K a.Jar "put" a.Jar_put
  p_Jar_stream_of : Meth K a.Jar "stream_of" a.Jar_stream_of
  n_Jar_known : NoAttr K a.Jar "known"
  n_Jar_shelf : NoAttr K a.Jar "shelf"
  n_Jar_layout : NoAttr K a.Jar "layout"
  n_Jar_past : NoAttr K a.Jar "past"
  u_InvalidEdit_JarError : PySem.W.kitOne K (.ref a.InvalidEdit) (.ref a.JarError) = some true
  v_InvalidEdit_JarError : PySem.W.exmOne K (.ref a.InvalidEdit) (.ref a.JarError) = some true
  u_InvalidEdit_StateError : PySem.W.kitOne K (.ref a.InvalidEdit) (.ref a.StateError) = some false
  v_InvalidEdit_StateError : PySem.W.exmOne K (.ref a.InvalidEdit) (.ref a.StateError) = some false
  u_InvalidEdit_MissingError : PySem.W.kitOne K (.ref a.InvalidEdit) (.ref a.MissingError) = some false
  v_InvalidEdit_MissingError : PySem.W.exmOne K (.ref a.InvalidEdit) (.ref a.MissingError) = some false
  u_InvalidEdit_InvalidEdit : PySem.W.kitOne K (.ref a.InvalidEdit) (.ref a.InvalidEdit) = some true
  v_InvalidEdit_InvalidEdit : PySem.W.exmOne K (.ref a.InvalidEdit) (.ref a.InvalidEdit) = some true
  u_InvalidEdit_ValueError : PySem.W.kitOne K (.ref a.InvalidEdit) (.type "ValueError") = some true
  rows : rowsIn K a.ROWS = some rowsL
  nums : KDL K a.par a.NUMBERS numL
  words : KDL K a.par a.WORDS wordL
  octrows : rowN K a.OCTET_ROWS = some [.str "octets-line", .str "octets-wide"]
  linetexts : rowN K a.LINE_TEXTS = some [.str "text-line", .str "outer-line"]
  w_NoneType : PySem.W.kitOne K (.type "NoneType") (.ref a.Node) = some false
  w_int : PySem.W.kitOne K (.type "int") (.ref a.Node) = some false
  w_str : PySem.W.kitOne K (.type "str") (.ref a.Node) = some false
end BJL

namespace BJL
open PySem PySem.Spec PyProof.Rows L2 BJ
section
variable {P : Program} {w : World} {K : PySem.W.Frag} {mg : Str → Option Value} {base : Heap} {a : Adr}
open Evl
theorem kII {K : PySem.W.Frag} : PySem.W.kitOne K (.type "int") (.type "int") = some true := kit_ty (by decide +kernel)
theorem kIB {K : PySem.W.Frag} : PySem.W.kitOne K (.type "int") (.type "bool") = some false := kit_ty (by decide +kernel)
theorem kIS {K : PySem.W.Frag} : PySem.W.kitOne K (.type "int") (.type "str") = some false := kit_ty (by decide +kernel)
theorem kSS {K : PySem.W.Frag} : PySem.W.kitOne K (.type "str") (.type "str") = some true := kit_ty (by decide +kernel)
theorem kSB {K : PySem.W.Frag} : PySem.W.kitOne K (.type "str") (.type "bool") = some false := kit_ty (by decide +kernel)
def spI1 : Sp := fun vs H Q _ => ∃ i : Int, vs = [.int i] ∧ Q (.bl true) H
theorem ok_is_integer (T : Txt P K mg a) : CallO P w K mg base 1 (.ref a.is_integer) spI1 := by
  refine fnO (T.d_is_integer.okX sc_is_integer (fun vs H Q E h => ?_) (fun cdv A outer s H vs Q E hr h => ?_))
  · obtain ⟨i, rfl, _⟩ := h
    rfl
  · obtain ⟨i, rfl, hq⟩ := h
    refine ⟨_, (pss_one (ps_ret (pe_and (pe_callB (call_isG' (K := K) rfl) (by rfl) T.b_isinstance (by decide +kernel) (pa_cons (pv 0) (pa_cons (pe_bltn (v := .ty "int") (u := .type "int") (by rfl) T.b_int (by decide +kernel) (by exact rfl)) pa_nil))) (pe_one (pe_not (pe_callB (call_isG' (K := K) rfl) (by rfl) T.b_isinstance (by decide +kernel) (pa_cons (pv 0) (pa_cons (pe_bltn (v := .ty "bool") (u := .type "bool") (by rfl) T.b_bool (by decide +kernel) (by exact rfl)) pa_nil)))))))), ?_⟩
    exact ⟨_, rfl, .int i, _, .type "int", _, _, rfl, .ty "int", .ty (.base (.int i)), kII, _, rfl, _, rfl, _, _, .type "int", _, _, rfl, .ty "bool", .ty (.base (.int i)), kIB, _, rfl, hq⟩
/-- the values that are dumped -/
def Val (x : V) : Prop := x = .str "salt" ∨ x = .int 5
def isS : V → Bool | .str _ => true | _ => false
def spB1 (f : V → Bool) : Sp := fun vs H Q _ => ∃ x, vs = [x] ∧ Val x ∧ Q (.bl (f x)) H
theorem ok_is_whole_atom (T : Txt P K mg a) : CallO P w K mg base 2 (.ref a.is_whole_atom) (fun vs H Q _ => vs = [.int 5] ∧ Q (.bl true) H) := by
  have G_is_integer : CallO P w K mg base 1 (.ref a.is_integer) spI1 := ok_is_integer T
  refine fnO (T.d_is_whole_atom.okX sc_is_whole_atom (fun vs H Q E h => ?_) (fun cdv A outer s H vs Q E hr h => ?_))
  · obtain ⟨rfl, _⟩ := h
    rfl
  · obtain ⟨rfl, hq⟩ := h
    refine ⟨_, (pss_one (ps_ret (pe_and (pe_co G_is_integer (hr.mono (by decide)) rfl T.g_is_integer T.k_is_integer (takes_of rfl rfl rfl rfl) (pa_cons (pv 0) pa_nil)) (pe_one (pe_chain op_lt op_lt (pe_un un_neg (pe_glob (v := .int (1000000000000000000000000000000000000000000000000000000000000000000000000000000000000000000000000000000000000000000000000000000000000000000000000000000000000000000000000000000000000000000000000000000000000000000000000000000000000000000000000000000000000000000000000000000000000000000000000000000000000)) (by rfl) T.c_MOST_INTEGER.choose_spec ⟨_, rfl⟩)) (pv 0) (pe_glob (v := .int (1000000000000000000000000000000000000000000000000000000000000000000000000000000000000000000000000000000000000000000000000000000000000000000000000000000000000000000000000000000000000000000000000000000000000000000000000000000000000000000000000000000000000000000000000000000000000000000000000000000000000)) (by rfl) T.c_MOST_INTEGER.choose_spec ⟨_, rfl⟩)))))), ?_⟩
    refine ⟨_, rfl, 5, rfl, _, rfl, _, rfl, _, rfl, _, _, rfl, rfl, _, rfl, ?_⟩
    rw [if_pos (by decide)]
    exact ⟨_, _, rfl, rfl, hq⟩
theorem ok_is_text (T : Txt P K mg a) : CallO P w K mg base 2 (.ref a.is_text) (spB1 isS) := by
  refine fnO (T.d_is_text.okX sc_is_text (fun vs H Q E h => ?_) (fun cdv A outer s H vs Q E hr h => ?_))
  · obtain ⟨x, rfl, _⟩ := h
    rfl
  · obtain ⟨x, rfl, hv, hq⟩ := h
    refine ⟨_, (pss_one (ps_ret (pe_and (pe_callB (call_isG' (K := K) rfl) (by rfl) T.b_isinstance (by decide +kernel) (pa_cons (pv 0) (pa_cons (pe_bltn (v := .ty "str") (u := .type "str") (by rfl) T.b_str (by decide +kernel) (by exact rfl)) pa_nil))) (pe_one (pe_cmpR op_le (pe_callB call_len_str (by rfl) T.b_len (by decide +kernel) (pa_cons (pv 0) pa_nil)) (pe_glob (v := .int (2000)) (by rfl) T.c_MOST_CHARACTERS.choose_spec ⟨_, rfl⟩) (nomark _)))))), ?_⟩
    rcases hv with rfl | rfl
    · exact ⟨_, rfl, _, _, .type "str", _, true, rfl, .ty "str", .ty (.base (.str _)), kSS, true, rfl, _, rfl, "salt", rfl, (by decide), _, _, rfl, rfl, hq⟩
    · exact ⟨_, rfl, _, _, .type "int", _, false, rfl, .ty "str", .ty (.base (.int _)), kIS, false, rfl, hq⟩

theorem ok_is_key (T : Txt P K mg a) : CallO P w K mg base 3 (.ref a.is_key) (spB1 fun _ => true) := by
  have G_is_text : CallO P w K mg base 2 (.ref a.is_text) (spB1 isS) := ok_is_text T
  have G_is_whole_atom : CallO P w K mg base 2 (.ref a.is_whole_atom) (fun vs H Q _ => vs = [.int 5] ∧ Q (.bl true) H) := ok_is_whole_atom T
  refine fnO (T.d_is_key.okX sc_is_key (fun vs H Q E h => ?_) (fun cdv A outer s H vs Q E hr h => ?_))
  · obtain ⟨x, rfl, _⟩ := h
    rfl
  · obtain ⟨x, rfl, hv, hq⟩ := h
    refine ⟨_, (pss_one (ps_ret (pe_or (pe_co G_is_text (hr.mono (by decide)) rfl T.g_is_text T.k_is_text (takes_of rfl rfl rfl rfl) (pa_cons (pv 0) pa_nil)) (pe_one (pe_co G_is_whole_atom (hr.mono (by decide)) rfl T.g_is_whole_atom T.k_is_whole_atom (takes_of rfl rfl rfl rfl) (pa_cons (pv 0) pa_nil)))))), ?_⟩
    refine ⟨_, rfl, x, rfl, hv, isS x, rfl, ?_⟩
    rcases hv with rfl | rfl
    · exact hq
    · exact ⟨_, rfl, rfl, hq⟩
theorem ok_is_atom (T : Txt P K mg a) : CallO P w K mg base 4 (.ref a.is_atom) (spB1 fun _ => true) := by
  have G_is_key : CallO P w K mg base 3 (.ref a.is_key) (spB1 fun _ => true) := ok_is_key T
  refine fnO (T.d_is_atom.okX sc_is_atom (fun vs H Q E h => ?_) (fun cdv A outer s H vs Q E hr h => ?_))
  · obtain ⟨x, rfl, _⟩ := h
    rfl
  · obtain ⟨x, rfl, hv, hq⟩ := h
    refine ⟨_, (pss_one (ps_ret (pe_or (pe_cmp (pc_isN (pv 0)) rfl) (pe_or (pe_callB (call_isG' (K := K) rfl) (by rfl) T.b_isinstance (by decide +kernel) (pa_cons (pv 0) (pa_cons (pe_bltn (v := .ty "bool") (u := .type "bool") (by rfl) T.b_bool (by decide +kernel) (by exact rfl)) pa_nil))) (pe_one (pe_co G_is_key (hr.mono (by decide)) rfl T.g_is_key T.k_is_key (takes_of rfl rfl rfl rfl) (pa_cons (pv 0) pa_nil))))))), ?_⟩
    refine ⟨_, rfl, _, rfl, ?_⟩
    rcases id hv with rfl | rfl
    · exact ⟨_, rfl, _, _, .type "str", _, false, rfl, .ty "bool", .ty (.base (.str _)), kSB, false, rfl, _, rfl, _, rfl, hv, hq⟩
    · exact ⟨_, rfl, _, _, .type "int", _, false, rfl, .ty "bool", .ty (.base (.int _)), kIB, false, rfl, _, rfl, _, rfl, hv, hq⟩
theorem ok_holds_value (T : Txt P K mg a) : CallO P w K mg base 5 (.ref a.holds_value) (spB1 fun _ => true) := by
  have G_is_atom : CallO P w K mg base 4 (.ref a.is_atom) (spB1 fun _ => true) := ok_is_atom T
  refine fnO (T.d_holds_value.okX sc_holds_value (fun vs H Q E h => ?_) (fun cdv A outer s H vs Q E hr h => ?_))
  · obtain ⟨x, rfl, _⟩ := h
    rfl
  · obtain ⟨x, rfl, hv, hq⟩ := h
    refine ⟨_, (pss_one (ps_ret (pe_or (pe_co G_is_atom (hr.mono (by decide)) rfl T.g_is_atom T.k_is_atom (takes_of rfl rfl rfl rfl) (pa_cons (pv 0) pa_nil)) (pe_one (pe_callB (call_isG' (K := K) rfl) (by rfl) T.b_isinstance (by decide +kernel) (pa_cons (pv 0) (pa_cons (pe_glob (v := .ref a.Node) (by rfl) T.g_Node rfl) pa_nil))))))), ?_⟩
    exact ⟨_, rfl, x, rfl, hv, true, rfl, hq⟩
/-- versions -/
def Ver (v : Int) : Prop := 1 ≤ v ∧ v ≤ 4
theorem ok_is_version (T : Txt P K mg a) : CallO P w K mg base 2 (.ref a.is_version) (fun vs H Q _ => ∃ v, vs = [.int v] ∧ Ver v ∧ Q (.bl true) H) := by
  have G_is_integer : CallO P w K mg base 1 (.ref a.is_integer) spI1 := ok_is_integer T
  refine fnO (T.d_is_version.okX sc_is_version (fun vs H Q E h => ?_) (fun cdv A outer s H vs Q E hr h => ?_))
  · obtain ⟨v, rfl, _⟩ := h
    rfl
  · obtain ⟨v, rfl, hv, hq⟩ := h
    refine ⟨_, (pss_one (ps_ret (pe_and (pe_co G_is_integer (hr.mono (by decide)) rfl T.g_is_integer T.k_is_integer (takes_of rfl rfl rfl rfl) (pa_cons (pv 0) pa_nil)) (pe_one (pe_chain op_le op_le pe_int (pv 0) pe_int))))), ?_⟩
    refine ⟨_, rfl, v, rfl, _, rfl, ?_⟩
    refine ⟨_, rfl, _, _, rfl, rfl, _, rfl, ?_⟩
    rw [show decide ((1 : Int) ≤ v) = true from decide_eq_true hv.1]
    refine ⟨_, _, rfl, rfl, ?_⟩
    show Q (.bl (decide (v ≤ (4 : Int)))) H
    rw [decide_eq_true hv.2]
    exact hq
theorem ok_check_version (T : Txt P K mg a) : CallO P w K mg base 3 (.ref a.check_version) (fun vs H Q _ => ∃ v, vs = [.int v] ∧ Ver v ∧ Q .non H) := by
  have G_is_version : CallO P w K mg base 2 (.ref a.is_version) (fun vs H Q _ => ∃ v, vs = [.int v] ∧ Ver v ∧ Q (.bl true) H) := ok_is_version T
  refine fnO (T.d_check_version.okX sc_check_version (fun vs H Q E h => ?_) (fun cdv A outer s H vs Q E hr h => ?_))
  · obtain ⟨v, rfl, _⟩ := h
    rfl
  · obtain ⟨v, rfl, hv, hq⟩ := h
    refine ⟨_, (pss_one (ps_if (pt_not (pt_val (pe_co G_is_version (hr.mono (by decide)) rfl T.g_is_version T.k_is_version (takes_of rfl rfl rfl rfl) (pa_cons (pv 0) pa_nil))))
 (pss_one ps_dead)
 pss_nil)), ?_⟩
    exact ⟨_, rfl, v, rfl, hv, _, rfl, hq⟩
/-- the shape of a value -/
def formOf : V → Str | .str _ => "text" | _ => "integer"
theorem ok_atom_form (T : Txt P K mg a) : CallO P w K mg base 1 (.ref a.atom_form) (fun vs H Q _ => ∃ x, vs = [x] ∧ Val x ∧ Q (.str (formOf x)) H) := by
  refine fnO (T.d_atom_form.okX sc_atom_form (fun vs H Q E h => ?_) (fun cdv A outer s H vs Q E hr h => ?_))
  · obtain ⟨x, rfl, _⟩ := h
    rfl
  · obtain ⟨x, rfl, hv, hq⟩ := h
    refine ⟨_, (pss_cons (ps_if (pt_cmp (pc_isN (pv 0)))
 (pss_one (ps_ret pe_str))
 pss_nil)
 (pss_cons (ps_if (pt_val (pe_callB (call_isG' (K := K) rfl) (by rfl) T.b_isinstance (by decide +kernel) (pa_cons (pv 0) (pa_cons (pe_bltn (v := .ty "bool") (u := .type "bool") (by rfl) T.b_bool (by decide +kernel) (by exact rfl)) pa_nil))))
 (pss_one (ps_ret pe_str))
 pss_nil)
 (pss_one (ps_ret (pe_ifExp (pt_val (pe_callB (call_isG' (K := K) rfl) (by rfl) T.b_isinstance (by decide +kernel) (pa_cons (pv 0) (pa_cons (pe_bltn (v := .ty "str") (u := .type "str") (by rfl) T.b_str (by decide +kernel) (by exact rfl)) pa_nil)))) pe_str pe_str))))), ?_⟩
    rcases hv with rfl | rfl
    · refine ⟨_, rfl, _, rfl, ?_⟩
      rw [decide_eq_false (fun e => by cases e)]
      exact ⟨_, rfl, _, _, .type "str", _, false, rfl, .ty "bool", .ty (.base (.str _)), kSB, false, rfl, _, rfl, _, _, .type "str", _, true, rfl, .ty "str", .ty (.base (.str _)), kSS, true, rfl, hq⟩
    · refine ⟨_, rfl, _, rfl, ?_⟩
      rw [decide_eq_false (fun e => by cases e)]
      exact ⟨_, rfl, _, _, .type "int", _, false, rfl, .ty "bool", .ty (.base (.int _)), kIB, false, rfl, _, rfl, _, _, .type "int", _, false, rfl, .ty "str", .ty (.base (.int _)), kIS, false, rfl, hq⟩
/-- rules_of(None): an empty dict -/
theorem ok_rules_of (T : Txt P K mg a) : CallO P w K mg base 1 (.ref a.rules_of) (fun vs H Q _ => vs = [.non] ∧ ∀ p, H p = none → Q (.ref p) (upd H p (.dK []))) := by
  refine fnO (T.d_rules_of.okX sc_rules_of (fun vs H Q E h => ?_) (fun cdv A outer s H vs Q E hr h => ?_))
  · obtain ⟨rfl, _⟩ := h
    rfl
  · obtain ⟨rfl, hq⟩ := h
    refine ⟨_, (pss_one (ps_ret (pe_ifExp (pt_cmp (pc_isN (pv 0))) pe_dnewK pe_dead))), ?_⟩
    refine ⟨_, rfl, _, rfl, ?_⟩
    rw [decide_eq_true (rfl : V.non = V.non)]
    exact hq
/-- the name of a value's opcode -/
def nameOf (x : V) (v : Int) : Str := match x with
  | .str _ => if v = 1 then "text-line" else if v > 2 then "text-short" else "text-wide"
  | _ => if v = 1 then "integer-line" else "integer-octet"
theorem ok_integer_name (T : Txt P K mg a) : CallO P w K mg base 1 (.ref a.integer_name) (fun vs H Q _ => ∃ v, vs = [.int 5, .int v] ∧ Q (.str (nameOf (.int 5) v)) H) := by
  refine fnO (T.d_integer_name.okX sc_integer_name (fun vs H Q E h => ?_) (fun cdv A outer s H vs Q E hr h => ?_))
  · obtain ⟨v, rfl, _⟩ := h
    rfl
  · obtain ⟨v, rfl, hq⟩ := h
    refine ⟨_, (pss_cons (ps_if (pt_cmpR op_eq (pv 1) pe_int (nomark _))
 (pss_one (ps_ret pe_str))
 pss_nil)
 (pss_one (ps_ret (pe_ifExp (pt_chain op_le op_le pe_int (pv 0) pe_int) pe_str pe_str)))), ?_⟩
    refine ⟨_, rfl, rfl, _, rfl, ?_⟩
    by_cases h1 : v = 1
    · subst h1
      exact hq
    · rw [show decide (V.int v = V.int 1) = false from decide_eq_false (fun e => h1 (by injection e))]
      rw [show nameOf (.int 5) v = "integer-octet" from if_neg h1] at hq
      refine ⟨_, rfl, _, _, rfl, rfl, _, rfl, ?_⟩
      rw [if_pos (by decide)]
      exact ⟨_, _, rfl, rfl, _, rfl, hq⟩
theorem ok_text_name (T : Txt P K mg a) : CallO P w K mg base 1 (.ref a.text_name) (fun vs H Q _ => ∃ v, vs = [.str "salt", .int v] ∧ Q (.str (nameOf (.str "salt") v)) H) := by
  refine fnO (T.d_text_name.okX sc_text_name (fun vs H Q E h => ?_) (fun cdv A outer s H vs Q E hr h => ?_))
  · obtain ⟨v, rfl, _⟩ := h
    rfl
  · obtain ⟨v, rfl, hq⟩ := h
    refine ⟨_, (pss_cons (ps_if (pt_cmpR op_eq (pv 1) pe_int (nomark _))
 (pss_one (ps_ret pe_str))
 pss_nil)
 (pss_one (ps_ret (pe_ifExp (PW.pt (pw_and (pt_cmpR op_gt (pv 1) pe_int (nomark _)) (pw_and1 (pt_cmpR op_le (pe_callB call_len_str (by rfl) T.b_len (by decide +kernel) (pa_cons (pv 0) pa_nil)) pe_int (nomark _))))) pe_str pe_str)))), ?_⟩
    refine ⟨_, rfl, rfl, _, rfl, ?_⟩
    by_cases h1 : v = 1
    · subst h1
      exact hq
    · rw [show decide (V.int v = V.int 1) = false from decide_eq_false (fun e => h1 (by injection e))]
      rw [show nameOf (.str "salt") v = (if v > 2 then ("text-short" : Str) else "text-wide") from if_neg h1] at hq
      refine ⟨_, rfl, _, _, rfl, rfl, _, rfl, ?_⟩
      by_cases h2 : v > 2
      · rw [if_pos h2] at hq
        rw [decide_eq_true h2]
        exact ⟨_, rfl, "salt", rfl, (by decide), _, _, rfl, rfl, _, rfl, hq⟩
      · rw [if_neg h2] at hq
        rw [decide_eq_false h2]
        exact hq

end
end BJL

namespace BJL
open PySem PySem.Spec PyProof.Rows L2 BJ
section
variable {P : Program} {w : World} {K : PySem.W.Frag} {mg : Str → Option Value} {base : Heap} {a : Adr}
open Evl
/-- some tuple of xs -/
def Giv (K : PySem.W.Frag) (xs : List V) (H : Hp) (Q : VK) : Prop := ∀ p H', Ex H H' → SqT K H' p xs → Q (.ref p) H'
theorem es_call {K : PySem.W.Frag} {σ : L2.St} {H : Hp} {xs vs : List V} {sp : Sp} {W : WX} {ta : TA} (ha : EvA ta σ H vs) (hs : ∀ H1 Q E, Ex H H1 → Giv K xs H1 Q → sp vs H1 Q E) : EvS K (tCa sp W ta) σ H xs :=
  fun H1 e Q q => ha H1 e _ fun H2 e2 => hs H2 _ _ (e.trans e2) fun p H3 e3 hp => q p H3 (e2.trans e3) hp
theorem es_end {K : PySem.W.Frag} {σ : L2.St} {H : Hp} {xs : List V} {te : TE} {Q : VK} (h : EvS K te σ H xs) (q : Giv K xs H Q) : te σ H Q := h H (Ex.refl _) _ q
theorem rowsN_len : rowsN.length = 43 := by decide +kernel
theorem rows_at (T : Txt P K mg a) : ∃ bs : List Addr, (∀ H : Hp, SqT K H a.ROWS (bs.map V.ref)) ∧ bs.length = 43 ∧ ∀ (i : Nat) (r : Str × Int × Str), rowsN[i]? = some r → ∃ b, bs[i]? = some b ∧ ∀ H : Hp, SqT K H b (rowV r) := by
  obtain ⟨bs, h1, h2, h3⟩ := rowsIn_at T.rows
  refine ⟨bs, h1, by rw [h2]; decide +kernel, fun i r hi => h3 i (rowV r) ?_⟩
  unfold rowsL
  rw [List.getElem?_map, hi]
  rfl
theorem num_at {w : World} (nums : KDL K w.params a.NUMBERS numL) {z : Str} {v : V} (hl : numL.lookup z = some v) : KDct K w a.NUMBERS z v := by
  have lk := nums.look z
  rw [hl] at lk
  obtain ⟨u, hn, ru⟩ := lk
  obtain ⟨es, n, e1, e2⟩ := nums.kd.ex
  exact ⟨es, n, u, e1, e2, hn, ru⟩
/-- the name's place in the rows, and its row -/
def NameAt (z : Str) (k : Nat) (r : Str × Int × Str) : Prop := numL.lookup z = some (.int (160 + (k : Nat))) ∧ rowsN[k]? = some r
def spRow (K : PySem.W.Frag) : Sp := fun vs H Q _ => ∃ (z : Str) (k : Nat) (r : Str × Int × Str), vs = [.str z] ∧ NameAt z k r ∧ ∀ b, (∀ H : Hp, SqT K H b (rowV r)) → Q (.ref b) H
theorem ok_row_of (T : Txt P K mg a) (hw : a.par = w.params) : CallO P w K mg base 1 (.ref a.row_of) (spRow K) := by
  have nums : KDL K w.params a.NUMBERS numL := hw ▸ T.nums
  refine fnO (T.d_row_of.okX sc_row_of (fun vs H Q E h => ?_) (fun cdv A outer s H vs Q E hr h => ?_))
  · obtain ⟨z, k, r, rfl, _⟩ := h
    rfl
  · obtain ⟨z, k, r, rfl, ⟨hl, hk⟩, hq⟩ := h
    refine ⟨_, (pss_one (ps_ret (pe_ix (ix_tup' (K := K) rfl) (pe_glob (v := .ref a.ROWS) (by rfl) T.g_ROWS rfl) (pe_op op_sub (pe_ixDX rfl (takes_of rfl rfl rfl rfl) (pe_glob (v := .ref a.NUMBERS) (by rfl) T.g_NUMBERS rfl) (pv 0) (fun _ _ => rfl)) (pe_glob (v := .int (160)) (by rfl) T.c_FIRST.choose_spec ⟨_, rfl⟩)) (fun _ _ => rfl)))), ?_⟩
    obtain ⟨bs, hb1, hb2, hb3⟩ := rows_at T
    obtain ⟨b, hb, hsq⟩ := hb3 k r hk
    have kd := num_at nums hl
    have hat : atI (bs.map V.ref) (160 + (k : Nat) - 160 : Int) = some (.ref b) := by
      rw [show (160 + (k : Nat) - 160 : Int) = ((k : Nat) : Int) by omega]
      exact atI_nat (by rw [List.getElem?_map, hb]; rfl)
    exact ⟨_, rfl, a.NUMBERS, z, rfl, rfl, .inl ⟨_, kd, _, _, rfl, rfl, a.ROWS, _, _, _, rfl, rfl, hb1 H, hat, hq b hsq⟩⟩
def spForm : Sp := fun vs H Q _ => ∃ (z : Str) (k : Nat) (r : Str × Int × Str), vs = [.str z] ∧ NameAt z k r ∧ Q (.str r.2.2) H
theorem ok_argument_form (T : Txt P K mg a) (hw : a.par = w.params) : CallO P w K mg base 2 (.ref a.argument_form) spForm := by
  have G_row_of : CallO P w K mg base 1 (.ref a.row_of) (spRow K) := ok_row_of T hw
  refine fnO (T.d_argument_form.okX sc_argument_form (fun vs H Q E h => ?_) (fun cdv A outer s H vs Q E hr h => ?_))
  · obtain ⟨z, k, r, rfl, _⟩ := h
    rfl
  · obtain ⟨z, k, r, rfl, hn, hq⟩ := h
    refine ⟨_, (pss_one (ps_ret (pe_ix (ix_tup' (K := K) rfl) (pe_co G_row_of (hr.mono (by decide)) rfl T.g_row_of T.k_row_of (takes_of rfl rfl rfl rfl) (pa_cons (pv 0) pa_nil)) pe_int (fun _ _ => rfl)))), ?_⟩
    exact ⟨_, rfl, z, k, r, rfl, hn, fun b hb => ⟨b, _, _, _, rfl, rfl, hb H, rfl, hq⟩⟩
theorem ok_wide_octets (T : Txt P K mg a) : CallO P w K mg base 1 (.ref a.wide_octets) (fun vs H Q _ => ∃ n : Int, vs = [.int n] ∧ 0 ≤ n ∧ n < 256 ∧ Giv K [.int n, .int 0, .int 0, .int 0] H Q) := by
  refine fnO (T.d_wide_octets.okX sc_wide_octets (fun vs H Q E h => ?_) (fun cdv A outer s H vs Q E hr h => ?_))
  · obtain ⟨n, rfl, _⟩ := h
    rfl
  · obtain ⟨n, rfl, h0, h1, hq⟩ := h
    refine ⟨_, (pss_one (ps_ret (pe_tup (pa_cons (pe_op op_mod (pv 0) pe_int) (pa_cons (pe_op op_mod (pe_op op_fdiv (pv 0) pe_int) pe_int) (pa_cons (pe_op op_mod (pe_op op_fdiv (pv 0) pe_int) pe_int) (pa_cons (pe_op op_mod (pe_op op_fdiv (pv 0) pe_int) pe_int) pa_nil))))))), ?_⟩
    have e1 : n % 256 = n := by omega
    have e2 : n / 256 % 256 = 0 := by omega
    have e3 : n / 65536 % 256 = 0 := by omega
    have e4 : n / 16777216 % 256 = 0 := by omega
    have m0 : (0 : Int) < 256 := by decide
    refine ⟨_, rfl, _, _, rfl, rfl, m0, _, rfl, _, _, rfl, rfl, ⟨by decide, by decide⟩, _, _, rfl, rfl, m0, _, rfl, _, _, rfl, rfl, ⟨by decide, by decide⟩, _, _, rfl, rfl, m0, _, rfl, _, _, rfl, rfl, ⟨by decide, by decide⟩, _, _, rfl, rfl, m0, (by show 4 ≤ sizeLine; decide), fun p hp => ?_⟩
    show Q (.ref p) (upd H p (.tup [.int (n % 256), .int (n / 256 % 256), .int (n / 65536 % 256), .int (n / 16777216 % 256)]))
    rw [e1, e2, e3, e4]
    exact hq p _ (Ex.new hp) (st_of upd_same)

/-- the codes of a text of plain signs -/
def codes (z : Str) : List V := z.cps.toList.map fun c => V.int (c : Nat)
def spCodes (K : PySem.W.Frag) : Sp := fun vs H Q _ => ∃ z : Str, vs = [.str z] ∧ z.length ≤ 100 ∧ Giv K (codes z) H Q
theorem eu_codes {σ : L2.St} {H : Hp} {te : TE} {z : Str} {j : Nat} {vs : List Nat} (h : Ev te σ H (.str z)) (hz : z.length ≤ 100) (hw : ∀ x, wipe ((wipe σ vs).set j (some x)) vs = wipe σ vs) (hj : ∀ x, ((wipe σ vs).set j (some x))[j]? = some (some x)) :
    EvL (tLc (iStr te) (gName j) tYes (tCB (fun xs H Q => ∃ x, xs = [.str x] ∧ x.length = 1 ∧ Q (.int (x.cps.getD 0 0 : Nat)) H) (tCons (tVar j) tNil)) vs) σ H (codes z) := by
  have hl : z.cps.toList.length ≤ 100 := by rw [Array.length_toList]; exact hz
  have := el_all (ei_str h) (fun x => match x with | .str y => V.int (y.cps.getD 0 0 : Nat) | _ => .non) (te := tCB (fun xs H Q => ∃ x, xs = [.str x] ∧ x.length = 1 ∧ Q (.int (x.cps.getD 0 0 : Nat)) H) (tCons (tVar j) tNil)) (j := j) (vs := vs) (by rw [List.length_map]; omega) hw (fun x hx H1 e => by
    obtain ⟨c, hc, rfl⟩ := List.mem_map.mp hx
    exact fun H2 e2 Q q => ⟨_, hj _, _, rfl, rfl, q H2 (Ex.refl _)⟩)
  rw [List.map_map] at this
  exact this
theorem ok_text_octets (T : Txt P K mg a) : CallO P w K mg base 1 (.ref a.text_octets) (spCodes K) := by
  refine fnO (T.d_text_octets.okX sc_text_octets (fun vs H Q E h => ?_) (fun cdv A outer s H vs Q E hr h => ?_))
  · obtain ⟨z, rfl, _⟩ := h
    rfl
  · obtain ⟨z, rfl, hz, hq⟩ := h
    refine ⟨_, (pss_one (ps_ret (pe_callTy call_tuple_of (by rfl) T.b_tuple (by decide +kernel) (pa_cons (pe_lc (own := [("sign", 1)]) (g := (gName 1)) (by rfl) sc_text_octets.nd (pi_str (pv 0)) (blkOk_by (own := [("sign", 1)]) (N := ["text", "sign"]) (sc := defScope s_text_octets) (by decide +kernel)) (fun _ _ _ _ _ => (pg_name (i := 1) sc_text_octets.nd rfl (Or.inl rfl))) (fun _ _ _ _ _ => pts_nil) (fun _ _ _ _ _ => (pe_callB call_ord (by rfl) T.b_ord (by decide +kernel) (pa_cons (pv 1) pa_nil)))) pa_nil)))), ?_⟩
    exact eu_tupL (eu_codes (ev_var rfl) hz (fun _ => rfl) (fun _ => rfl)) H (Ex.refl _) _ fun p H2 _ e hx => hq p H2 e (st_of hx)

end
end BJL

namespace BJL
open PySem PySem.Spec PyProof.Rows L2 BJ
section
variable {P : Program} {w : World} {K : PySem.W.Frag} {mg : Str → Option Value} {base : Heap} {a : Adr}
open Evl
theorem if_yes {b : Bool} {A B : Prop} (h : b = true) (x : A) : (if b = true then A else B) := by rw [if_pos h]; exact x
theorem if_no {b : Bool} {A B : Prop} (h : b = false) (x : B) : (if b = true then A else B) := by rw [h]; exact x
theorem ok_line_octets (T : Txt P K mg a) : CallO P w K mg base 2 (.ref a.line_octets) (fun vs H Q _ => vs = [.str "salt"] ∧ Giv K (codes "salt") H Q) := by
  have G_text_octets : CallO P w K mg base 1 (.ref a.text_octets) (spCodes K) := ok_text_octets T
  refine fnO (T.d_line_octets.okT sc_line_octets (by decide +kernel) (by decide) (fun vs H Q E h => ?_) (fun cdv A outer s H vs Q E hr h => ?_))
  · obtain ⟨rfl, _⟩ := h
    rfl
  · obtain ⟨rfl, hq⟩ := h
    refine ⟨_, CwR.psst_one (CwR.pst_ret (pet_co G_text_octets (hr.mono (by decide)) rfl T.g_text_octets T.k_text_octets (takes_of rfl rfl rfl rfl) (pat_cons2 (CwR.pet_replT (CwR.pet_replC (pv 0))) (PAT.of' pa_nil)))), ?_⟩
    have e1 : Txt.replace "salt" "\\" "\\\\" = "salt" := by decide +kernel
    have e2 : Txt.replace "salt" "\n" "\\n" = "salt" := by decide +kernel
    exact ⟨_, rfl, "salt", rfl, (by decide), "salt", congrArg V.str e1, (by decide), "salt", by rw [e2], (by decide), hq⟩
theorem es_if {K : PySem.W.Frag} {σ : L2.St} {H : Hp} {xs : List V} {tc : TT} {t1 t2 : TE} {b : Bool} (ht : EvT tc σ H b) (h1 : b = true → EvS K t1 σ H xs) (h2 : b = false → EvS K t2 σ H xs) : EvS K (tIf tc t1 t2) σ H xs :=
  fun H1 e Q q => ht H1 e _ fun H2 e2 => by
    cases b with
    | true => exact if_yes rfl (h1 rfl H2 (e.trans e2) Q fun p H3 e3 hp => q p H3 (e2.trans e3) hp)
    | false => exact if_no rfl (h2 rfl H2 (e.trans e2) Q fun p H3 e3 hp => q p H3 (e2.trans e3) hp)
theorem ev_inU {K : PySem.W.Frag} {σ : L2.St} {H : Hp} {x : V} {xs : List V} {ta tb : TE} (ha : Ev ta σ H x) (h : EvU tb σ H xs) (f1 : flatV x = true) (f2 : xs.all flatV = true) : Ev (tOp (rIn K false) ta tb) σ H (.bl (inV x xs)) :=
  fun H1 e Q q => ha H1 e _ fun H2 e2 => h H2 (e.trans e2) _ fun p H3 _ e3 hp => ⟨p, xs, rfl, .inr (st_of hp), f1, f2, q H3 (e2.trans e3)⟩
theorem ev_inK {K : PySem.W.Frag} {σ : L2.St} {H : Hp} {x : V} {xs : List V} {ta : TE} {b : Addr} (hk : rowN K b = some xs) (ha : Ev ta σ H x) (f1 : flatV x = true) (f2 : xs.all flatV = true) : Ev (tOp (rIn K false) ta (tC (.ref b))) σ H (.bl (inV x xs)) :=
  fun H1 e Q q => ha H1 e _ fun H2 e2 => ⟨b, xs, rfl, .inr (rowN_at hk H2), f1, f2, q H2 e2⟩
theorem ev_eqV {σ : L2.St} {H : Hp} {x y : V} {ta tb : TE} (ha : Ev ta σ H x) (hb : Ev tb σ H y) (hs : scal x y = true) : Ev (tOp rEq ta tb) σ H (.bl (decide (x = y))) :=
  fun H1 e Q q => ha H1 e _ fun H2 e2 => hb H2 (e.trans e2) _ fun H3 e3 => ⟨hs, q H3 (e2.trans e3)⟩
theorem Giv.mono {K : PySem.W.Frag} {xs : List V} {H H1 : Hp} {Q : VK} (h : Giv K xs H Q) (e : Ex H H1) : Giv K xs H1 Q := fun p H' e2 hp => h p H' (e.trans e2) hp
theorem es_run {K : PySem.W.Frag} {σ : L2.St} {H : Hp} {xs : List V} {te : TE} {Q : VK} (h : EvS K te σ H xs) (k : ∀ p H1, Ex H H1 → SqT K H1 p xs → Q (.ref p) H1) : te σ H Q := h H (Ex.refl _) _ k
theorem et_inU {K : PySem.W.Frag} {σ : L2.St} {H : Hp} {x : V} {xs : List V} {ta tb : TE} {b : Bool} (ha : Ev ta σ H x) (h : EvU tb σ H xs) (f1 : flatV x = true) (f2 : xs.all flatV = true) (hb : inV x xs = b) : EvT (tTest (tOp (rIn K false) ta tb)) σ H b := by
  subst hb
  exact et_test (ev_inU ha h f1 f2)
theorem et_inK {K : PySem.W.Frag} {σ : L2.St} {H : Hp} {x : V} {xs : List V} {ta : TE} {b : Addr} {c : Bool} (hk : rowN K b = some xs) (ha : Ev ta σ H x) (f1 : flatV x = true) (f2 : xs.all flatV = true) (hb : inV x xs = c) : EvT (tTest (tOp (rIn K false) ta (tC (.ref b)))) σ H c := by
  subst hb
  exact et_test (ev_inK hk ha f1 f2)
theorem et_eqV {σ : L2.St} {H : Hp} {x y : V} {ta tb : TE} {b : Bool} (ha : Ev ta σ H x) (hb : Ev tb σ H y) (hs : scal x y = true) (hd : decide (x = y) = b) : EvT (tTest (tOp rEq ta tb)) σ H b := by
  subst hd
  exact et_test (ev_eqV ha hb hs)
/-- the octets of an argument -/
def Arg (z : Str) (x : V) (l : List V) : Prop :=
  (z = "text-line" ∧ x = .str "salt" ∧ l = codes "salt" ++ [.int 10]) ∨ (z = "text-wide" ∧ x = .str "salt" ∧ l = [.int 4, .int 0, .int 0, .int 0] ++ codes "salt") ∨
  (z = "text-short" ∧ x = .str "salt" ∧ l = [.int 4] ++ codes "salt") ∨ (z = "integer-line" ∧ x = .int 5 ∧ l = [.int 53, .int 10]) ∨ (z = "integer-octet" ∧ x = .int 5 ∧ l = [.int 5]) ∨
  (z = "stop" ∧ x = .non ∧ l = []) ∨ (z = "version" ∧ ∃ v, x = .int v ∧ l = [.int v]) ∨ (z = "frame" ∧ ∃ n : Int, x = .int n ∧ 0 ≤ n ∧ n < 256 ∧ l = [.int n, .int 0, .int 0, .int 0])
def spOct (K : PySem.W.Frag) : Sp := fun vs H Q _ => ∃ z x l, vs = [.str z, x] ∧ Arg z x l ∧ Giv K l H Q
theorem ok_argument_octets (T : Txt P K mg a) (hw : a.par = w.params) : CallO P w K mg base 3 (.ref a.argument_octets) (spOct K) := by
  have G_argument_form : CallO P w K mg base 2 (.ref a.argument_form) spForm := ok_argument_form T hw
  have G_line_octets : CallO P w K mg base 2 (.ref a.line_octets) (fun vs H Q _ => vs = [.str "salt"] ∧ Giv K (codes "salt") H Q) := ok_line_octets T
  have G_text_octets : CallO P w K mg base 1 (.ref a.text_octets) (spCodes K) := ok_text_octets T
  have G_wide_octets := ok_wide_octets (w := w) (base := base) T
  refine fnO (T.d_argument_octets.okX sc_argument_octets (fun vs H Q E h => ?_) (fun cdv A outer s H vs Q E hr h => ?_))
  · obtain ⟨z, x, l, rfl, _⟩ := h
    rfl
  · obtain ⟨z, x, l, rfl, ha, hq⟩ := h
    refine ⟨_, (pss_cons (ps_set (i := 2) sc_argument_octets.nd rfl (Or.inl rfl) (pe_co G_argument_form (hr.mono (by decide)) rfl T.g_argument_form T.k_argument_form (takes_of rfl rfl rfl rfl) (pa_cons (pv 0) pa_nil)))
 (pss_cons (ps_if (pt_cmpR op_eq (pv 2) pe_str (nomark _))
 (pss_cons (ps_if (pt_cmpR op_in_seq (pv 0) (pe_glob (v := .ref a.OCTET_ROWS) (by rfl) T.g_OCTET_ROWS rfl) (by rfl))
 (pss_one ps_dead)
 pss_nil)
 (pss_cons (ps_set (i := 3) sc_argument_octets.nd rfl (Or.inl rfl) (pe_cmpR op_in_seq (pv 0) (pe_glob (v := .ref a.LINE_TEXTS) (by rfl) T.g_LINE_TEXTS rfl) (by rfl)))
 (pss_one (ps_ret (pe_op op_catA (pe_ifExp (pt_val (pv 3)) (pe_co G_line_octets (hr.mono (by decide)) rfl T.g_line_octets T.k_line_octets (takes_of rfl rfl rfl rfl) (pa_cons (pv 1) pa_nil)) (pe_co G_text_octets (hr.mono (by decide)) rfl T.g_text_octets T.k_text_octets (takes_of rfl rfl rfl rfl) (pa_cons (pe_callTy call_str_int (by rfl) T.b_str (by decide +kernel) (pa_cons (pv 1) pa_nil)) pa_nil))) (pe_tup (pa_cons (pe_glob (v := .int (10)) (by rfl) T.c_NEWLINE.choose_spec ⟨_, rfl⟩) pa_nil)))))))
 pss_nil)
 (pss_cons (ps_if (pt_cmpR op_in_seq (pv 2) (pe_tup (pa_cons pe_str (pa_cons pe_str pa_nil))) (by rfl))
 (pss_one (ps_ret (pe_ifExp (pt_cmpR op_eq (pv 2) pe_str (nomark _)) (pe_tup pa_nil) (pe_tup (pa_cons (pv 1) pa_nil)))))
 pss_nil)
 (pss_cons (ps_if (pt_cmpR op_eq (pv 2) pe_str (nomark _))
 (pss_one (ps_ret (pe_co G_wide_octets (hr.mono (by decide)) rfl T.g_wide_octets T.k_wide_octets (takes_of rfl rfl rfl rfl) (pa_cons (pv 1) pa_nil))))
 pss_nil)
 (pss_cons (ps_if (pt_cmpR op_eq (pv 0) pe_str (nomark _))
 (pss_cons ps_dead
 (pss_one ps_dead))
 pss_nil)
 (pss_cons (ps_set (i := 4) sc_argument_octets.nd rfl (Or.inl rfl) (pe_ifExp (pt_cmpR op_in_seq (pv 0) (pe_glob (v := .ref a.OCTET_ROWS) (by rfl) T.g_OCTET_ROWS rfl) (by rfl)) (pv 1) (pe_co G_text_octets (hr.mono (by decide)) rfl T.g_text_octets T.k_text_octets (takes_of rfl rfl rfl rfl) (pa_cons (pv 1) pa_nil))))
 (pss_one (ps_ret (pe_op op_catA (pe_ifExp (pt_cmpR op_eq (pv 2) pe_str (nomark _)) (pe_tup (pa_cons (pe_callB call_len_seq (by rfl) T.b_len (by decide +kernel) (pa_cons (pv 4) pa_nil)) pa_nil)) (pe_co G_wide_octets (hr.mono (by decide)) rfl T.g_wide_octets T.k_wide_octets (takes_of rfl rfl rfl rfl) (pa_cons (pe_callB call_len_seq (by rfl) T.b_len (by decide +kernel) (pa_cons (pv 4) pa_nil)) pa_nil))) (pv 4)))))))))), ?_⟩
    rcases ha with ⟨rfl, rfl, rfl⟩ | ⟨rfl, rfl, rfl⟩ | ⟨rfl, rfl, rfl⟩ | ⟨rfl, rfl, rfl⟩ | ⟨rfl, rfl, rfl⟩ | ⟨rfl, rfl, rfl⟩ | ⟨rfl, v, rfl, rfl⟩ | ⟨rfl, n, rfl, n0, n1, rfl⟩
    · refine ⟨_, rfl, "text-line", 9, ("text-line", 1, "line"), rfl, ⟨by decide +kernel, by decide +kernel⟩, _, rfl, rfl, _, rfl, if_yes (by decide +kernel) ?_⟩
      refine ⟨_, rfl, a.OCTET_ROWS, _, rfl, .inr (rowN_at T.octrows H), rfl, rfl, _, rfl, if_no (by decide +kernel) ?_⟩
      refine ⟨_, rfl, a.LINE_TEXTS, _, rfl, .inr (rowN_at T.linetexts H), rfl, rfl, ?_⟩
      exact es_end (es_cat (xs := codes "salt") (ys := [.int 10]) (es_if (b := true) (et_B (ev_is (ev_var rfl) (by decide +kernel))) (fun _ => es_call (ea_cons (ev_var rfl) ea_nil) fun H1 Q E e q => ⟨rfl, q⟩) (fun z => nomatch z)) (es_U (eu_tup (ea_cons (ev_c) ea_nil) (by decide))) (by decide)) hq
    · refine ⟨_, rfl, "text-wide", 10, ("text-wide", 2, "wide counted"), rfl, ⟨by decide +kernel, by decide +kernel⟩, _, rfl, rfl, _, rfl, if_no (by decide +kernel) ?_⟩
      refine q_when (b := false) (et_inU (x := .str "wide counted") (xs := [.str "none", .str "octet"]) (ev_var rfl) (eu_tup (ea_cons ev_c (ea_cons ev_c ea_nil)) (by decide)) rfl rfl (by decide +kernel)) (fun z => nomatch z) fun _ H1 e1 => ?_
      refine q_when (b := false) (et_eqV (x := .str "wide counted") (y := .str "wide") (ev_var rfl) ev_c rfl (by decide +kernel)) (fun z => nomatch z) fun _ H2 e2 => ?_
      refine q_when (b := false) (et_eqV (x := .str "text-wide") (y := .str "integer-counted") (ev_var rfl) ev_c rfl (by decide +kernel)) (fun z => nomatch z) fun _ H3 e3 => ?_
      refine es_run (es_if (xs := codes "salt") (b := false) (et_inK T.octrows (x := .str "text-wide") (ev_var rfl) rfl rfl (by decide +kernel)) (fun z => nomatch z) (fun _ => es_call (ea_cons (ev_var rfl) ea_nil) fun H1 Q E e q => ⟨_, rfl, (by decide), q⟩)) fun p H4 e4 hp => ?_
      exact es_end (es_cat (xs := [.int 4, .int 0, .int 0, .int 0]) (ys := codes "salt") (es_if (b := false) (et_eqV (x := .str "wide counted") (y := .str "counted") (ev_var rfl) ev_c rfl (by decide +kernel)) (fun z => nomatch z) (fun _ => es_call (vs := [.int 4]) (ea_cons (ev_cb (ea_cons (ev_var rfl) ea_nil) (fun H1 e Q q => ⟨p, codes "salt", rfl, .inr (ex_t e hp), q H1 (Ex.refl _)⟩)) ea_nil) fun H1 Q E e q => ⟨4, rfl, by decide, by decide, q⟩)) (es_var rfl hp) (by decide)) (hq.mono (((e1.trans e2).trans e3).trans e4))
    · refine ⟨_, rfl, "text-short", 11, ("text-short", 3, "counted"), rfl, ⟨by decide +kernel, by decide +kernel⟩, _, rfl, rfl, _, rfl, if_no (by decide +kernel) ?_⟩
      refine q_when (b := false) (et_inU (x := .str "counted") (xs := [.str "none", .str "octet"]) (ev_var rfl) (eu_tup (ea_cons ev_c (ea_cons ev_c ea_nil)) (by decide)) rfl rfl (by decide +kernel)) (fun z => nomatch z) fun _ H1 e1 => ?_
      refine q_when (b := false) (et_eqV (x := .str "counted") (y := .str "wide") (ev_var rfl) ev_c rfl (by decide +kernel)) (fun z => nomatch z) fun _ H2 e2 => ?_
      refine q_when (b := false) (et_eqV (x := .str "text-short") (y := .str "integer-counted") (ev_var rfl) ev_c rfl (by decide +kernel)) (fun z => nomatch z) fun _ H3 e3 => ?_
      refine es_run (es_if (xs := codes "salt") (b := false) (et_inK T.octrows (x := .str "text-short") (ev_var rfl) rfl rfl (by decide +kernel)) (fun z => nomatch z) (fun _ => es_call (ea_cons (ev_var rfl) ea_nil) fun H1 Q E e q => ⟨_, rfl, (by decide), q⟩)) fun p H4 e4 hp => ?_
      exact es_end (es_cat (xs := [.int 4]) (ys := codes "salt") (es_if (b := true) (et_eqV (x := .str "counted") (y := .str "counted") (ev_var rfl) ev_c rfl (by decide +kernel)) (fun _ => es_U (eu_tup (ea_cons (ev_cb (ea_cons (ev_var rfl) ea_nil) (fun H1 e Q q => ⟨p, codes "salt", rfl, .inr (ex_t e hp), q H1 (Ex.refl _)⟩)) ea_nil) (by decide))) (fun z => nomatch z)) (es_var rfl hp) (by decide)) (hq.mono (((e1.trans e2).trans e3).trans e4))
    · refine ⟨_, rfl, "integer-line", 6, ("integer-line", 1, "line"), rfl, ⟨by decide +kernel, by decide +kernel⟩, _, rfl, rfl, _, rfl, if_yes (by decide +kernel) ?_⟩
      refine ⟨_, rfl, a.OCTET_ROWS, _, rfl, .inr (rowN_at T.octrows H), rfl, rfl, _, rfl, if_no (by decide +kernel) ?_⟩
      refine ⟨_, rfl, a.LINE_TEXTS, _, rfl, .inr (rowN_at T.linetexts H), rfl, rfl, ?_⟩
      exact es_end (es_cat (xs := [.int 53]) (ys := [.int 10]) (es_if (b := false) (et_B (ev_is (ev_var rfl) (by decide +kernel))) (fun z => nomatch z) (fun _ => es_call (vs := [.str (Str.ofString (toString (5 : Int)))]) (ea_cons (ev_cb (ea_cons (ev_var rfl) ea_nil) (fun H1 e Q q => ⟨5, rfl, by decide, q H1 (Ex.refl _)⟩)) ea_nil) fun H1 Q E e q => ⟨_, rfl, (by decide), q⟩)) (es_U (eu_tup (ea_cons (ev_c) ea_nil) (by decide))) (by decide)) hq
    · refine ⟨_, rfl, "integer-octet", 7, ("integer-octet", 2, "octet"), rfl, ⟨by decide +kernel, by decide +kernel⟩, _, rfl, rfl, _, rfl, if_no (by decide +kernel) ?_⟩
      refine q_when (b := true) (et_inU (x := .str "octet") (xs := [.str "none", .str "octet"]) (ev_var rfl) (eu_tup (ea_cons ev_c (ea_cons ev_c ea_nil)) (by decide)) rfl rfl (by decide +kernel)) (fun _ H1 e1 => ?_) (fun z => nomatch z)
      exact es_end (es_if (xs := [.int 5]) (b := false) (et_eqV (x := .str "octet") (y := .str "none") (ev_var rfl) ev_c rfl (by decide +kernel)) (fun z => nomatch z) (fun _ => es_U (eu_tup (ea_cons (ev_var rfl) ea_nil) (by decide)))) (hq.mono e1)
    · refine ⟨_, rfl, "stop", 0, ("stop", 1, "none"), rfl, ⟨by decide +kernel, by decide +kernel⟩, _, rfl, rfl, _, rfl, if_no (by decide +kernel) ?_⟩
      refine q_when (b := true) (et_inU (x := .str "none") (xs := [.str "none", .str "octet"]) (ev_var rfl) (eu_tup (ea_cons ev_c (ea_cons ev_c ea_nil)) (by decide)) rfl rfl (by decide +kernel)) (fun _ H1 e1 => ?_) (fun z => nomatch z)
      exact es_end (es_if (xs := []) (b := true) (et_eqV (x := .str "none") (y := .str "none") (ev_var rfl) ev_c rfl (by decide +kernel)) (fun _ => es_U (eu_tup ea_nil (by decide))) (fun z => nomatch z)) (hq.mono e1)
    · refine ⟨_, rfl, "version", 1, ("version", 2, "octet"), rfl, ⟨by decide +kernel, by decide +kernel⟩, _, rfl, rfl, _, rfl, if_no (by decide +kernel) ?_⟩
      refine q_when (b := true) (et_inU (x := .str "octet") (xs := [.str "none", .str "octet"]) (ev_var rfl) (eu_tup (ea_cons ev_c (ea_cons ev_c ea_nil)) (by decide)) rfl rfl (by decide +kernel)) (fun _ H1 e1 => ?_) (fun z => nomatch z)
      exact es_end (es_if (xs := [.int v]) (b := false) (et_eqV (x := .str "octet") (y := .str "none") (ev_var rfl) ev_c rfl (by decide +kernel)) (fun z => nomatch z) (fun _ => es_U (eu_tup (ea_cons (ev_var rfl) ea_nil) (by simp)))) (hq.mono e1)
    · refine ⟨_, rfl, "frame", 2, ("frame", 4, "wide"), rfl, ⟨by decide +kernel, by decide +kernel⟩, _, rfl, rfl, _, rfl, if_no (by decide +kernel) ?_⟩
      refine q_when (b := false) (et_inU (x := .str "wide") (xs := [.str "none", .str "octet"]) (ev_var rfl) (eu_tup (ea_cons ev_c (ea_cons ev_c ea_nil)) (by decide)) rfl rfl (by decide +kernel)) (fun z => nomatch z) fun _ H1 e1 => ?_
      refine q_when (b := true) (et_eqV (x := .str "wide") (y := .str "wide") (ev_var rfl) ev_c rfl (by decide +kernel)) (fun _ H2 e2 => ?_) (fun z => nomatch z)
      exact es_end (es_call (ea_cons (ev_var rfl) ea_nil) fun H1 Q E e q => ⟨n, rfl, n0, n1, q⟩) (hq.mono (e1.trans e2))

end
end BJL

namespace BJL
open PySem PySem.Spec PyProof.Rows L2 BJ
section
variable {P : Program} {w : World} {K : PySem.W.Frag} {mg : Str → Option Value} {base : Heap} {a : Adr}
open Evl
def OctL (n : Nat) (is : List Int) : Prop := is.length ≤ n ∧ ∀ i ∈ is, 0 ≤ i ∧ i < 256
/-- some tuple of octets -/
def GivO (n : Nat) (K : PySem.W.Frag) (H : Hp) (Q : VK) : Prop := ∀ p H' is, Ex H H' → SqT K H' p (is.map V.int) → OctL n is → Q (.ref p) H'
theorem salt_codes : codes "salt" = [.int 115, .int 97, .int 108, .int 116] := by decide +kernel
theorem arg_len {z : Str} {x : V} {l : List V} (h : Arg z x l) : l.length ≤ 10 := by
  unfold Arg at h
  rcases h with ⟨_, _, rfl⟩ | ⟨_, _, rfl⟩ | ⟨_, _, rfl⟩ | ⟨_, _, rfl⟩ | ⟨_, _, rfl⟩ | ⟨_, _, rfl⟩ | ⟨_, v, _, rfl⟩ | ⟨_, n, _, _, _, rfl⟩ <;> simp [salt_codes]
def spEnc (K : PySem.W.Frag) : Sp := fun vs H Q _ => ∃ (z : Str) (x : V) (l : List V) (k : Int), vs = [.str z, x] ∧ Arg z x l ∧ numL.lookup z = some (.int k) ∧ Giv K (.int k :: l) H Q
theorem ok_encoded (T : Txt P K mg a) (hw : a.par = w.params) : CallO P w K mg base 4 (.ref a.encoded) (spEnc K) := by
  have nums : KDL K w.params a.NUMBERS numL := hw ▸ T.nums
  have G_argument_octets : CallO P w K mg base 3 (.ref a.argument_octets) (spOct K) := ok_argument_octets T hw
  refine fnO (T.d_encoded.okX sc_encoded (fun vs H Q E h => ?_) (fun cdv A outer s H vs Q E hr h => ?_))
  · obtain ⟨z, x, l, k, rfl, _⟩ := h
    rfl
  · obtain ⟨z, x, l, k, rfl, ha, hk, hq⟩ := h
    refine ⟨_, (pss_one (ps_ret (pe_op op_catA (pe_tup (pa_cons (pe_ixDX rfl (takes_of rfl rfl rfl rfl) (pe_glob (v := .ref a.NUMBERS) (by rfl) T.g_NUMBERS rfl) (pv 0) (fun _ _ => rfl)) pa_nil)) (pe_co G_argument_octets (hr.mono (by decide)) rfl T.g_argument_octets T.k_argument_octets (takes_of rfl rfl rfl rfl) (pa_cons (pv 0) (pa_cons (pv 1) pa_nil)))))), ?_⟩
    have kd := num_at nums hk
    exact es_end (es_cat (xs := [.int k]) (ys := l) (es_U (eu_tup (ea_cons (fun H1 e Q q => ⟨_, rfl, a.NUMBERS, z, rfl, rfl, .inl ⟨_, kd, q H1 (Ex.refl _)⟩⟩) ea_nil) (by show 1 ≤ 100000; decide))) (es_call (ea_cons (ev_var rfl) (ea_cons (ev_var rfl) ea_nil)) fun H1 Q E e q => ⟨z, x, l, rfl, ha, q⟩) (by have := arg_len ha; show 1 + l.length ≤ 1000000; omega)) hq

end
end BJL

namespace BJL
open PySem PySem.Spec PyProof.Rows L2 BJ
section
variable {P : Program} {w : World} {K : PySem.W.Frag} {mg : Str → Option Value} {base : Heap} {a : Adr}
open Evl
theorem dp_ints {K : PySem.W.Frag} {H : Hp} {p : Addr} {is : List Int} (h : H p = some (.lst (is.map V.int))) : Dp K H (.ref p) (.list (is.map PyData.int)) := .lst (sq_of h) (dpAll_int is)
def spFr (K : PySem.W.Frag) : Sp := fun vs H Q _ => ∃ (p : Addr) (ts : List Addr) (xss : List (List V)) (is : List Int), vs = [.ref p] ∧ SqL K H p (ts.map V.ref) ∧ Tups K H ts xss ∧ xss.flatten = is.map V.int ∧ 0 < is.length ∧ is.length ≤ 40 ∧ (∀ i ∈ is, 0 ≤ i ∧ i < 256) ∧ GivO 60 K H Q
theorem ok_framed (T : Txt P K mg a) (hw : a.par = w.params) : CallO P w K mg base 5 (.ref a.framed) (spFr K) := by
  have G_encoded : CallO P w K mg base 4 (.ref a.encoded) (spEnc K) := ok_encoded T hw
  refine fnO (T.d_framed.okX sc_framed (fun vs H Q E h => ?_) (fun cdv A outer s H vs Q E hr h => ?_))
  · obtain ⟨p, ts, xss, is, rfl, _⟩ := h
    rfl
  · obtain ⟨p, ts, xss, is, rfl, hp, hT, hx, h0, h1, hb, hq⟩ := h
    refine ⟨_, (pss_cons (ps_par (i := 1) (j := 2) rfl sc_framed.nd rfl rfl (by decide) rfl rfl (pa_cons (pe_lst pa_nil) (pa_cons (pe_lst pa_nil) pa_nil)) (by rfl))
 (pss_cons (ps_for (passes_of rfl) rfl (pi_list (pv 0)) (pg_name (i := 3) sc_framed.nd rfl (Or.inl rfl))
 (pss_cons (ps_expr (pe_bm PySem.F.plainAttrs_list PySem.F.slot_list_extend PySem.F.type_list_extend mt_extendS (pv 2) (pa_cons (pv 3) pa_nil)))
 (pss_one (ps_if (pt_cmpR op_ge (pe_callB call_len_seq (by rfl) T.b_len (by decide +kernel) (pa_cons (pv 2) pa_nil)) (pe_glob (v := .int (64)) (by rfl) T.c_LEAST_FRAME.choose_spec ⟨_, rfl⟩) (nomark _))
 (pss_cons (ps_expr (pe_bm PySem.F.plainAttrs_list PySem.F.slot_list_extend PySem.F.type_list_extend mt_extendS (pv 1) (pa_cons (pe_co G_encoded (hr.mono (by decide)) rfl T.g_encoded T.k_encoded (takes_of rfl rfl rfl rfl) (pa_cons pe_str (pa_cons (pe_callB call_len_seq (by rfl) T.b_len (by decide +kernel) (pa_cons (pv 2) pa_nil)) pa_nil))) pa_nil)))
 (pss_cons (ps_expr (pe_bm PySem.F.plainAttrs_list PySem.F.slot_list_extend PySem.F.type_list_extend mt_extend (pv 1) (pa_cons (pv 2) pa_nil)))
 (pss_one ps_dead)))
 pss_nil))))
 (pss_cons (ps_if (pt_cmpR (op_neD' (K := K) rfl hr.units) (pv 2) (pe_lst pa_nil) (nomark _))
 (pss_cons (ps_expr (pe_bm PySem.F.plainAttrs_list PySem.F.slot_list_extend PySem.F.type_list_extend mt_extendS (pv 1) (pa_cons (pe_co G_encoded (hr.mono (by decide)) rfl T.g_encoded T.k_encoded (takes_of rfl rfl rfl rfl) (pa_cons pe_str (pa_cons (pe_callB call_len_seq (by rfl) T.b_len (by decide +kernel) (pa_cons (pv 2) pa_nil)) pa_nil))) pa_nil)))
 (pss_one (ps_expr (pe_bm PySem.F.plainAttrs_list PySem.F.slot_list_extend PySem.F.type_list_extend mt_extend (pv 1) (pa_cons (pv 2) pa_nil)))))
 pss_nil)
 (pss_one (ps_ret (pe_callTy call_tuple_of (by rfl) T.b_tuple (by decide +kernel) (pa_cons (pv 1) pa_nil))))))), ?_⟩
    have hlen : xss.flatten.length = is.length := by rw [hx, List.length_map]
    refine ⟨Nat.zero_le _, fun f nf => ⟨Nat.zero_le _, fun q nq => ⟨_, _, rfl, ?_⟩⟩⟩
    have e1 := (Ex.new (o := .lst []) nf).trans (Ex.new (o := .lst []) nq)
    have nqH : H q = none := fresh_back (Ex.new (o := .lst []) nf) nq
    have fq : f ≠ q := fun z => by rw [← z, upd_same] at nq; cases nq
    refine ⟨_, rfl, p, rfl, ⟨_, ex_l e1 hp⟩, for_list (K := K) (a := p) (xs := ts.map V.ref) (fun i σ' H' => (∃ o, σ' = [some (.ref p), some (.ref f), some (.ref q), o]) ∧ Ex H H' ∧ H' f = some (.lst []) ∧ H' q = some (.lst (xss.take i).flatten)) ⟨⟨_, rfl⟩, e1, by rw [upd_ne fq]; exact upd_same, upd_same⟩ (fun i σ' H' _ h => ex_l h.2.1 hp) (fun i x σ' H' hx' h => ?_) fun σ' H' h => ?_⟩
    · obtain ⟨⟨o, rfl⟩, e', hf', hq'⟩ := h
      have hi : i < xss.length := by
        have := (List.getElem?_eq_some_iff.mp hx').1
        rw [List.length_map, hT.len] at this
        exact this
      obtain ⟨xi, hxi⟩ : ∃ xi, xss[i]? = some xi := ⟨_, List.getElem?_eq_getElem hi⟩
      obtain ⟨t, ht, hs⟩ := hT.get i xi hxi
      rw [List.getElem?_map, ht] at hx'
      cases hx'
      have ht := take_flat hxi
      have hsz := sum_take xss (i + 1)
      rw [ht, List.length_append] at hsz
      refine ⟨_, rfl, .inl ⟨rfl, _, sq_of hq'⟩, _, rfl, q, t, _, xi, rfl, rfl, hq', ex_t e' hs, (by rw [sizeLine_eq]; omega), ?_⟩
      rw [← ht]
      dsimp only
      refine s_when (b := false) (et_is (et_test (ev_op (ev_cb (ea_cons (ev_var rfl) ea_nil) (fun H1 e Q q2 => ⟨q, _, rfl, .inl (sq_of (e _ _ upd_same)), q2 H1 (Ex.refl _)⟩)) ev_c rv_I0)) (decide_eq_false ?_)) (fun z => nomatch z) fun _ H2 e2 => ⟨⟨_, rfl⟩, (Ex.mut e' nqH).trans e2, e2 _ _ (by rw [upd_ne fq]; exact hf'), e2 _ _ upd_same⟩
      have hsz2 := sum_take xss (i + 1)
      omega
    · obtain ⟨⟨o, rfl⟩, e', hf', hq'⟩ := h
      rw [List.length_map, hT.len, List.take_length, hx] at hq'
      have Dn : Dp K H' (.ref q) (.list (is.map PyData.int)) := dp_ints hq'
      dsimp only
      refine q_if (b := true) (et_is (et_test (fun H1 e Q q2 => ⟨_, rfl, Nat.zero_le _, fun n nn => ⟨_, _, dp_ex (e.trans (Ex.new nn)) Dn, dp_ints (is := []) upd_same, dL_shaped is, rfl, q2 _ (Ex.new nn)⟩⟩)) ?_) (fun _ H1 e2 => ?_) (fun z => nomatch z)
      · cases is with
        | nil => exact absurd h0 (Nat.lt_irrefl _)
        | cons i r => rfl
      · dsimp only
        have hq1 := e2 _ _ hq'
        have hf1 := e2 _ _ hf'
        refine q_extS (xs := []) (zs := [.int 162, .int (is.length : Int), .int 0, .int 0, .int 0]) hf1 (ev_var rfl) (es_call (vs := [.str "frame", .int (is.length : Int)]) (ea_cons ev_c (ea_cons (ev_cb (ea_cons (ev_var rfl) ea_nil) (fun H2 e Q q2 => ⟨q, _, rfl, .inl (sq_of (e _ _ hq1)), by rw [List.length_map]; exact q2 H2 (Ex.refl _)⟩)) ea_nil)) fun H2 Q E e q2 => ⟨"frame", _, _, 162, rfl, .inr (.inr (.inr (.inr (.inr (.inr (.inr ⟨rfl, _, rfl, by omega, by omega, rfl⟩)))))), by decide +kernel, q2⟩) (by show 0 + 5 ≤ 100000; decide) fun H2 e3 => ?_
        refine ⟨_, rfl, .inl ⟨rfl, _, sq_of upd_same⟩, _, rfl, f, q, _, _, rfl, rfl, upd_same, (by rw [upd_ne fq.symm]; exact e3 _ _ hq1), (by rw [List.length_map, sizeLine_eq]; show 5 + is.length ≤ _; omega), ?_⟩
        refine ⟨_, rfl, f, _, rfl, .inl ⟨sq_of upd_same, fun l nl => ?_⟩⟩
        refine hq l _ (162 :: (is.length : Int) :: 0 :: 0 :: 0 :: is) ((Ex.mut (Ex.mut ((e'.trans e2).trans e3) nf) nf).trans (Ex.new nl)) (st_of upd_same) ⟨by show is.length + 1 + 1 + 1 + 1 + 1 ≤ 60; omega, fun i hi => ?_⟩
        simp only [List.mem_cons] at hi
        rcases hi with rfl | rfl | rfl | rfl | rfl | hi
        · omega
        · omega
        · omega
        · omega
        · omega
        · exact hb i hi

end
end BJL

namespace BJL
open PySem PySem.Spec PyProof.Rows L2 BJ
section
variable {P : Program} {w : World} {K : PySem.W.Frag} {mg : Str → Option Value} {base : Heap} {a : Adr}
open Evl
/-- a row's octets -/
def Row8 (z : Str) (x : V) (is : List Int) : Prop := (∃ l k, Arg z x l ∧ numL.lookup z = some (.int k) ∧ (V.int k :: l) = is.map V.int) ∧ is.length ≤ 12 ∧ 0 < is.length ∧ ∀ i ∈ is, 0 ≤ i ∧ i < 256
theorem stop8 : Row8 "stop" .non [160] := ⟨⟨[], 160, .inr (.inr (.inr (.inr (.inr (.inl ⟨rfl, rfl, rfl⟩))))), by decide +kernel, rfl⟩, by decide, by decide, fun i hi => by rw [List.mem_singleton.mp hi]; decide⟩
def pieceF (is : List Int) (q : Key × V) : List V := if q.1 = .inr "stop" then [.int 160] else is.map V.int
def spLo (K : PySem.W.Frag) : Sp := fun vs H Q _ => ∃ (p : Addr) (ts : List Addr) (v : Int) (z : Str) (x : V) (is : List Int), vs = [.ref p, .int v] ∧ Ver v ∧ SqL K H p (ts.map V.ref) ∧ Prs H ts [(.inr z, x), (.inr "stop", .non)] ∧ z ≠ "stop" ∧ Row8 z x is ∧ GivO 100 K H Q
theorem es_enc {K : PySem.W.Frag} {σ : L2.St} {H : Hp} {W : WX} {ta : TA} {z : Str} {x : V} {is : List Int} (ha : EvA ta σ H [.str z, x]) (h : Row8 z x is) : EvS K (tCa (spEnc K) W ta) σ H (is.map V.int) := by
  obtain ⟨⟨l, k, a1, a2, a3⟩, _⟩ := h
  rw [← a3]
  exact es_call ha fun H1 Q E e q => ⟨z, x, l, k, rfl, a1, a2, q⟩
theorem ver8 {v : Int} (h : Ver v) : Row8 "version" (.int v) [161, v] := ⟨⟨[.int v], 161, .inr (.inr (.inr (.inr (.inr (.inr (.inl ⟨rfl, v, rfl, rfl⟩)))))), by decide +kernel, rfl⟩, (by show 2 ≤ 12; decide), (by show 0 < 2; decide), fun i hi => by
  have := h.1; have := h.2
  simp only [List.mem_cons, List.not_mem_nil, or_false] at hi
  rcases hi with rfl | rfl <;> omega⟩
theorem ok_laid_out (T : Txt P K mg a) (hw : a.par = w.params) : CallO P w K mg base 6 (.ref a.laid_out) (spLo K) := by
  have G_encoded : CallO P w K mg base 4 (.ref a.encoded) (spEnc K) := ok_encoded T hw
  have G_framed : CallO P w K mg base 5 (.ref a.framed) (spFr K) := ok_framed T hw
  refine fnO (T.d_laid_out.okX sc_laid_out (fun vs H Q E h => ?_) (fun cdv A outer s H vs Q E hr h => ?_))
  · obtain ⟨p, ts, v, z, x, is, rfl, _⟩ := h
    rfl
  · obtain ⟨p, ts, v, z, x, is, rfl, hv, hp, hP, hz, h8, hq⟩ := h
    refine ⟨_, (pss_cons (ps_setLc (i := 2) (own := [("name", 3), ("argument", 4)]) (g := (gTup K 2 (gCons (gName 3) (gCons (gName 4) gNil)))) (by rfl) sc_laid_out.nd rfl rfl (sw_true rfl rfl rfl (by decide +kernel)) (pi_list (pv 0)) (blkOk_by (own := [("name", 3), ("argument", 4)]) (N := ["rows", "version", "pieces", "name", "argument", "head", "piece", "octet"]) (sc := defScope s_laid_out) (by decide +kernel)) (fun _ _ _ _ _ => (pg_tup rfl (pgs_cons (pg_name (i := 3) sc_laid_out.nd rfl (Or.inl rfl)) (pgs_cons (pg_name (i := 4) sc_laid_out.nd rfl (Or.inl rfl)) pgs_nil)))) (fun _ _ _ _ _ => pts_nil) (fun _ _ _ _ _ => (pe_co G_encoded (hr.mono (by decide)) rfl T.g_encoded T.k_encoded tkN (pa_cons (pv 3) (pa_cons (pv 4) pa_nil)))))
 (pss_cons (ps_if (pt_cmpR op_eq (pv 1) pe_int (nomark _))
 (pss_one (ps_ret (pe_op op_catA (pe_co G_encoded (hr.mono (by decide)) rfl T.g_encoded T.k_encoded (takes_of rfl rfl rfl rfl) (pa_cons pe_str (pa_cons (pv 1) pa_nil))) (pe_co G_framed (hr.mono (by decide)) rfl T.g_framed T.k_framed (takes_of rfl rfl rfl rfl) (pa_cons (pv 2) pa_nil)))))
 pss_nil)
 (pss_cons (ps_set (i := 5) sc_laid_out.nd rfl (Or.inl rfl) (pe_ifExp (pt_cmpR op_eq (pv 1) pe_int (nomark _)) (pe_lst pa_nil) (pe_lst (pa_cons (pe_co G_encoded (hr.mono (by decide)) rfl T.g_encoded T.k_encoded (takes_of rfl rfl rfl rfl) (pa_cons pe_str (pa_cons (pv 1) pa_nil))) pa_nil))))
 (pss_one (ps_ret (pe_callTy call_tuple_of (by rfl) T.b_tuple (by decide +kernel) (pa_cons (pe_lc2 (own := [("piece", 6), ("octet", 7)]) (vs1 := [7]) (g := (gName 6)) (g1 := (gName 7)) (by rfl) sc_laid_out.nd (pi_list (pe_op op_catS (pv 5) (pv 2))) (blkOk_by (own := [("piece", 6), ("octet", 7)]) (N := ["rows", "version", "pieces", "name", "argument", "head", "piece", "octet"]) (sc := defScope s_laid_out) (by decide +kernel)) (by decide) (fun _ _ _ _ _ => (pg_name (i := 6) sc_laid_out.nd rfl (Or.inl rfl))) (fun _ _ _ _ _ => pts_nil) (fun _ _ _ _ _ => (pi_tup' (K := K) rfl (pv 6))) (fun _ _ _ _ _ => (pg_name (i := 7) sc_laid_out.nd rfl (Or.inl rfl))) (fun _ _ _ _ _ => pts_nil) (fun _ _ _ _ _ => (pv 7))) pa_nil))))))), ?_⟩
    have hz1 : pieceF is (.inr z, x) = is.map V.int := if_neg fun e => hz (Sum.inr.inj e)
    have ess := ess_prs (K := K) (σ := [some (.ref p), some (.int v), none, none, none, none, none, none]) (H := H) (vs := [3, 4]) (j := 3) (l := 4) (wi := iList K (tVar 0)) (te := tCa (spEnc K) (fun _ _ _ _ => False) (tCons (tVar 3) (tCons (tVar 4) tNil))) (ei_list (ev_var rfl) hp) hP (pieceF is) (by show 2 ≤ 100000; decide) (fun _ _ => rfl) (fun q hq1 H1 e1 => by
      simp only [List.mem_cons, List.not_mem_nil, or_false] at hq1
      rcases hq1 with rfl | rfl
      · rw [hz1]
        exact es_enc (ea_cons (ev_var rfl) (ea_cons (ev_var rfl) ea_nil)) h8
      · exact es_enc (is := [160]) (ea_cons (ev_var rfl) (ea_cons (ev_var rfl) ea_nil)) stop8)
    refine q_asgSS ess fun pl ps H1 npl e1 hpl hT => ?_
    have hT : Tups K H1 ps [is.map V.int, [.int 160]] := by
      have := hT
      rw [List.map_cons, List.map_cons, List.map_nil, hz1] at this
      exact this
    have hb2 : ∀ i ∈ is ++ [160], 0 ≤ i ∧ i < 256 := fun i hi => by
      rcases List.mem_append.mp hi with h | h
      · exact h8.2.2.2 i h
      · rw [List.mem_singleton.mp h]; decide
    have hl8 := h8.2.1
    refine q_when (b := decide (V.int v = V.int 4)) (et_eqV (ev_var rfl) ev_c rfl rfl) (fun h4 H2 e2 => ?_) fun h4 H2 e2 => ?_
    · have v4 : v = 4 := by injection of_decide_eq_true h4
      subst v4
      refine es_run (es_enc (W := fun cls d _ H => E cls d H) (ea_cons ev_c (ea_cons (ev_var rfl) ea_nil)) (ver8 hv)) fun q1 H3 e3 hq1 => ?_
      refine ⟨_, rfl, pl, ps, [is.map V.int, [.int 160]], is ++ [160], rfl, sq_of ((e2.trans e3) _ _ hpl), hT.ex (e2.trans e3), (by simp), (by simp), (by rw [List.length_append]; show is.length + 1 ≤ 40; omega), hb2, fun q2 H4 js e4 hq2 hj => ?_⟩
      refine ⟨q1, q2, [.int 161, .int 4], js.map V.int, rfl, rfl, ex_t e4 hq1, hq2, (by rw [List.length_map, sizeLine_eq]; have := hj.1; show 2 + js.length ≤ _; omega), (fun z => by cases z), (fun _ hy => ?_), fun _ _ l nl => ?_⟩
      · exact hq q1 H4 [161, 4] (((e1.trans e2).trans e3).trans e4) (ex_t e4 hq1) ⟨by decide, fun i hi => by
          simp only [List.mem_cons, List.not_mem_nil, or_false] at hi
          rcases hi with rfl | rfl <;> decide⟩
      · refine hq l _ (161 :: 4 :: js) ((((e1.trans e2).trans e3).trans e4).trans (Ex.new nl)) (st_of upd_same) ⟨by have := hj.1; show js.length + 1 + 1 ≤ 100; omega, fun i hi => ?_⟩
        simp only [List.mem_cons] at hi
        rcases hi with rfl | rfl | hi
        · decide
        · decide
        · exact hj.2 i hi
    · have v4 : v ≠ 4 := fun e => of_decide_eq_false h4 (by rw [e])
      have hpl2 := e2 _ _ hpl
      have hT2 := hT.ex e2
      refine q_asgIf (b := decide (V.int v = V.int 1)) (et_eqV (ev_var rfl) ev_c rfl rfl) (fun h1 H3 e3 => ?_) fun h1 H3 e3 => ?_
      · have v1 : v = 1 := by injection of_decide_eq_true h1
        subst v1
        refine q_asgL (xs := []) el_nil fun hd H4 nhd e4 hhd => ?_
        have hpl4 := (e3.trans e4) _ _ hpl2
        have hT4 := hT2.ex (e3.trans e4)
        have l2 : ps.length = 2 := hT.len
        refine es_end (K := K) (es_U (eu_tupL (el_flat2 (K := K) (xss := [is.map V.int, [.int 160]]) (ts := ps) (us := [] ++ ps.map V.ref) (vs := [6, 7]) (vs1 := [7]) (ei_listU (el_catS (K := K) (xs := []) (ys := ps.map V.ref) rfl rfl hhd hpl4 (by rw [List.length_map, l2]; decide))) rfl hT4 (by rw [l2]; decide) (by simp; omega) (fun _ => rfl) (fun _ => rfl) (fun _ _ => rfl) (fun _ _ => rfl)))) fun q H5 e5 hq5 => ?_
        refine hq q H5 (is ++ [160]) ((((e1.trans e2).trans e3).trans e4).trans e5) ?_ ⟨by rw [List.length_append]; show is.length + 1 ≤ 100; omega, hb2⟩
        rw [List.map_append]
        exact hq5
      · refine q_asgSS (ess_one (es_enc (W := fun cls d _ H => E cls d H) (ea_cons ev_c (ea_cons (ev_var rfl) ea_nil)) (ver8 hv))) fun hd hs H4 nhd e4 hhd hTh => ?_
        have hpl4 := (e3.trans e4) _ _ hpl2
        have hT4 := hT2.ex (e3.trans e4)
        have hTT : Tups K H4 (hs ++ ps) ([[161, v].map V.int] ++ [is.map V.int, [.int 160]]) := Tups.append hT4 hTh
        have l2 : ps.length = 2 := hT.len
        have l1 : hs.length = 1 := hTh.len
        refine es_end (K := K) (es_U (eu_tupL (el_flat2 (K := K) (xss := [[161, v].map V.int] ++ [is.map V.int, [.int 160]]) (ts := hs ++ ps) (us := hs.map V.ref ++ ps.map V.ref) (vs := [6, 7]) (vs1 := [7]) (ei_listU (el_catS (K := K) (xs := hs.map V.ref) (ys := ps.map V.ref) rfl rfl hhd hpl4 (by rw [List.length_map, List.length_map, l1, l2]; decide))) List.map_append.symm hTT (by rw [List.length_append, l1, l2]; decide) (by simp; omega) (fun _ => rfl) (fun _ => rfl) (fun _ _ => rfl) (fun _ _ => rfl)))) fun q H5 e5 hq5 => ?_
        refine hq q H5 ([161, v] ++ (is ++ [160])) ((((e1.trans e2).trans e3).trans e4).trans e5) ?_ ⟨by rw [List.length_append, List.length_append]; show 2 + (is.length + 1) ≤ 100; omega, fun i hi => ?_⟩
        · rw [List.map_append, List.map_append]
          exact hq5
        · rcases List.mem_append.mp hi with h | h
          · exact (ver8 hv).2.2.2 i h
          · exact hb2 i h

end
end BJL

namespace BJL
open PySem PySem.Spec PyProof.Rows L2 BJ
section
variable {P : Program} {w : World} {K : PySem.W.Frag} {mg : Str → Option Value} {base : Heap} {a : Adr}
open Evl
def spSe (K : PySem.W.Frag) : Sp := fun vs H Q _ => ∃ (p : Addr) (ts : List Addr) (v : Int) (z : Str) (x : V) (is : List Int), vs = [.ref p, .int v] ∧ Ver v ∧ H p = some (.lst (ts.map V.ref)) ∧ Prs H ts [(.inr z, x)] ∧ z ≠ "stop" ∧ Row8 z x is ∧ GivO 100 K H Q
theorem ok_sealed (T : Txt P K mg a) (hw : a.par = w.params) : CallO P w K mg base 7 (.ref a.sealed) (spSe K) := by
  have G_laid_out : CallO P w K mg base 6 (.ref a.laid_out) (spLo K) := ok_laid_out T hw
  refine fnO (T.d_sealed.okX sc_sealed (fun vs H Q E h => ?_) (fun cdv A outer s H vs Q E hr h => ?_))
  · obtain ⟨p, ts, v, z, x, is, rfl, _⟩ := h
    rfl
  · obtain ⟨p, ts, v, z, x, is, rfl, hv, hp, hP, hz, h8, hq⟩ := h
    refine ⟨_, (pss_cons (ps_set (i := 2) sc_sealed.nd rfl (Or.inl rfl) (pe_co G_laid_out (hr.mono (by decide)) rfl T.g_laid_out T.k_laid_out (takes_of rfl rfl rfl rfl) (pa_cons (pe_op op_catS (pv 0) (pe_lst (pa_cons (pe_tup (pa_cons pe_str (pa_cons pe_non pa_nil))) pa_nil))) (pa_cons (pv 1) pa_nil))))
 (pss_cons (ps_if (pt_cmpR op_gt (pe_callB call_len_seq (by rfl) T.b_len (by decide +kernel) (pa_cons (pv 2) pa_nil)) (pe_glob (v := .int (50000)) (by rfl) T.c_MOST_OCTETS.choose_spec ⟨_, rfl⟩) (nomark _))
 (pss_one ps_dead)
 pss_nil)
 (pss_one (ps_ret (pv 2))))), ?_⟩
    have hl : ts.length = 1 := Prs.len hP
    refine ⟨_, rfl, (by show 2 ≤ sizeLine; decide), fun t nt => ⟨(by show 1 ≤ sizeLine; decide), fun l nl => ?_⟩⟩
    have e1 := (Ex.new (o := .tup [.str "stop", .non]) nt).trans (Ex.new (o := .lst [.ref t]) nl)
    refine ⟨p, l, ts.map V.ref, [.ref t], rfl, rfl, .inl (.inl (e1 _ _ hp)), .inl (.inl upd_same), (by rw [List.length_map, hl]; show 1 + 1 ≤ sizeLine; decide), fun q nq => ?_⟩
    have e2 := e1.trans (Ex.new (o := .lst (ts.map V.ref ++ [.ref t])) nq)
    have ht : (upd (upd (upd H t (.tup [.str "stop", .non])) l (.lst [.ref t])) q (.lst (ts.map V.ref ++ [.ref t]))) t = some (.tup [.str "stop", .non]) := (Ex.new nq) _ _ ((Ex.new nl) _ _ upd_same)
    refine ⟨_, rfl, q, ts ++ [t], v, z, x, is, rfl, hv, (by rw [List.map_append]; exact sq_of upd_same), Prs.snoc (q := (.inr "stop", .non)) ht (hP.ex e2), hz, h8, fun r H' js e3 hr hj => ?_⟩
    dsimp only
    refine q_when (b := false) (et_is (et_test (ev_op (ev_cb (ea_cons (ev_var rfl) ea_nil) (fun H1 e Q q2 => ⟨r, _, rfl, .inr (ex_t e hr), q2 H1 (Ex.refl _)⟩)) ev_c rv_I0)) (decide_eq_false ?_)) (fun z => nomatch z) fun _ H2 e4 => ⟨_, rfl, hq r H2 js ((e2.trans e3).trans e4) (ex_t e4 hr) hj⟩
    rw [List.length_map]
    have := hj.1
    omega
/-- a name that is no put, no get -/
def Plain (z : Str) : Prop := z ≠ "put" ∧ z ≠ "get"
def spNm (K : PySem.W.Frag) : Sp := fun vs H Q _ => ∃ (p : Addr) (ts : List Addr) (kvs : List (Key × V)) (v : Int), vs = [.ref p, .int v] ∧ SqL K H p (ts.map V.ref) ∧ Prs H ts kvs ∧ kvs.length ≤ 5 ∧ (∀ q ∈ kvs, ∃ z, q.1 = .inr z ∧ Plain z) ∧
  ∀ q us H', Ex H H' → H' q = some (.lst (us.map V.ref)) → Prs H' us kvs → Q (.ref q) H'
theorem str_dec {z y : Str} (h : z ≠ y) : decide (V.str z = V.str y) = false := decide_eq_false fun e => h (by injection e)
theorem ok_named_rows (T : Txt P K mg a) : CallO P w K mg base 1 (.ref a.named_rows) (spNm K) := by
  refine fnO (T.d_named_rows.okX sc_named_rows (fun vs H Q E h => ?_) (fun cdv A outer s H vs Q E hr h => ?_))
  · obtain ⟨p, ts, kvs, v, rfl, _⟩ := h
    rfl
  · obtain ⟨p, ts, kvs, v, rfl, hp, hP, hl, hn, hq⟩ := h
    refine ⟨_, (pss_cons (ps_set (i := 2) sc_named_rows.nd rfl (Or.inl rfl) (pe_lst pa_nil))
 (pss_cons (ps_for (passes_of rfl) rfl (pi_list (pv 0)) (pg_tup rfl (pgs_cons (pg_name (i := 3) sc_named_rows.nd rfl (Or.inl rfl)) (pgs_cons (pg_name (i := 4) sc_named_rows.nd rfl (Or.inl rfl)) pgs_nil)))
 (pss_one (ps_if (pt_cmpR op_eq (pv 3) pe_str (nomark _))
 (pss_one ps_dead)
 (pss_one (ps_if (pt_cmpR op_eq (pv 3) pe_str (nomark _))
 (pss_one ps_dead)
 (pss_one (ps_expr (pe_bm PySem.F.plainAttrs_list PySem.F.slot_list_append PySem.F.type_list_append mt_append (pv 2) (pa_cons (pe_tup (pa_cons (pv 3) (pa_cons (pv 4) pa_nil))) pa_nil)))))))))
 (pss_one (ps_ret (pv 2))))), ?_⟩
    have hlen := Prs.len hP
    refine q_asgL (xs := []) el_nil fun f H1 nf e1 hf => ?_
    refine ⟨_, rfl, p, rfl, ⟨_, ex_l e1 hp⟩, for_list (K := K) (a := p) (xs := ts.map V.ref) (fun i σ' H' => (∃ o3 o4, σ' = [some (.ref p), some (.int v), some (.ref f), o3, o4]) ∧ Ex H H' ∧ ∃ us, H' f = some (.lst (us.map V.ref)) ∧ Prs H' us (kvs.take i)) ⟨⟨_, _, rfl⟩, e1, [], hf, .nil⟩ (fun i σ' H' _ h => ex_l h.2.1 hp) (fun i x σ' H' hx' h => ?_) fun σ' H' h => ?_⟩
    · obtain ⟨⟨o3, o4, rfl⟩, e', us, hf', hus⟩ := h
      have hi : i < kvs.length := by
        have := (List.getElem?_eq_some_iff.mp hx').1
        rw [List.length_map, hlen] at this
        exact this
      obtain ⟨q, hqi⟩ : ∃ q, kvs[i]? = some q := ⟨_, List.getElem?_eq_getElem hi⟩
      obtain ⟨t, ht, hs⟩ := Prs.get hP i q hqi
      rw [List.getElem?_map, ht] at hx'
      cases hx'
      obtain ⟨z, hz, z1, z2⟩ := hn q (List.mem_of_getElem? hqi)
      refine ⟨t, _, rfl, st_of (e' _ _ hs), rfl, _, _, rfl, _, _, rfl, rfl, ?_⟩
      rw [hz]
      refine s_if (b := false) (et_eqV (x := .str z) (ev_var rfl) ev_c rfl (str_dec z1)) (fun z => nomatch z) fun _ H2 e2 => ?_
      refine s_if (b := false) (et_eqV (x := .str z) (ev_var rfl) ev_c rfl (str_dec z2)) (fun z => nomatch z) fun _ H3 e3 => ?_
      have hf3 := (e2.trans e3) _ _ hf'
      refine s_appU hf3 (ev_var rfl) (eu_tup (ea_cons (ev_var rfl) (ea_cons (ev_var rfl) ea_nil)) (by show 2 ≤ 100000; decide)) ?_ fun t2 H4 nt e4 ht2 => ?_
      · have := Prs.len hus
        rw [List.length_map, this, List.length_take]
        omega
      · have hf4 := e4 _ _ hf3
        have t2f : t2 ≠ f := fun z => by rw [z, hf4] at ht2; cases ht2
        refine ⟨⟨_, _, rfl⟩, Ex.mut (((e'.trans e2).trans e3).trans e4) nf, us ++ [t2], (by rw [List.map_append]; exact upd_same), ?_⟩
        rw [List.take_succ, hqi]
        exact Prs.snoc (by rw [upd_ne t2f, hz]; exact ht2) ((hus.ex ((e2.trans e3).trans e4)).keepT fun u ys hu => by rw [upd_ne fun z => by rw [z, hf4] at hu; cases hu]; exact hu)
    · obtain ⟨⟨o3, o4, rfl⟩, e', us, hf', hus⟩ := h
      rw [List.length_map, hlen, List.take_length] at hus
      exact ⟨_, rfl, hq f us H' e' hf' hus⟩

end
end BJL

namespace BJL
open PySem PySem.Spec PyProof.Rows L2 BJ
section
variable {P : Program} {w : World} {K : PySem.W.Frag} {mg : Str → Option Value} {base : Heap} {a : Adr}
open Evl
def isP (q : Key × V) : Bool := decide (q.1 ≠ .inr "put")
def Rw (q : Key × V) : Prop := q = (.inr "put", .int 0) ∨ ∃ z, q.1 = .inr z ∧ Plain z
def spLe (K : PySem.W.Frag) : Sp := fun vs H Q _ => ∃ (p : Addr) (ts : List Addr) (kvs : List (Key × V)), vs = [.ref p] ∧ SqL K H p (ts.map V.ref) ∧ Prs H ts kvs ∧ kvs.length ≤ 5 ∧ (∀ q ∈ kvs, Rw q) ∧
  ∀ q us H', Ex H H' → H' q = some (.lst (us.map V.ref)) → Prs H' us (kvs.filter isP) → Q (.ref q) H'
theorem put_get : decide (V.str "put" = V.str "get") = false := by decide +kernel
theorem ok_least_rows (T : Txt P K mg a) : CallO P w K mg base 1 (.ref a.least_rows) (spLe K) := by
  refine fnO (T.d_least_rows.okX sc_least_rows (fun vs H Q E h => ?_) (fun cdv A outer s H vs Q E hr h => ?_))
  · obtain ⟨p, ts, kvs, rfl, _⟩ := h
    rfl
  · obtain ⟨p, ts, kvs, rfl, hp, hP, hl, hn, hq⟩ := h
    have hu := hu_of hr
    refine ⟨_, (pss_cons (ps_setDc (i := 1) (own := [("name", 2), ("argument", 3)]) (g := (gTup K 2 (gCons (gName 2) (gCons (gName 3) gNil)))) (by rfl) sc_least_rows.nd rfl rfl (sw_trueD rfl rfl rfl (by decide +kernel)) (pi_list (pv 0)) (blkOk_by (own := [("name", 2), ("argument", 3)]) (N := ["rows", "got", "name", "argument", "order", "found"]) (sc := defScope s_least_rows) (by decide +kernel)) (fun _ _ _ _ _ => (pg_tup rfl (pgs_cons (pg_name (i := 2) sc_least_rows.nd rfl (Or.inl rfl)) (pgs_cons (pg_name (i := 3) sc_least_rows.nd rfl (Or.inl rfl)) pgs_nil)))) (fun _ _ _ _ _ => (pts_one (pt_cmpR op_eq (pv 2) pe_str (nomark _)))) (fun _ _ _ _ _ => (pv 3)) (fun _ _ _ _ _ => pe_bl))
 (pss_cons (ps_par (i := 4) (j := 5) rfl sc_least_rows.nd rfl rfl (by decide) rfl rfl (pa_cons pe_dnewK (pa_cons (pe_lst pa_nil) pa_nil)) (by rfl))
 (pss_cons (ps_for (passes_of rfl) rfl (pi_list (pv 0)) (pg_tup rfl (pgs_cons (pg_name (i := 2) sc_least_rows.nd rfl (Or.inl rfl)) (pgs_cons (pg_name (i := 3) sc_least_rows.nd rfl (Or.inl rfl)) pgs_nil)))
 (pss_cons (ps_if (PW.pt (pw_and (pt_cmpR op_eq (pv 2) pe_str (nomark _)) (pw_and1 (pt_cmp (pc_din hu (pv 3) (pv 1))))))
 (pss_one ps_dead)
 pss_nil)
 (pss_one (ps_if (PW.pt (pw_or (pt_cmpR op_eq (pv 2) pe_str (nomark _)) (pw_or1 (pt_cmpR op_eq (pv 2) pe_str (nomark _)))))
 (pss_one (ps_if (pt_cmp (pc_din hu (pv 3) (pv 4)))
 (pss_one ps_dead)
 pss_nil))
 (pss_one (ps_expr (pe_bm PySem.F.plainAttrs_list PySem.F.slot_list_append PySem.F.type_list_append mt_append (pv 5) (pa_cons (pe_tup (pa_cons (pv 2) (pa_cons (pv 3) pa_nil))) pa_nil))))))))
 (pss_one (ps_ret (pv 5)))))), ?_⟩
    have hlen := Prs.len hP
    refine q_dcNone (ei_list (ev_var rfl) hp) hP (fun _ _ => rfl) (fun q hq1 H1 e1 => ?_) fun g H1 ng e1 hg => ?_
    · rcases hn q hq1 with rfl | ⟨z, hz, z1, z2⟩
      · exact et_eqV (x := .str "put") (ev_var rfl) ev_c rfl put_get
      · rw [hz]
        exact et_eqV (x := .str z) (ev_var rfl) ev_c rfl (str_dec z2)
    refine fun d nd => ⟨Nat.zero_le _, fun f nf => ⟨_, _, rfl, ?_⟩⟩
    have gd : g ≠ d := fun z => by rw [← z, hg] at nd; cases nd
    have e2 := (Ex.new (o := .dK []) nd).trans (Ex.new (o := .lst []) nf)
    have nfH : f ≠ d := fun z => by rw [z, upd_same] at nf; cases nf
    have nfH1 : H1 f = none := fresh_back (Ex.new (o := .dK []) nd) nf
    have nfH0 : H f = none := fresh_back e1 nfH1
    have din : ∀ {b : Addr} {i : Nat} {σ' : L2.St} {H' : Hp} {y : V} {ky : Key}, σ'[3]? = some (some y) → y = kV ky → σ'[i]? = some (some (.ref b)) → H' b = some (.dK []) → Ev (tDIn (tVar 3) (tVar i)) σ' H' (.bl false) := fun {b i σ' H' y ky} h3 hy hi hb H2 e Q q2 =>
      ⟨_, h3, _, hi, b, none, rfl, .inl ⟨[], ky, .inl (e _ _ hb), hy, rfl⟩, q2 H2 (Ex.refl _)⟩
    refine ⟨_, rfl, p, rfl, ⟨_, ex_l (e1.trans e2) hp⟩, for_list (K := K) (a := p) (xs := ts.map V.ref) (fun i σ' H' => (∃ o2 o3, σ' = [some (.ref p), some (.ref g), o2, o3, some (.ref d), some (.ref f)]) ∧ Ex H H' ∧ H' g = some (.dK []) ∧ H' d = some (.dK []) ∧ ∃ us, H' f = some (.lst (us.map V.ref)) ∧ Prs H' us ((kvs.take i).filter isP)) ⟨⟨_, _, rfl⟩, e1.trans e2, e2 _ _ hg, by rw [upd_ne nfH.symm]; exact upd_same, [], upd_same, .nil⟩ (fun i σ' H' _ h => ex_l h.2.1 hp) (fun i x σ' H' hx' h => ?_) fun σ' H' h => ?_⟩
    · obtain ⟨⟨o2, o3, rfl⟩, e', hg', hd', us, hf', hus⟩ := h
      have hi : i < kvs.length := by
        have := (List.getElem?_eq_some_iff.mp hx').1
        rw [List.length_map, hlen] at this
        exact this
      obtain ⟨q, hqi⟩ : ∃ q, kvs[i]? = some q := ⟨_, List.getElem?_eq_getElem hi⟩
      obtain ⟨t, ht, hs⟩ := Prs.get hP i q hqi
      rw [List.getElem?_map, ht] at hx'
      cases hx'
      have htk : (kvs.take (i + 1)).filter isP = (kvs.take i).filter isP ++ [q].filter isP := by
        rw [List.take_succ, hqi, List.filter_append]
        rfl
      refine ⟨t, _, rfl, st_of (e' _ _ hs), rfl, _, _, rfl, _, _, rfl, rfl, ?_⟩
      have fd : f ≠ d := nfH
      have fg : f ≠ g := fun z => by rw [z, hg] at nfH1; cases nfH1
      rcases hn q (List.mem_of_getElem? hqi) with rfl | ⟨z, hz, z1, z2⟩
      · refine q_when (b := true && false) (et_and (et_eqV (x := .str "put") (ev_var rfl) ev_c rfl rfl) fun _ => et_B (din (ky := .inl 0) rfl rfl rfl hg')) (fun z => nomatch z) fun _ H2 e2 => ?_
        refine s_if (b := true || false) (et_or (et_eqV (x := .str "put") (ev_var rfl) ev_c rfl rfl) fun z => nomatch z) (fun _ H3 e3 => ?_) (fun z => nomatch z)
        refine s_when (b := false) (et_B (din (ky := .inl 0) rfl rfl rfl ((e2.trans e3) _ _ hd'))) (fun z => nomatch z) fun _ H4 e4 => ?_
        have e24 := (e2.trans e3).trans e4
        refine ⟨⟨_, _, rfl⟩, e'.trans e24, e24 _ _ hg', e24 _ _ hd', us, e24 _ _ hf', ?_⟩
        rw [htk, show [((Sum.inr "put" : Key), V.int 0)].filter isP = [] from by decide +kernel, List.append_nil]
        exact hus.ex e24
      · rw [hz]
        refine q_when (b := false && false) (et_and (et_eqV (x := .str z) (ev_var rfl) ev_c rfl (str_dec z1)) fun z => nomatch z) (fun z => nomatch z) fun _ H2 e2 => ?_
        refine s_if (b := false || false) (et_or (et_eqV (x := .str z) (ev_var rfl) ev_c rfl (str_dec z1)) fun _ => et_eqV (x := .str z) (ev_var rfl) ev_c rfl (str_dec z2)) (fun z => nomatch z) fun _ H3 e3 => ?_
        have hf3 := (e2.trans e3) _ _ hf'
        refine s_appU hf3 (ev_var rfl) (eu_tup (ea_cons (ev_var rfl) (ea_cons (ev_var rfl) ea_nil)) (by show 2 ≤ 100000; decide)) ?_ fun t2 H4 nt e4 ht2 => ?_
        · have h1 := Prs.len hus
          have h2 := List.length_filter_le isP (kvs.take i)
          rw [List.length_take] at h2
          rw [List.length_map, h1]
          omega
        · have hf4 := e4 _ _ hf3
          have e24 := (e2.trans e3).trans e4
          have t2f : t2 ≠ f := fun z => by rw [z, hf4] at ht2; cases ht2
          refine ⟨⟨_, _, rfl⟩, Ex.mut (e'.trans e24) nfH0, by rw [upd_ne fg.symm]; exact e24 _ _ hg', by rw [upd_ne fd.symm]; exact e24 _ _ hd', us ++ [t2], (by rw [List.map_append]; exact upd_same), ?_⟩
          rw [htk, show [q].filter isP = [q] from by
            have : isP q = true := decide_eq_true fun e => z1 (by rw [hz] at e; exact Sum.inr.inj e)
            simp [this]]
          exact Prs.snoc (by rw [upd_ne t2f, hz]; exact ht2) ((hus.ex e24).keepT fun u ys hu => by rw [upd_ne fun z => by rw [z, hf4] at hu; cases hu]; exact hu)
    · obtain ⟨⟨o2, o3, rfl⟩, e', hg', hd', us, hf', hus⟩ := h
      rw [List.length_map, hlen, List.take_length] at hus
      exact ⟨_, rfl, hq f us H' e' hf' hus⟩

end
end BJL

namespace BJL
open PySem PySem.Spec PyProof.Rows L2 BJ
section
variable {P : Program} {w : World} {K : PySem.W.Frag} {mg : Str → Option Value} {base : Heap} {a : Adr}
open Evl
/-- all but p stands -/
def ExB (p : Addr) (H H' : Hp) : Prop := ∀ b o, H b = some o → b ≠ p → H' b = some o
def NvF (r an : Addr) : List (Str × V) := [("rules", .ref r), ("outside", .non), ("answers", .ref an)]
def spNv (a : Adr) : Sp := fun vs H Q E => ∃ p dx, vs = [.ref p, .non, .non] ∧ H p = some (.ins a.NodeView dx []) ∧ ∀ H' r an, ExB p H H' → H' p = some (.ins a.NodeView dx (NvF r an)) → Q .non H'
theorem ok_NodeView_init (T : Txt P K mg a) : CallO P w K mg base 2 (.ref a.NodeView___init__) (spNv a) := by
  have G_rules_of := ok_rules_of (w := w) (base := base) T
  refine fnO (T.d_NodeView___init__.okX sc_NodeView___init__ (fun vs H Q E h => ?_) (fun cdv A outer s H vs Q E hr h => ?_))
  · obtain ⟨p, dx, rfl, _⟩ := h
    rfl
  · obtain ⟨p, dx, rfl, hp, hq⟩ := h
    refine ⟨_, (pss_cons (ps_fld (pv 0) (pe_co G_rules_of (hr.mono (by decide)) rfl T.g_rules_of T.k_rules_of (takes_of rfl rfl rfl rfl) (pa_cons (pv 1) pa_nil)) rfl)
 (pss_cons (ps_fld (pv 0) (pv 2) rfl)
 (pss_one (ps_fld (pv 0) pe_dnewK rfl)))), ?_⟩
    refine ⟨_, rfl, rfl, fun r nr => ⟨_, rfl, p, a.NodeView, dx, [], rfl, (Ex.new nr) _ _ hp, T.c_NodeView, T.n_NodeView_rules, (by decide), ?_⟩⟩
    refine ⟨_, rfl, _, rfl, p, a.NodeView, dx, _, rfl, upd_same, T.c_NodeView, T.n_NodeView_outside, (by show 1 < 1000; decide), ?_⟩
    refine fun an nan => ⟨_, rfl, p, a.NodeView, dx, _, rfl, (Ex.new nan) _ _ upd_same, T.c_NodeView, T.n_NodeView_answers, (by show 2 < 1000; decide), ?_⟩
    refine hq _ r an (fun b o hb hbp => ?_) upd_same
    rw [upd_ne hbp]
    refine (Ex.new nan) _ _ ?_
    rw [upd_ne hbp, upd_ne hbp]
    exact (Ex.new nr) _ _ hb
theorem ok_NodeView (T : Txt P K mg a) : CallX P w K mg base 3 (.ref a.NodeView) [] fun vs zs H Q E => vs = [.non, .non] ∧ zs = [] ∧ ∀ p dx r an H', H p = none → Ex H H' → H' p = some (.ins a.NodeView dx (NvF r an)) → Q (.ref p) H' := by
  refine (CallX.make T.m_NodeView (ok_NodeView_init T).x).imp ?_
  rintro vs zs H Q E ⟨rfl, rfl, hq⟩ p dx hp hd ne hs
  have e1 : Ex H (upd (upd H dx (.own p)) p (.ins a.NodeView dx [])) := (Ex.new hd).trans (Ex.new (by rw [upd_ne ne.symm]; exact hp))
  refine ⟨rfl, p, dx, rfl, upd_same, fun H' r an he hp' => ⟨rfl, hq p dx r an H' hp (fun b o hb => he b o (e1 b o hb) fun z => ?_) hp'⟩⟩
  rw [z, hp] at hb
  cases hb
theorem val_no (T : Txt P K mg a) {x : V} (h : Val x) (H : Hp) : ∃ t, TyX K H x t ∧ PySem.W.kitOne K t (.ref a.Node) = some false := by
  rcases h with rfl | rfl
  · exact ⟨.type "str", .base (.str _), T.w_str⟩
  · exact ⟨.type "int", .base (.int _), T.w_int⟩
theorem ok_shape_of (T : Txt P K mg a) : CallO P w K mg base 6 (.ref a.NodeView_shape_of) (fun vs H Q _ => ∃ y x, vs = [y, x] ∧ Val x ∧ Q (.str (formOf x)) H) := by
  have G_holds_value := ok_holds_value (P := P) (w := w) (base := base) (mg := mg) T
  have G_atom_form := ok_atom_form (P := P) (w := w) (base := base) (mg := mg) T
  refine fnO (T.d_NodeView_shape_of.okX sc_NodeView_shape_of (fun vs H Q E h => ?_) (fun cdv A outer s H vs Q E hr h => ?_))
  · obtain ⟨y, x, rfl, _⟩ := h
    rfl
  · obtain ⟨y, x, rfl, hv, hq⟩ := h
    refine ⟨_, (pss_cons (ps_if (pt_not (pt_val (pe_co G_holds_value (hr.mono (by decide)) rfl T.g_holds_value T.k_holds_value (takes_of rfl rfl rfl rfl) (pa_cons (pv 1) pa_nil))))
 (pss_one ps_dead)
 pss_nil)
 (pss_one (ps_ret (pe_ifExp (pt_val (pe_callB (call_isG' (K := K) rfl) (by rfl) T.b_isinstance (by decide +kernel) (pa_cons (pv 1) (pa_cons (pe_glob (v := .ref a.Node) (by rfl) T.g_Node rfl) pa_nil)))) pe_dead (pe_co G_atom_form (hr.mono (by decide)) rfl T.g_atom_form T.k_atom_form (takes_of rfl rfl rfl rfl) (pa_cons (pv 1) pa_nil)))))), ?_⟩
    obtain ⟨t, ht, hk⟩ := val_no T hv H
    refine ⟨_, rfl, x, rfl, hv, _, rfl, ?_⟩
    exact ⟨_, rfl, _, _, t, _, _, rfl, .own _, .ty ht, hk, _, rfl, _, rfl, x, rfl, hv, hq⟩
theorem ok_label (T : Txt P K mg a) : CallO P w K mg base 1 (.ref a.NodeView_label) (fun vs H Q _ => ∃ p dx r an x, vs = [.ref p, x] ∧ H p = some (.ins a.NodeView dx (NvF r an)) ∧ Q .non H) := by
  refine fnO (T.d_NodeView_label.okX sc_NodeView_label (fun vs H Q E h => ?_) (fun cdv A outer s H vs Q E hr h => ?_))
  · obtain ⟨p, dx, r, an, x, rfl, _⟩ := h
    rfl
  · obtain ⟨p, dx, r, an, x, rfl, hp, hq⟩ := h
    refine ⟨_, (pss_cons (ps_if (PW.pt (pw_or (pt_cmp (pc_isN (pe_fld (pv 0) rfl))) (pw_or1 (pt_not (pt_val (pe_callB (call_isG' (K := K) rfl) (by rfl) T.b_isinstance (by decide +kernel) (pa_cons (pv 1) (pa_cons (pe_glob (v := .ref a.Node) (by rfl) T.g_Node rfl) pa_nil))))))))
 (pss_one (ps_ret pe_non))
 pss_nil)
 (pss_cons ps_dead
 (pss_cons ps_dead
 (pss_cons ps_dead
 (pss_one ps_dead))))), ?_⟩
    exact ⟨_, rfl, p, a.NodeView, dx, _, _, rfl, hp, T.c_NodeView, T.n_NodeView_outside, rfl, _, rfl, hq⟩
theorem ok_plain (T : Txt P K mg a) : CallO P w K mg base 1 (.ref a.NodeView_plain) (fun vs H Q _ => ∃ y x, vs = [y, x, .str (formOf x)] ∧ Val x ∧ Q x H) := by
  refine fnO (T.d_NodeView_plain.okX sc_NodeView_plain (fun vs H Q E h => ?_) (fun cdv A outer s H vs Q E hr h => ?_))
  · obtain ⟨y, x, rfl, _⟩ := h
    rfl
  · obtain ⟨y, x, rfl, hv, hq⟩ := h
    refine ⟨_, (pss_cons (ps_if (pt_cmpR op_eq (pv 2) pe_str (nomark _))
 (pss_one ps_dead)
 pss_nil)
 (pss_one (ps_ret (pe_ifExp (pt_cmpR op_eq (pv 2) pe_str (nomark _)) pe_dead (pv 1))))), ?_⟩
    have h1 : decide (V.str (formOf x) = V.str "octets") = false := by rcases hv with rfl | rfl <;> decide +kernel
    have h2 : decide (V.str (formOf x) = V.str "thing") = false := by rcases hv with rfl | rfl <;> decide +kernel
    exact ⟨_, rfl, rfl, _, rfl, if_no h1 ⟨_, rfl, rfl, _, rfl, if_no h2 ⟨_, rfl, hq⟩⟩⟩
/-- a drafting -/
def DrF (nv : Addr) (v : Int) (gd rw : Addr) (n : Int) (bg : Addr) : List (Str × V) := [("view", .ref nv), ("edition", .int v), ("given", .ref gd), ("most", .non), ("rows", .ref rw), ("deep", .int n), ("begun", .ref bg)]
structure DS (a : Adr) (H : Hp) (p dx nv : Addr) (v : Int) (gd rw : Addr) (n : Int) (bg : Addr) (gs : List (Key × V)) (ts : List Addr) (kvs : List (Key × V)) : Prop where
  at_ : H p = some (.ins a.Drafting dx (DrF nv v gd rw n bg))
  vw : ∃ dx r an, H nv = some (.ins a.NodeView dx (NvF r an))
  gv : H gd = some (.dK gs)
  rws : H rw = some (.lst (ts.map V.ref))
  prs : Prs H ts kvs
section
variable {H H1 : Hp} {p dx nv gd rw bg : Addr} {v n : Int} {gs kvs : List (Key × V)} {ts : List Addr}
theorem DS.ex (h : DS a H p dx nv v gd rw n bg gs ts kvs) (e : Ex H H1) : DS a H1 p dx nv v gd rw n bg gs ts kvs := ⟨e _ _ h.at_, let ⟨dx, r, an, q⟩ := h.vw; ⟨dx, r, an, e _ _ q⟩, e _ _ h.gv, e _ _ h.rws, h.prs.ex e⟩
theorem DS.pnv (h : DS a H p dx nv v gd rw n bg gs ts kvs) : nv ≠ p := fun z => by
  obtain ⟨_, _, _, q⟩ := h.vw
  rw [z, h.at_] at q
  injection q with q
  injection q with _ _ q
  cases q
theorem DS.deep (h : DS a H p dx nv v gd rw n bg gs ts kvs) (m : Int) : DS a (upd H p (.ins a.Drafting dx (DrF nv v gd rw m bg))) p dx nv v gd rw m bg gs ts kvs := by
  have e1 : gd ≠ p := fun z => by have := h.gv; rw [z, h.at_] at this; cases this
  have e2 : rw ≠ p := fun z => by have := h.rws; rw [z, h.at_] at this; cases this
  refine ⟨upd_same, ?_, by rw [upd_ne e1]; exact h.gv, by rw [upd_ne e2]; exact h.rws, h.prs.keepT fun t ys ht => ?_⟩
  · obtain ⟨d, r, an, q⟩ := h.vw
    exact ⟨d, r, an, by rw [upd_ne h.pnv]; exact q⟩
  · rw [upd_ne fun z => by rw [z, h.at_] at ht; cases ht]
    exact ht
theorem DS.push (h : DS a H p dx nv v gd rw n bg gs ts kvs) {t : Addr} {q : Key × V} (nt : H t = none) : DS a (upd (upd H t (.tup [kV q.1, q.2])) rw (.lst ((ts ++ [t]).map V.ref))) p dx nv v gd rw n bg gs (ts ++ [t]) (kvs ++ [q]) := by
  have h1 := h.ex (Ex.new (o := .tup [kV q.1, q.2]) nt)
  have e1 : p ≠ rw := fun z => by have := h1.rws; rw [← z, h1.at_] at this; cases this
  have e2 : gd ≠ rw := fun z => by have := h1.rws; rw [← z, h1.gv] at this; cases this
  have tr : t ≠ rw := fun z => by have := h.rws; rw [← z, nt] at this; cases this
  refine ⟨by rw [upd_ne e1]; exact h1.at_, ?_, by rw [upd_ne e2]; exact h1.gv, upd_same, Prs.snoc (by rw [upd_ne tr]; exact upd_same) (h1.prs.keepT fun u ys hu => ?_)⟩
  · obtain ⟨d, r, an, q⟩ := h1.vw
    exact ⟨d, r, an, by rw [upd_ne fun z => by rw [z, h1.rws] at q; cases q]; exact q⟩
  · rw [upd_ne fun z => by rw [z, h1.rws] at hu; cases hu]
    exact hu
theorem DS.give (h : DS a H p dx nv v gd rw n bg gs ts kvs) (gs' : List (Key × V)) : DS a (upd H gd (.dK gs')) p dx nv v gd rw n bg gs' ts kvs := by
  refine ⟨by rw [upd_ne fun z => by have := h.gv; rw [← z, h.at_] at this; cases this]; exact h.at_, ?_, upd_same, by rw [upd_ne fun z => by have := h.gv; rw [← z, h.rws] at this; cases this]; exact h.rws, h.prs.keepT fun u ys hu => by rw [upd_ne fun z => by rw [z, h.gv] at hu; cases hu]; exact hu⟩
  obtain ⟨d, r, an, q⟩ := h.vw
  exact ⟨d, r, an, by rw [upd_ne fun z => by rw [z, h.gv] at q; cases q]; exact q⟩
end

end
end BJL

namespace BJL
open PySem PySem.Spec PyProof.Rows L2 BJ
section
variable {P : Program} {w : World} {K : PySem.W.Frag} {mg : Str → Option Value} {base : Heap} {a : Adr}
open Evl
section
variable {H H1 : Hp} {p dx nv gd rw bg : Addr} {v n : Int} {gs kvs : List (Key × V)} {ts : List Addr}
theorem DS.len (h : DS a H p dx nv v gd rw n bg gs ts kvs) : ts.length = kvs.length := Prs.len h.prs
end
def spDi (a : Adr) : Sp := fun vs H Q E => ∃ p dx nv v gd, vs = [.ref p, .ref nv, .int v, .ref gd, .non] ∧ H p = some (.ins a.Drafting dx []) ∧ ∀ H' rw bg, ExB p H H' → H rw = none → H' rw = some (.lst []) → H' p = some (.ins a.Drafting dx (DrF nv v gd rw 0 bg)) → Q .non H'
theorem ok_Drafting_init (T : Txt P K mg a) : CallO P w K mg base 1 (.ref a.Drafting___init__) (spDi a) := by
  refine fnO (T.d_Drafting___init__.okX sc_Drafting___init__ (fun vs H Q E h => ?_) (fun cdv A outer s H vs Q E hr h => ?_))
  · obtain ⟨p, dx, nv, v, gd, rfl, _⟩ := h
    rfl
  · obtain ⟨p, dx, nv, v, gd, rfl, hp, hq⟩ := h
    refine ⟨_, (pss_cons (ps_fld (pv 0) (pv 1) rfl)
 (pss_cons (ps_fld (pv 0) (pv 2) rfl)
 (pss_cons (ps_fld (pv 0) (pv 3) rfl)
 (pss_cons (ps_fld (pv 0) (pv 4) rfl)
 (pss_cons (ps_fld (pv 0) (pe_lst pa_nil) rfl)
 (pss_cons (ps_fld (pv 0) pe_int rfl)
 (pss_one (ps_fld (pv 0) pe_dnewK rfl)))))))), ?_⟩
    refine ⟨_, rfl, _, rfl, p, a.Drafting, dx, [], rfl, hp, T.c_Drafting, T.n_Drafting_view, (by decide), ?_⟩
    refine ⟨_, rfl, _, rfl, p, a.Drafting, dx, _, rfl, upd_same, T.c_Drafting, T.n_Drafting_edition, (by show 1 < 1000; decide), ?_⟩
    refine ⟨_, rfl, _, rfl, p, a.Drafting, dx, _, rfl, upd_same, T.c_Drafting, T.n_Drafting_given, (by show 2 < 1000; decide), ?_⟩
    refine ⟨_, rfl, _, rfl, p, a.Drafting, dx, _, rfl, upd_same, T.c_Drafting, T.n_Drafting_most, (by show 3 < 1000; decide), ?_⟩
    refine ⟨Nat.zero_le _, fun rw nrw => ⟨_, rfl, p, a.Drafting, dx, _, rfl, (Ex.new nrw) _ _ upd_same, T.c_Drafting, T.n_Drafting_rows, (by show 4 < 1000; decide), ?_⟩⟩
    refine ⟨_, rfl, p, a.Drafting, dx, _, rfl, upd_same, T.c_Drafting, T.n_Drafting_deep, (by show 5 < 1000; decide), ?_⟩
    refine fun bg nbg => ⟨_, rfl, p, a.Drafting, dx, _, rfl, (Ex.new nbg) _ _ upd_same, T.c_Drafting, T.n_Drafting_begun, (by show 6 < 1000; decide), ?_⟩
    have pr : rw ≠ p := fun z => by rw [z, upd_same] at nrw; cases nrw
    have nr0 : H rw = none := by
      rw [upd_ne pr, upd_ne pr, upd_ne pr, upd_ne pr] at nrw
      exact nrw
    refine hq _ rw bg (fun b o hb hbp => ?_) nr0 ?_ upd_same
    · rw [upd_ne hbp]
      refine (Ex.new nbg) _ _ ?_
      rw [upd_ne hbp, upd_ne hbp]
      refine (Ex.new nrw) _ _ ?_
      rw [upd_ne hbp, upd_ne hbp, upd_ne hbp, upd_ne hbp]
      exact hb
    · rw [upd_ne pr]
      refine (Ex.new nbg) _ _ ?_
      rw [upd_ne pr, upd_ne pr]
      exact upd_same
theorem ok_Drafting (T : Txt P K mg a) : CallX P w K mg base 2 (.ref a.Drafting) [] fun vs zs H Q E => ∃ nv v gd, vs = [.ref nv, .int v, .ref gd, .non] ∧ zs = [] ∧ ∀ p dx rw bg H', H p = none → H rw = none → rw ≠ p → Ex H H' → H' rw = some (.lst []) → H' p = some (.ins a.Drafting dx (DrF nv v gd rw 0 bg)) → Q (.ref p) H' := by
  refine (CallX.make T.m_Drafting (ok_Drafting_init T).x).imp ?_
  rintro vs zs H Q E ⟨nv, v, gd, rfl, rfl, hq⟩ p dx hp hd ne hs
  have e1 : Ex H (upd (upd H dx (.own p)) p (.ins a.Drafting dx [])) := (Ex.new hd).trans (Ex.new (by rw [upd_ne ne.symm]; exact hp))
  refine ⟨rfl, p, dx, nv, v, gd, rfl, upd_same, fun H' rw bg he nrw hrw hp' => ⟨rfl, hq p dx rw bg H' hp (fresh_back e1 nrw) (fun z => by rw [z, upd_same] at nrw; cases nrw) (fun b o hb => he b o (e1 b o hb) fun z => ?_) hrw hp'⟩⟩
  rw [z, hp] at hb
  cases hb
def spAdd (a : Adr) : Sp := fun vs H Q _ => ∃ p dx nv v gd rw n bg gs ts kvs z y, vs = [.ref p, .str z, y] ∧ DS a H p dx nv v gd rw n bg gs ts kvs ∧ ts.length ≤ 50 ∧ ∀ t, H t = none → Q .non (upd (upd H t (.tup [.str z, y])) rw (.lst ((ts ++ [t]).map V.ref)))
theorem of_add (T : Txt P K mg a) : ∃ fd, FunD K "add" "Drafting.add" (defArgs s_Drafting_add) (defBody s_Drafting_add) (defScope s_Drafting_add) [.non] [] a.Drafting_add fd ∧ FnOk P w K mg base (L2.CX P w) 1 a.Drafting_add fd ["self", "name", "argument"] (spAdd a) := by
  refine T.d_Drafting_add.ok sc_Drafting_add (fun vs H Q E h => ?_) (fun cdv A outer s H vs Q E hr h => ?_)
  · obtain ⟨p, dx, nv, v, gd, rw, n, bg, gs, ts, kvs, z, y, rfl, _⟩ := h
    rfl
  · obtain ⟨p, dx, nv, v, gd, rw, n, bg, gs, ts, kvs, z, y, rfl, ds, hl, hq⟩ := h
    refine ⟨_, (pss_one (ps_expr (pe_bm PySem.F.plainAttrs_list PySem.F.slot_list_append PySem.F.type_list_append mt_append (pe_fld (pv 0) rfl) (pa_cons (pe_tup (pa_cons (pv 1) (pa_cons (pv 2) pa_nil))) pa_nil)))), ?_⟩
    refine ⟨_, rfl, p, a.Drafting, dx, _, _, rfl, ds.at_, T.c_Drafting, T.n_Drafting_rows, rfl, .inl ⟨rfl, _, sq_of ds.rws⟩, _, rfl, _, rfl, (by show 2 ≤ sizeLine; decide), fun t nt => ⟨rw, _, _, rfl, rfl, (Ex.new nt) _ _ ds.rws, (by rw [List.length_map, sizeLine_eq]; omega), ?_⟩⟩
    have := hq t nt
    rw [List.map_append] at this
    exact this
theorem ok_add (T : Txt P K mg a) : CallX P w K mg base 1 (.ref a.Drafting_add) [] fun vs zs H Q E => zs = [] ∧ spAdd a vs H Q E := by
  obtain ⟨fd, F, G⟩ := of_add (P := P) (w := w) (mg := mg) (base := base) T
  refine (DefF.call F G 3 1 (by simp) rfl ?_).imp ?_
  · intro T kV doc pm an cdv ct us its h1 h2
    match us, its, h1, h2 with
    | [u1, u2, u3], [i], _, _ => exact ⟨_, rfl, rfl⟩
  · rintro vs zs H Q E ⟨rfl, h⟩
    have h0 := h
    obtain ⟨p, dx, nv, v, gd, rw, n, bg, gs, ts, kvs, z, y, rfl, _⟩ := h0
    exact ⟨rfl, rfl, h⟩
theorem et_notN {te : TE} {σ : L2.St} {H : Hp} {v : V} (h : Ev te σ H v) : EvT (tB (tNotN te)) σ H (!decide (v = V.non)) := et_B fun H1 e Q q => h H1 e _ fun H2 e2 => q H2 e2
theorem valV_one {k : Key} {x : V} : valV [(k, x)] k = some x := by simp [valV]
def spPut (a : Adr) : Sp := fun vs H Q _ => ∃ p dx nv v gd rw n bg ts kvs z, vs = [.ref p, .str z] ∧ DS a H p dx nv v gd rw n bg [] ts kvs ∧ ts.length ≤ 49 ∧ ∀ ts' H', DS a H' p dx nv v gd rw n bg [(.inr z, .int 0)] ts' (kvs ++ [(.inr "put", .int 0)]) → ButL [p, gd, rw] H H' → Q .non H'
theorem ok_put (T : Txt P K mg a) : CallO P w K mg base 2 (.ref a.Drafting_put) (spPut a) := by
  refine fnO (T.d_Drafting_put.okX sc_Drafting_put (fun vs H Q E h => ?_) (fun cdv A outer s H vs Q E hr h => ?_))
  · obtain ⟨p, dx, nv, v, gd, rw, n, bg, ts, kvs, z, rfl, _⟩ := h
    rfl
  · obtain ⟨p, dx, nv, v, gd, rw, n, bg, ts, kvs, z, rfl, ds, hl, hq⟩ := h
    have hu := hu_of hr
    refine ⟨_, (pss_cons (ps_if (PW.pt (pw_and (pt_cmp (pc_notN (pe_fld (pv 0) rfl))) (pw_and1 (pt_cmpR op_gt (pe_callB call_lenD (by rfl) T.b_len (by decide +kernel) (pa_cons (pe_fld (pv 0) rfl) pa_nil)) (pe_fld (pv 0) rfl) (nomark _)))))
 (pss_one ps_dead)
 pss_nil)
 (pss_cons (ps_dput hu (pe_fld (pv 0) rfl) (pv 1) (pe_callB call_lenD (by rfl) T.b_len (by decide +kernel) (pa_cons (pe_fld (pv 0) rfl) pa_nil)) rfl)
 (pss_one (ps_expr (pe_me (pv 0) (takes_of rfl rfl rfl rfl) (pa_cons pe_str (pa_cons (pe_dget hu (pe_fld (pv 0) rfl) (pv 1) (fun _ _ => rfl)) pa_nil)) pk_nil))))), ?_⟩
    refine q_when (b := (!decide (V.non = V.non)) && false) (et_and (et_notN (ev_fld (ev_var rfl) ds.at_ T.c_Drafting T.n_Drafting_most rfl)) fun z => nomatch z) (fun z => nomatch z) fun _ H1 e1 => ?_
    have ds1 := ds.ex e1
    refine ⟨_, rfl, p, a.Drafting, dx, _, _, rfl, ds1.at_, T.c_Drafting, T.n_Drafting_given, rfl, gd, [], rfl, ds1.gv, ?_⟩
    refine ⟨_, rfl, p, a.Drafting, dx, _, _, rfl, ds1.at_, T.c_Drafting, T.n_Drafting_given, rfl, _, rfl, gd, _, rfl, DPut.k (k := .inr z) ds1.gv (by show 0 < sizeLine; decide), ?_⟩
    have ds2 := ds1.give [(.inr z, .int 0)]
    refine ⟨_, rfl, p, a.Drafting, dx, a.Drafting_add, _, 1, _, rfl, ds2.at_, rfl, T.c_Drafting, T.p_Drafting_add, ok_add T, hr.mono (by decide), _, rfl, p, a.Drafting, dx, _, _, rfl, ds2.at_, T.c_Drafting, T.n_Drafting_given, rfl, _, rfl, gd, .int 0, rfl, ?_, ?_⟩
    · have := DGet.k (k := .inr z) ds2.gv
      rw [valV_one] at this
      exact this
    · refine ⟨rfl, p, dx, nv, v, gd, rw, n, bg, _, ts, kvs, "put", .int 0, rfl, ds2, by omega, fun t nt => ?_⟩
      exact hq _ _ (ds2.push (q := (.inr "put", .int 0)) nt) (((ButL.ex e1).trans (ButL.upd (by simp))).trans ((ButL.ex (Ex.new nt)).trans (ButL.upd (by simp))))

end
end BJL

namespace BJL
open PySem PySem.Spec PyProof.Rows L2 BJ
section
variable {P : Program} {w : World} {K : PySem.W.Frag} {mg : Str → Option Value} {base : Heap} {a : Adr}
open Evl
section
variable {H H1 : Hp} {p dx nv gd rw bg : Addr} {v n : Int} {gs kvs : List (Key × V)} {ts : List Addr}
theorem ev_ds {f : Str} {y : V} {σ : L2.St} {i : Nat} (T : Txt P K mg a) (h : DS a H p dx nv v gd rw n bg gs ts kvs) (hi : σ[i]? = some (some (.ref p))) (hn : NoAttr K a.Drafting f) (hl : (DrF nv v gd rw n bg).lookup f = some y) : Ev (tFld K (tVar i) f) σ H y := ev_fld (ev_var hi) h.at_ T.c_Drafting hn hl
end
def spEv (a : Adr) : Sp := fun vs H Q _ => ∃ p dx nv v gd rw n bg gs ts kvs, vs = [.ref p] ∧ DS a H p dx nv v gd rw n bg gs ts kvs ∧ n < 50 ∧ ∀ H', DS a H' p dx nv v gd rw (n + 1) bg gs ts kvs → ButL [p] H H' → Q .non H'
theorem ok_enter_value (T : Txt P K mg a) : CallO P w K mg base 1 (.ref a.Drafting_enter_value) (spEv a) := by
  refine fnO (T.d_Drafting_enter_value.okX sc_Drafting_enter_value (fun vs H Q E h => ?_) (fun cdv A outer s H vs Q E hr h => ?_))
  · obtain ⟨p, dx, nv, v, gd, rw, n, bg, gs, ts, kvs, rfl, _⟩ := h
    rfl
  · obtain ⟨p, dx, nv, v, gd, rw, n, bg, gs, ts, kvs, rfl, ds, hn, hq⟩ := h
    refine ⟨_, (pss_cons (ps_fldaug (pv 0) pe_int in_add)
 (pss_one (ps_if (pt_cmpR op_gt (pe_fld (pv 0) rfl) (pe_glob (v := .int (50)) (by rfl) T.c_MOST_OPEN.choose_spec ⟨_, rfl⟩) (nomark _))
 (pss_one ps_dead)
 pss_nil))), ?_⟩
    refine ⟨_, rfl, p, a.Drafting, dx, _, _, rfl, ds.at_, T.c_Drafting, T.n_Drafting_deep, rfl, _, _, rfl, rfl, dx, _, ds.at_, (by show 7 < 1000; decide), ?_⟩
    have ds1 := ds.deep (n + 1)
    dsimp only
    refine s_when (b := false) (et_is (et_test (ev_op (ev_ds T ds1 rfl T.n_Drafting_deep rfl) ev_c rv_I0)) (decide_eq_false (by omega))) (fun z => nomatch z) fun _ H1 e1 => hq H1 (ds1.ex e1) ((ButL.upd (by simp)).trans (ButL.ex e1))
def spWa (a : Adr) : Sp := fun vs H Q _ => ∃ p dx nv v gd rw n bg gs ts kvs, vs = [.ref p, .int 5, .str "integer"] ∧ DS a H p dx nv v gd rw n bg gs ts kvs ∧ ts.length ≤ 49 ∧ ∀ ts' H', DS a H' p dx nv v gd rw n bg gs ts' (kvs ++ [(.inr (nameOf (.int 5) v), .int 5)]) → ButL [p, gd, rw] H H' → Q .non H'
theorem ok_write_atom (T : Txt P K mg a) : CallO P w K mg base 3 (.ref a.Drafting_write_atom) (spWa a) := by
  have G_integer_name := ok_integer_name (P := P) (w := w) (base := base) (mg := mg) T
  refine fnO (T.d_Drafting_write_atom.okX sc_Drafting_write_atom (fun vs H Q E h => ?_) (fun cdv A outer s H vs Q E hr h => ?_))
  · obtain ⟨p, dx, nv, v, gd, rw, n, bg, gs, ts, kvs, rfl, _⟩ := h
    rfl
  · obtain ⟨p, dx, nv, v, gd, rw, n, bg, gs, ts, kvs, rfl, ds, hl, hq⟩ := h
    refine ⟨_, (pss_one (ps_if (pt_cmpR op_eq (pv 2) pe_str (nomark _))
 (pss_one (ps_expr (pe_me (pv 0) (takes_of rfl rfl rfl rfl) (pa_cons (pe_co G_integer_name (hr.mono (by decide)) rfl T.g_integer_name T.k_integer_name (takes_of rfl rfl rfl rfl) (pa_cons (pv 1) (pa_cons (pe_fld (pv 0) rfl) pa_nil))) (pa_cons (pv 1) pa_nil)) pk_nil)))
 (pss_one (ps_if (pt_cmpR op_eq (pv 2) pe_str (nomark _))
 (pss_one ps_dead)
 (pss_one ps_dead))))), ?_⟩
    refine s_if (b := true) (et_eqV (x := .str "integer") (ev_var rfl) ev_c rfl rfl) (fun _ H1 e1 => ?_) (fun z => nomatch z)
    have ds1 := ds.ex e1
    refine ⟨_, rfl, p, a.Drafting, dx, a.Drafting_add, _, 1, _, rfl, ds1.at_, rfl, T.c_Drafting, T.p_Drafting_add, ok_add T, hr.mono (by decide), _, rfl, _, rfl, p, a.Drafting, dx, _, _, rfl, ds1.at_, T.c_Drafting, T.n_Drafting_edition, rfl, v, rfl, _, rfl, ?_⟩
    refine ⟨rfl, p, dx, nv, v, gd, rw, n, bg, _, ts, kvs, _, _, rfl, ds1, by omega, fun t nt => ?_⟩
    exact hq _ _ (ds1.push (q := (.inr (nameOf (.int 5) v), .int 5)) nt) ((ButL.ex e1).trans ((ButL.ex (Ex.new nt)).trans (ButL.upd (by simp))))
def rowsOf (x : V) (v : Int) : List (Key × V) := match x with
  | .str _ => [(.inr (nameOf x v), x), (.inr "put", .int 0)]
  | _ => [(.inr (nameOf x v), x)]
def spWt (a : Adr) : Sp := fun vs H Q _ => ∃ p dx nv v gd rw n bg ts, vs = [.ref p, .str "salt"] ∧ DS a H p dx nv v gd rw n bg [] ts [] ∧ ∀ gs' ts' H', DS a H' p dx nv v gd rw n bg gs' ts' (rowsOf (.str "salt") v) → ButL [p, gd, rw] H H' → Q .non H'
theorem ok_write_text (T : Txt P K mg a) : CallO P w K mg base 4 (.ref a.Drafting_write_text) (spWt a) := by
  have G_text_name := ok_text_name (P := P) (w := w) (base := base) (mg := mg) T
  refine fnO (T.d_Drafting_write_text.okX sc_Drafting_write_text (fun vs H Q E h => ?_) (fun cdv A outer s H vs Q E hr h => ?_))
  · obtain ⟨p, dx, nv, v, gd, rw, n, bg, ts, rfl, _⟩ := h
    rfl
  · obtain ⟨p, dx, nv, v, gd, rw, n, bg, ts, rfl, ds, hq⟩ := h
    have hu := hu_of hr
    refine ⟨_, (pss_cons (ps_if (pt_cmp (pc_din hu (pv 1) (pe_fld (pv 0) rfl)))
 (pss_cons ps_dead
 (pss_one (ps_retN)))
 pss_nil)
 (pss_cons (ps_expr (pe_me (pv 0) (takes_of rfl rfl rfl rfl) (pa_cons (pe_co G_text_name (hr.mono (by decide)) rfl T.g_text_name T.k_text_name (takes_of rfl rfl rfl rfl) (pa_cons (pv 1) (pa_cons (pe_fld (pv 0) rfl) pa_nil))) (pa_cons (pv 1) pa_nil)) pk_nil))
 (pss_one (ps_if (pt_cmpR op_ge (pe_callB call_len_str (by rfl) T.b_len (by decide +kernel) (pa_cons (pv 1) pa_nil)) (pe_glob (v := .int (4)) (by rfl) T.c_LEAST_SHARED.choose_spec ⟨_, rfl⟩) (nomark _))
 (pss_one (ps_expr (pe_me (pv 0) (takes_of rfl rfl rfl rfl) (pa_cons (pv 1) pa_nil) pk_nil)))
 pss_nil)))), ?_⟩
    have hl : ts.length = 0 := ds.len
    refine q_when (b := false) (et_B fun H1 e Q q => ⟨_, rfl, _, rfl, p, a.Drafting, dx, _, _, rfl, (ds.ex e).at_, T.c_Drafting, T.n_Drafting_given, rfl, gd, none, rfl, .inl ⟨[], .inr "salt", .inl (ds.ex e).gv, rfl, rfl⟩, q H1 (Ex.refl _)⟩) (fun z => nomatch z) fun _ H1 e1 => ?_
    have ds1 := ds.ex e1
    refine ⟨_, rfl, p, a.Drafting, dx, a.Drafting_add, _, 1, _, rfl, ds1.at_, rfl, T.c_Drafting, T.p_Drafting_add, ok_add T, hr.mono (by decide), _, rfl, _, rfl, p, a.Drafting, dx, _, _, rfl, ds1.at_, T.c_Drafting, T.n_Drafting_edition, rfl, v, rfl, _, rfl, ?_⟩
    refine ⟨rfl, p, dx, nv, v, gd, rw, n, bg, _, ts, [], _, _, rfl, ds1, by omega, fun t nt => ?_⟩
    have ds2 := ds1.push (q := (.inr (nameOf (.str "salt") v), .str "salt")) nt
    dsimp only
    refine s_when (b := true) (et_is (et_test (ev_op (ev_cb (ea_cons (ev_var rfl) ea_nil) (fun H1 e Q q => ⟨"salt", rfl, by decide, q H1 (Ex.refl _)⟩)) ev_c rv_I0)) (by decide +kernel)) (fun _ H2 e2 => ?_) (fun z => nomatch z)
    have ds3 := ds2.ex e2
    refine ⟨_, rfl, p, a.Drafting, dx, a.Drafting_put, _, 2, _, rfl, ds3.at_, rfl, T.c_Drafting, T.p_Drafting_put, (ok_put T).x, hr.mono (by decide), _, rfl, rfl, p, dx, nv, v, gd, rw, n, bg, _, _, "salt", rfl, ds3, (by rw [List.length_append]; show ts.length + 1 ≤ 49; omega), fun ts' H' ds4 b4 => ?_⟩
    exact hq _ _ _ ds4 ((((ButL.ex e1).trans ((ButL.ex (Ex.new nt)).trans (ButL.upd (by simp)))).trans (ButL.ex e2)).trans b4)

end
end BJL

namespace BJL
open PySem PySem.Spec PyProof.Rows L2 BJ
section
variable {P : Program} {w : World} {K : PySem.W.Frag} {mg : Str → Option Value} {base : Heap} {a : Adr}
open Evl
def keyOf : V → Key | .str z => .inr z | .int i => .inl i | _ => .inl 0
theorem val_key {x : V} (h : Val x) : x = kV (keyOf x) := by rcases h with rfl | rfl <;> rfl
def spWr (a : Adr) : Sp := fun vs H Q _ => ∃ p dx nv v gd rw bg ts x, vs = [.ref p, x] ∧ Val x ∧ DS a H p dx nv v gd rw 0 bg [] ts [] ∧ ∀ m gs' ts' H', DS a H' p dx nv v gd rw m bg gs' ts' (rowsOf x v) → ButL [p, gd, rw] H H' → Q .non H'
theorem ok_write (T : Txt P K mg a) : CallO P w K mg base 7 (.ref a.Drafting_write) (spWr a) := by
  refine fnO (T.d_Drafting_write.okX sc_Drafting_write (fun vs H Q E h => ?_) (fun cdv A outer s H vs Q E hr h => ?_))
  · obtain ⟨p, dx, nv, v, gd, rw, bg, ts, x, rfl, _⟩ := h
    rfl
  · obtain ⟨p, dx, nv, v, gd, rw, bg, ts, x, rfl, hv, ds, hq⟩ := h
    have hu := hu_of hr
    have hl : ts.length = 0 := ds.len
    refine ⟨_, (pss_cons (ps_expr (pe_me0 (pv 0) (takes_of rfl rfl rfl rfl) pk_nil))
 (pss_cons (ps_set (i := 2) sc_Drafting_write.nd rfl (Or.inl rfl) (pe_me (pe_fld (pv 0) rfl) (takes_of rfl rfl rfl rfl) (pa_cons (pv 1) pa_nil) pk_nil))
 (pss_cons (ps_set (i := 3) sc_Drafting_write.nd rfl (Or.inl rfl) (pe_ifExp (pt_cmp (pc_din hu (pv 1) (pe_fld (pv 0) rfl))) pe_non (pe_me (pe_fld (pv 0) rfl) (takes_of rfl rfl rfl rfl) (pa_cons (pv 1) pa_nil) pk_nil)))
 (pss_cons (ps_if (pt_cmp (pc_notN (pv 3)))
 (pss_one ps_dead)
 (pss_one (ps_if (pt_cmpR op_eq (pv 2) pe_str (nomark _))
 (pss_one (ps_expr (pe_me (pv 0) (takes_of rfl rfl rfl rfl) (pa_cons (pe_me (pe_fld (pv 0) rfl) (takes_of rfl rfl rfl rfl) (pa_cons (pv 1) (pa_cons (pv 2) pa_nil)) pk_nil) pa_nil) pk_nil)))
 (pss_one (ps_if (pt_cmpR op_in_seq (pv 2) (pe_tup (pa_cons pe_str (pa_cons pe_str (pa_cons pe_str pa_nil)))) (by rfl))
 (pss_one (ps_expr (pe_me (pv 0) (takes_of rfl rfl rfl rfl) (pa_cons (pe_me (pe_fld (pv 0) rfl) (takes_of rfl rfl rfl rfl) (pa_cons (pv 1) (pa_cons (pv 2) pa_nil)) pk_nil) (pa_cons (pv 2) pa_nil)) pk_nil)))
 (pss_one (ps_if (pt_cmp (pc_din hu (pv 1) (pe_fld (pv 0) rfl)))
 (pss_one ps_dead)
 (pss_one ps_dead))))))))
 (pss_one (ps_fldaug (pv 0) pe_int in_sub)))))), ?_⟩
    refine ⟨_, rfl, p, a.Drafting, dx, a.Drafting_enter_value, _, 1, _, rfl, ds.at_, rfl, T.c_Drafting, T.p_Drafting_enter_value, (ok_enter_value T).x, hr.mono (by decide), rfl, p, dx, nv, v, gd, rw, 0, bg, _, ts, [], rfl, ds, (by decide), fun H1 ds1 b1 => ?_⟩
    obtain ⟨dnv, r, an, hnv⟩ := ds1.vw
    refine ⟨_, rfl, p, a.Drafting, dx, _, _, rfl, ds1.at_, T.c_Drafting, T.n_Drafting_view, rfl, nv, a.NodeView, dnv, a.NodeView_shape_of, _, 6, _, rfl, hnv, rfl, T.c_NodeView, T.p_NodeView_shape_of, (ok_shape_of T).x, hr.mono (by decide), _, rfl, rfl, _, x, rfl, hv, ?_⟩
    have din : ∀ {σ' : L2.St} {H2 : Hp} {m : Int} {ts : List Addr} {kvs : List (Key × V)}, DS a H2 p dx nv v gd rw m bg [] ts kvs → σ'[1]? = some (some x) → σ'[0]? = some (some (.ref p)) → EvT (tB (tDIn (tVar 1) (tFld K (tVar 0) "given"))) σ' H2 false := fun {σ' H2 m ts kvs} ds h1 h0 => et_B fun H3 e Q q =>
      ⟨_, h1, _, h0, p, a.Drafting, dx, _, _, rfl, (ds.ex e).at_, T.c_Drafting, T.n_Drafting_given, rfl, gd, none, rfl, .inl ⟨[], keyOf x, .inl (ds.ex e).gv, val_key hv, rfl⟩, q H3 (Ex.refl _)⟩
    refine q_asgIf (b := false) (din ds1 rfl rfl) (fun z => nomatch z) fun _ H2 e2 => ?_
    have ds2 := ds1.ex e2
    refine ⟨_, rfl, p, a.Drafting, dx, _, _, rfl, ds2.at_, T.c_Drafting, T.n_Drafting_view, rfl, nv, a.NodeView, dnv, a.NodeView_label, _, 1, _, rfl, e2 _ _ hnv, rfl, T.c_NodeView, T.p_NodeView_label, (ok_label T).x, hr.mono (by decide), _, rfl, rfl, nv, dnv, r, an, x, rfl, e2 _ _ hnv, ?_⟩
    have fin : ∀ {σ' : L2.St} {H3 : Hp} {m : Int} {gs' : List (Key × V)} {ts' : List Addr}, DS a H3 p dx nv v gd rw m bg gs' ts' (rowsOf x v) → ButL [p, gd, rw] H H3 → σ'[0]? = some (some (.ref p)) → sFldAug K (tVar 0) (tC (.int 1)) (ipI fun i j => i - j) "deep" { nx := fun _ H' => Q .non H', rt := Q } σ' H3 := fun {σ' H3 m gs' ts'} ds3 b3 h0 =>
      ⟨_, h0, p, a.Drafting, dx, _, _, rfl, ds3.at_, T.c_Drafting, T.n_Drafting_deep, rfl, _, _, rfl, rfl, dx, _, ds3.at_, (by show 7 < 1000; decide), hq _ _ _ _ (ds3.deep (m - 1)) (b3.trans (ButL.upd (by simp)))⟩
    have b2 : ButL [p, gd, rw] H H2 := (b1.mono (by simp)).trans (ButL.ex e2)
    dsimp only
    refine q_if (b := !decide (V.non = V.non)) (et_notN (ev_var rfl)) (fun z => nomatch z) fun _ H3 e3 => ?_
    have ds3 := ds2.ex e3
    have b3 := b2.trans (ButL.ex e3)
    obtain ⟨dnv3, r3, an3, hnv3⟩ := ds3.vw
    rcases hv with rfl | rfl
    · refine s_if (b := true) (et_eqV (x := .str "text") (ev_var rfl) ev_c rfl rfl) (fun _ H4 e4 => ?_) (fun z => nomatch z)
      have ds4 := ds3.ex e4
      refine ⟨_, rfl, p, a.Drafting, dx, a.Drafting_write_text, _, 4, _, rfl, ds4.at_, rfl, T.c_Drafting, T.p_Drafting_write_text, (ok_write_text T).x, hr.mono (by decide), _, rfl, p, a.Drafting, dx, _, _, rfl, ds4.at_, T.c_Drafting, T.n_Drafting_view, rfl, nv, a.NodeView, dnv3, a.NodeView_plain, _, 1, _, rfl, e4 _ _ hnv3, rfl, T.c_NodeView, T.p_NodeView_plain, (ok_plain T).x, hr.mono (by decide), _, rfl, _, rfl, rfl, _, .str "salt", rfl, .inl rfl, ?_⟩
      refine ⟨rfl, p, dx, nv, v, gd, rw, _, bg, ts, rfl, ds4, fun gs' ts' H' ds5 b5 => ?_⟩
      exact fin ds5 ((b3.trans (ButL.ex e4)).trans b5) rfl
    · refine s_if (b := false) (et_eqV (x := .str "integer") (ev_var rfl) ev_c rfl (by decide +kernel)) (fun z => nomatch z) fun _ H4 e4 => ?_
      refine s_if (b := true) (et_inU (x := .str "integer") (xs := [.str "none", .str "truth", .str "integer"]) (ev_var rfl) (eu_tup (ea_cons ev_c (ea_cons ev_c (ea_cons ev_c ea_nil))) (by decide)) rfl rfl (by decide +kernel)) (fun _ H5 e5 => ?_) (fun z => nomatch z)
      have ds4 := ds3.ex (e4.trans e5)
      refine ⟨_, rfl, p, a.Drafting, dx, a.Drafting_write_atom, _, 3, _, rfl, ds4.at_, rfl, T.c_Drafting, T.p_Drafting_write_atom, (ok_write_atom T).x, hr.mono (by decide), _, rfl, p, a.Drafting, dx, _, _, rfl, ds4.at_, T.c_Drafting, T.n_Drafting_view, rfl, nv, a.NodeView, dnv3, a.NodeView_plain, _, 1, _, rfl, (e4.trans e5) _ _ hnv3, rfl, T.c_NodeView, T.p_NodeView_plain, (ok_plain T).x, hr.mono (by decide), _, rfl, _, rfl, rfl, _, .int 5, rfl, .inr rfl, _, rfl, ?_⟩
      refine ⟨rfl, p, dx, nv, v, gd, rw, _, bg, _, ts, [], rfl, ds4, by omega, fun ts' H' ds5 b5 => ?_⟩
      exact fin ds5 ((b3.trans (ButL.ex (e4.trans e5))).trans b5) rfl

end
end BJL

namespace BJL
open PySem PySem.Spec PyProof.Rows L2 BJ
section
variable {P : Program} {w : World} {K : PySem.W.Frag} {mg : Str → Option Value} {base : Heap} {a : Adr}
open Evl
def spFu (a : Adr) : Sp := fun vs H Q _ => ∃ x nv dnv r an v gd, vs = [x, .ref nv, .int v, .ref gd, .non] ∧ Val x ∧ H nv = some (.ins a.NodeView dnv (NvF r an)) ∧ H gd = some (.dK []) ∧
  ∀ rw ts' H', SameBut gd H H' → H' rw = some (.lst (ts'.map V.ref)) → Prs H' ts' (rowsOf x v) → Q (.ref rw) H'
theorem of_full_rows (T : Txt P K mg a) : ∃ fd, FunD K "full_rows" "full_rows" (defArgs s_full_rows) (defBody s_full_rows) (defScope s_full_rows) [.non] [] a.full_rows fd ∧ FnOk P w K mg base (L2.CX P w) 8 a.full_rows fd ["value", "view", "version", "numbers", "most"] (spFu a) := by
  have G_Drafting := ok_Drafting (P := P) (w := w) (base := base) (mg := mg) T
  refine T.d_full_rows.ok sc_full_rows (fun vs H Q E h => ?_) (fun cdv A outer s H vs Q E hr h => ?_)
  · obtain ⟨x, nv, dnv, r, an, v, gd, rfl, _⟩ := h
    rfl
  · obtain ⟨x, nv, dnv, r, an, v, gd, rfl, hv, hnv, hgd, hq⟩ := h
    refine ⟨_, (pss_cons (ps_set (i := 5) sc_full_rows.nd rfl (Or.inl rfl) (pe_cx G_Drafting (hr.mono (by decide)) rfl T.g_Drafting T.k_Drafting (takes_of rfl rfl rfl rfl) (pa_cons (pv 1) (pa_cons (pv 2) (pa_cons (pv 3) (pa_cons (pv 4) pa_nil)))) pk_nil))
 (pss_cons (ps_expr (pe_me (pv 5) (takes_of rfl rfl rfl rfl) (pa_cons (pv 0) pa_nil) pk_nil))
 (pss_one (ps_ret (pe_fld (pv 5) rfl))))), ?_⟩
    refine ⟨_, rfl, _, rfl, _, rfl, _, rfl, nv, v, gd, rfl, rfl, fun p dx rw bg H1 np nrw hrp e1 hrw hp => ?_⟩
    have ds : DS a H1 p dx nv v gd rw 0 bg [] [] [] := ⟨hp, ⟨dnv, r, an, e1 _ _ hnv⟩, e1 _ _ hgd, hrw, .nil⟩
    refine ⟨_, rfl, p, a.Drafting, dx, a.Drafting_write, _, 7, _, rfl, hp, rfl, T.c_Drafting, T.p_Drafting_write, (ok_write T).x, hr.mono (by decide), _, rfl, rfl, p, dx, nv, v, gd, rw, bg, [], x, rfl, hv, ds, fun m gs' ts' H2 ds2 b2 => ?_⟩
    refine ⟨_, rfl, p, a.Drafting, dx, _, _, rfl, ds2.at_, T.c_Drafting, T.n_Drafting_rows, rfl, hq rw ts' H2 (fun b o hbg hb => b2 b o (fun hm => ?_) (e1 _ _ hb)) ds2.rws ds2.prs⟩
    simp only [List.mem_cons, List.not_mem_nil, or_false] at hm
    rcases hm with rfl | rfl | rfl
    · rw [np] at hb; cases hb
    · exact hbg rfl
    · rw [nrw] at hb; cases hb
theorem ok_full_rows (T : Txt P K mg a) : CallX P w K mg base 8 (.ref a.full_rows) [] fun vs zs H Q E => zs = [] ∧ vs.length = 4 ∧ spFu a (vs ++ [.non]) H Q E := by
  obtain ⟨fd, F, G⟩ := of_full_rows (P := P) (w := w) (mg := mg) (base := base) T
  refine (DefF.call F G 4 0 (by simp) rfl ?_).imp ?_
  · intro T kV doc pm an cdv ct us its h1 h2
    match us, its, h1, h2 with
    | [u1, u2, u3, u4], [i], _, _ => exact ⟨_, rfl, rfl⟩
  · rintro vs zs H Q E ⟨rfl, h1, h⟩
    exact ⟨h1, rfl, h⟩
theorem row_val {x : V} (hx : Val x) {v : Int} (hv : Ver v) : ∃ is, Row8 (nameOf x v) x is ∧ nameOf x v ≠ "stop" ∧ Plain (nameOf x v) ∧ (rowsOf x v).filter isP = [(.inr (nameOf x v), x)] ∧ (∀ q ∈ rowsOf x v, Rw q) ∧ (rowsOf x v).length ≤ 5 := by
  have key : ∀ z : Str, z ≠ "put" → z ≠ "get" → z ≠ "stop" → ∀ is, Row8 z x is → nameOf x v = z → ∃ is, Row8 (nameOf x v) x is ∧ nameOf x v ≠ "stop" ∧ Plain (nameOf x v) ∧ (rowsOf x v).filter isP = [(.inr (nameOf x v), x)] ∧ (∀ q ∈ rowsOf x v, Rw q) ∧ (rowsOf x v).length ≤ 5 := by
    intro z z1 z2 z3 is h8 hz
    have hp1 : isP (.inr (nameOf x v), x) = true := decide_eq_true fun e => z1 (by rw [hz] at e; exact Sum.inr.inj e)
    have hp2 : isP ((.inr "put" : Key), V.int 0) = false := by decide +kernel
    rw [hz] at hp1 ⊢
    refine ⟨is, h8, z3, ⟨z1, z2⟩, ?_, ?_, ?_⟩
    · rcases hx with rfl | rfl
      · show List.filter isP [(.inr (nameOf (.str "salt") v), .str "salt"), (.inr "put", .int 0)] = _
        rw [hz]
        simp [hp1, hp2]
      · show List.filter isP [(.inr (nameOf (.int 5) v), .int 5)] = _
        rw [hz]
        simp [hp1]
    · rcases hx with rfl | rfl
      · intro q hq
        have hq : q ∈ [((.inr (nameOf (.str "salt") v) : Key), V.str "salt"), (.inr "put", .int 0)] := hq
        rw [hz] at hq
        simp only [List.mem_cons, List.not_mem_nil, or_false] at hq
        rcases hq with rfl | rfl
        · exact .inr ⟨z, rfl, z1, z2⟩
        · exact .inl rfl
      · intro q hq
        have hq : q ∈ [((.inr (nameOf (.int 5) v) : Key), V.int 5)] := hq
        rw [hz] at hq
        rw [List.mem_singleton.mp hq]
        exact .inr ⟨z, rfl, z1, z2⟩
    · rcases hx with rfl | rfl
      · show 2 ≤ 5; decide
      · show 1 ≤ 5; decide
  rcases id hx with rfl | rfl
  · by_cases h1 : v = 1
    · exact key "text-line" (by decide) (by decide) (by decide) [169, 115, 97, 108, 116, 10] ⟨⟨_, 169, .inl ⟨rfl, rfl, rfl⟩, by decide +kernel, by rw [salt_codes]; rfl⟩, by decide, by decide, by decide⟩ (if_pos h1)
    · by_cases h2 : v > 2
      · exact key "text-short" (by decide) (by decide) (by decide) [171, 4, 115, 97, 108, 116] ⟨⟨_, 171, .inr (.inr (.inl ⟨rfl, rfl, rfl⟩)), by decide +kernel, by rw [salt_codes]; rfl⟩, by decide, by decide, by decide⟩ ((if_neg h1).trans (if_pos h2))
      · exact key "text-wide" (by decide) (by decide) (by decide) [170, 4, 0, 0, 0, 115, 97, 108, 116] ⟨⟨_, 170, .inr (.inl ⟨rfl, rfl, rfl⟩), by decide +kernel, by rw [salt_codes]; rfl⟩, by decide, by decide, by decide⟩ ((if_neg h1).trans (if_neg h2))
  · by_cases h1 : v = 1
    · exact key "integer-line" (by decide) (by decide) (by decide) [166, 53, 10] ⟨⟨_, 166, .inr (.inr (.inr (.inl ⟨rfl, rfl, rfl⟩))), by decide +kernel, rfl⟩, by decide, by decide, by decide⟩ (if_pos h1)
    · exact key "integer-octet" (by decide) (by decide) (by decide) [167, 5] ⟨⟨_, 167, .inr (.inr (.inr (.inr (.inl ⟨rfl, rfl, rfl⟩)))), by decide +kernel, rfl⟩, by decide, by decide, by decide⟩ (if_neg h1)
def spDu (K : PySem.W.Frag) : Sp := fun vs H Q _ => ∃ x v, vs = [x, .non, .int v, .non] ∧ Val x ∧ Ver v ∧ GivO 100 K H Q
theorem of_dump (T : Txt P K mg a) (hw : a.par = w.params) : ∃ fd, FunD K "dump" "dump" (defArgs s_dump) (defBody s_dump) (defScope s_dump) [.non] [("version", .int 4), ("outside", .non)] a.dump fd ∧ FnOk P w K mg base (L2.CX P w) 9 a.dump fd ["value", "registry", "version", "outside"] (spDu K) := by
  have G_check_version := ok_check_version (P := P) (w := w) (base := base) (mg := mg) T
  have G_full_rows := ok_full_rows (P := P) (w := w) (base := base) (mg := mg) T
  have G_NodeView := ok_NodeView (P := P) (w := w) (base := base) (mg := mg) T
  have G_sealed := ok_sealed (P := P) (w := w) (base := base) (mg := mg) T hw
  have G_named_rows := ok_named_rows (P := P) (w := w) (base := base) (mg := mg) T
  have G_least_rows := ok_least_rows (P := P) (w := w) (base := base) (mg := mg) T
  refine T.d_dump.ok sc_dump (fun vs H Q E h => ?_) (fun cdv A outer s H vs Q E hr h => ?_)
  · obtain ⟨x, v, rfl, _⟩ := h
    rfl
  · obtain ⟨x, v, rfl, hx, hv, hq⟩ := h
    refine ⟨_, (pss_cons (ps_expr (pe_co G_check_version (hr.mono (by decide)) rfl T.g_check_version T.k_check_version (takes_of rfl rfl rfl rfl) (pa_cons (pv 2) pa_nil)))
 (pss_cons (ps_set (i := 4) sc_dump.nd rfl (Or.inl rfl) (pe_cx G_full_rows (hr.mono (by decide)) rfl T.g_full_rows T.k_full_rows (takes_of rfl rfl rfl rfl) (pa_cons (pv 0) (pa_cons (pe_cx G_NodeView (hr.mono (by decide)) rfl T.g_NodeView T.k_NodeView (takes_of rfl rfl rfl rfl) (pa_cons (pv 1) (pa_cons (pv 3) pa_nil)) pk_nil) (pa_cons (pv 2) (pa_cons pe_dnewK pa_nil)))) pk_nil))
 (pss_one (ps_ret (pe_co G_sealed (hr.mono (by decide)) rfl T.g_sealed T.k_sealed (takes_of rfl rfl rfl rfl) (pa_cons (pe_co G_named_rows (hr.mono (by decide)) rfl T.g_named_rows T.k_named_rows (takes_of rfl rfl rfl rfl) (pa_cons (pe_co G_least_rows (hr.mono (by decide)) rfl T.g_least_rows T.k_least_rows (takes_of rfl rfl rfl rfl) (pa_cons (pv 4) pa_nil)) (pa_cons (pv 2) pa_nil))) (pa_cons (pv 2) pa_nil))))))), ?_⟩
    obtain ⟨is, h8, hns, hpl, hfl, hrw, hlen⟩ := row_val hx hv
    refine ⟨_, rfl, v, rfl, hv, ?_⟩
    refine ⟨_, rfl, _, rfl, _, rfl, rfl, rfl, fun nv dnv r an H1 nnv e1 hnv => ⟨_, rfl, fun gd ngd => ⟨rfl, rfl, x, nv, dnv, r, an, v, gd, rfl, hx, (Ex.new ngd) _ _ hnv, upd_same, fun rw1 ts H2 sb hl hP => ?_⟩⟩⟩
    have ngd0 : H gd = none := fresh_back e1 ngd
    have e2 : Ex H H2 := fun b o hb => sb b o (fun z => by rw [z, ngd0] at hb; cases hb) ((Ex.new ngd) _ _ (e1 _ _ hb))
    refine ⟨_, rfl, rw1, ts, _, rfl, sq_of hl, hP, hlen, hrw, fun l2 us H3 e3 hl3 hP3 => ?_⟩
    rw [hfl] at hP3
    refine ⟨_, rfl, l2, us, _, v, rfl, sq_of hl3, hP3, (by show 1 ≤ 5; decide), (fun q hq1 => by rw [List.mem_singleton.mp hq1]; exact ⟨_, rfl, hpl⟩), fun l3 us2 H4 e4 hl4 hP4 => ?_⟩
    exact ⟨_, rfl, l3, us2, v, _, x, is, rfl, hv, hl4, hP4, hns, h8, fun p H5 js e5 hp hj => hq p H5 js (((e2.trans e3).trans e4).trans e5) hp hj⟩
theorem ok_dump (T : Txt P K mg a) (hw : a.par = w.params) : CallX P w K mg base 9 (.ref a.dump) ["version"] fun vs zs H Q E => vs.length = 2 ∧ zs.length = 1 ∧ spDu K (vs ++ zs ++ [.non]) H Q E := by
  obtain ⟨fd, F, G⟩ := of_dump (P := P) (w := w) (mg := mg) (base := base) T hw
  obtain ⟨its, mv, hb⟩ := F.kbinds (ps := ["value", "registry", "version", "outside"]) 2 ["version"] [("outside", .non)] (fun us _ mv ws => us ++ ws ++ mv) (by simp) (by simp) (by simp) (fun r1 _ r3 r4 => (r1.append r4).append r3) (fun T D doc pm an cdv ct us its mv ws h1 h2 h3 h4 => by
    match us, its, mv, ws, h1, h2, h3, h4 with
    | [u1, u2], [i], [m], [w1], _, _, _, _ => exact ⟨_, rfl, _, _, _, _, _, _, rfl, rfl, rfl⟩)
  exact callX_of G hb

end
end BJL

namespace BJL
open PySem PySem.Spec PyProof.Rows L2 BJ
section
variable {P : Program} {w : World} {K : PySem.W.Frag} {mg : Str → Option Value} {base : Heap} {a : Adr}
open Evl
/-- the names of streams that the law uses -/
def Jn (z : Str) : Prop := z = "a" ∨ z = "c"
theorem rv_leS {x y : Str} {H : Hp} : RV (fun x y H Q => ∃ i j, x = .str i ∧ y = .str j ∧ Q (.bl (!decide (j.cps.toList < i.cps.toList))) H) (.str x) (.str y) H (.bl (!decide (y.cps.toList < x.cps.toList))) := fun H1 _ Q q => ⟨x, y, rfl, rfl, q H1 (Ex.refl _)⟩
theorem ev_andV {ta tb : TE} {σ : L2.St} {H : Hp} {b : Bool} (h1 : Ev ta σ H (.bl true)) (h2 : Ev tb σ H (.bl b)) : Ev (tAndV ta tb) σ H (.bl b) := fun H1 e Q q => h1 H1 e _ fun H2 e2 => ⟨true, rfl, if_pos rfl ▸ h2 H2 (e.trans e2) Q fun H3 e3 => q H3 (e2.trans e3)⟩
theorem rv_is {r : R2} {x y z z' : V} {H : Hp} (h : RV r x y H z) (e : z = z') : RV r x y H z' := e ▸ h
theorem ev_end {te : TE} {σ : L2.St} {H : Hp} {v : V} {Q : VK} (h : Ev te σ H v) (q : ∀ H', Ex H H' → Q v H') : te σ H Q := h H (Ex.refl _) _ q
theorem ok_is_jar_name (T : Txt P K mg a) : CallO P w K mg base 1 (.ref a.is_jar_name) (fun vs H Q _ => ∃ z, vs = [.str z] ∧ Jn z ∧ ∀ H', Ex H H' → Q (.bl true) H') := by
  refine fnO (T.d_is_jar_name.okX sc_is_jar_name (fun vs H Q E h => ?_) (fun cdv A outer s H vs Q E hr h => ?_))
  · obtain ⟨z, rfl, _⟩ := h
    rfl
  · obtain ⟨z, rfl, hz, hq⟩ := h
    refine ⟨_, (pss_one (ps_ret (pe_and (pe_callB (call_isG' (K := K) rfl) (by rfl) T.b_isinstance (by decide +kernel) (pa_cons (pv 0) (pa_cons (pe_bltn (v := .ty "str") (u := .type "str") (by rfl) T.b_str (by decide +kernel) (by exact rfl)) pa_nil))) (pe_and (pe_chain op_le op_le pe_int (pe_callB call_len_str (by rfl) T.b_len (by decide +kernel) (pa_cons (pv 0) pa_nil)) pe_int) (pe_one (pe_callB (cr_all rfl) (by rfl) T.b_all (by decide +kernel) (pa_cons (pe_lc (own := [("sign", 1)]) (g := (gName 1)) (by rfl) sc_is_jar_name.nd (pi_str (pv 0)) (blkOk_by (own := [("sign", 1)]) (N := ["thing", "sign"]) (sc := defScope s_is_jar_name) (by decide +kernel)) (fun _ _ _ _ _ => (pg_name (i := 1) sc_is_jar_name.nd rfl (Or.inl rfl))) (fun _ _ _ _ _ => pts_nil) (fun _ _ _ _ _ => (pe_chain op_le_str op_le_str pe_str (pv 1) pe_str))) pa_nil))))))), ?_⟩
    have hl : z.length = 1 := by rcases hz with rfl | rfl <;> decide +kernel
    have hc : ∀ c ∈ z.cps.toList, c = 97 ∨ c = 99 := by
      intro c hc
      rcases hz with rfl | rfl
      · have : c ∈ [97] := hc
        exact .inl (List.mem_singleton.mp this)
      · have : c ∈ [99] := hc
        exact .inr (List.mem_singleton.mp this)
    have hch : ∀ x ∈ (z.cps.toList.map fun c => V.str ⟨#[c]⟩), ∀ (σ' : L2.St) (H1 : Hp), σ'[1]? = some (some x) → Ev (tChain (fun x y H Q => ∃ i j, x = .str i ∧ y = .str j ∧ Q (.bl (!decide (j.cps.toList < i.cps.toList))) H) (fun x y H Q => ∃ i j, x = .str i ∧ y = .str j ∧ Q (.bl (!decide (j.cps.toList < i.cps.toList))) H) (tC (.str "a")) (tVar 1) (tC (.str "z"))) σ' H1 (.bl true) := by
      intro x hx σ' H1 h1
      obtain ⟨c, hcm, rfl⟩ := List.mem_map.mp hx
      refine ev_chain (k := true) ev_c (ev_var h1) (rv_is rv_leS ?_) (fun _ => ⟨ev_c, rv_is rv_leS ?_⟩) (fun z => nomatch z)
      · rcases hc c hcm with rfl | rfl <;> exact congrArg V.bl (by decide +kernel)
      · rcases hc c hcm with rfl | rfl <;> exact congrArg V.bl (by decide +kernel)
    refine ev_end (ev_andV (ev_cb (ea_cons (ev_var rfl) (ea_cons ev_c ea_nil)) (rc_is (K := K) (.base (.str z)) kSS)) (ev_andV (ev_chain (k := true) ev_c (ev_cb (ea_cons (ev_var rfl) ea_nil) (fun H1 e Q q => ⟨z, rfl, by rw [hl]; decide, q H1 (Ex.refl _)⟩)) (rv_is rv_I0 ?_) (fun _ => ⟨ev_c, rv_is rv_I0 ?_⟩) (fun z => nomatch z)) ?_)) hq
    · rw [hl]; rfl
    · rw [hl]; rfl
    · have el := el_all (wi := iStr (tVar 0)) (j := 1) (vs := [1]) (σ := [some (.str z), none]) (H := H) (te := tChain (fun x y H Q => ∃ i j, x = .str i ∧ y = .str j ∧ Q (.bl (!decide (j.cps.toList < i.cps.toList))) H) (fun x y H Q => ∃ i j, x = .str i ∧ y = .str j ∧ Q (.bl (!decide (j.cps.toList < i.cps.toList))) H) (tC (.str "a")) (tVar 1) (tC (.str "z"))) (ei_str (ev_var rfl)) (fun _ => V.bl true) (by rw [List.length_map, Array.length_toList]; have : z.cps.size = 1 := hl; rw [this]; decide) (fun _ => rfl) (fun x hx H1 e1 => ?_)
      · have h2 := ev_allL (K := K) (bs := (z.cps.toList.map fun c => V.str ⟨#[c]⟩).map fun _ => true) (by rw [List.map_map]; exact el)
        rw [show (((z.cps.toList.map fun c => V.str ⟨#[c]⟩).map fun _ => true).all id) = true by simp] at h2
        exact h2
      · exact hch x hx _ H1 rfl
theorem ok_check_name (T : Txt P K mg a) : CallO P w K mg base 2 (.ref a.check_name) (fun vs H Q _ => ∃ z, vs = [.str z] ∧ Jn z ∧ ∀ H', Ex H H' → Q .non H') := by
  have G_is_jar_name := ok_is_jar_name (P := P) (w := w) (base := base) (mg := mg) T
  refine fnO (T.d_check_name.okX sc_check_name (fun vs H Q E h => ?_) (fun cdv A outer s H vs Q E hr h => ?_))
  · obtain ⟨z, rfl, _⟩ := h
    rfl
  · obtain ⟨z, rfl, hz, hq⟩ := h
    refine ⟨_, (pss_one (ps_if (pt_not (pt_val (pe_co G_is_jar_name (hr.mono (by decide)) rfl T.g_is_jar_name T.k_is_jar_name (takes_of rfl rfl rfl rfl) (pa_cons (pv 0) pa_nil))))
 (pss_one ps_dead)
 pss_nil)), ?_⟩
    exact ⟨_, rfl, z, rfl, hz, fun H' e => ⟨_, rfl, hq H' e⟩⟩
/-- a jar -/
def JF (sh : Addr) (v : Int) (pa : Addr) : List (Str × V) := [("known", .non), ("shelf", .ref sh), ("layout", .int v), ("past", .ref pa)]
structure JS (a : Adr) (H : Hp) (p dx sh : Addr) (v : Int) (pa : Addr) (kvs : List (Key × V)) (xs : List V) : Prop where
  at_ : H p = some (.ins a.Jar dx (JF sh v pa))
  sv : H sh = some (.dK kvs)
  pv : H pa = some (.lst xs)
theorem JS.ex {H H1 : Hp} {p dx sh pa : Addr} {v : Int} {kvs : List (Key × V)} {xs : List V} (h : JS a H p dx sh v pa kvs xs) (e : Ex H H1) : JS a H1 p dx sh v pa kvs xs := ⟨e _ _ h.at_, e _ _ h.sv, e _ _ h.pv⟩
def spJi (a : Adr) : Sp := fun vs H Q E => ∃ p dx v, vs = [.ref p, .non, .int v] ∧ Ver v ∧ H p = some (.ins a.Jar dx []) ∧ ∀ H' sh pa, ExB p H H' → H sh = none → H pa = none → JS a H' p dx sh v pa [] [] → Q .non H'
theorem of_Jar_init (T : Txt P K mg a) : ∃ fd, FunD K "__init__" "Jar.__init__" (defArgs s_Jar___init__) (defBody s_Jar___init__) (defScope s_Jar___init__) [.non] [("version", .int 4)] a.Jar___init__ fd ∧ FnOk P w K mg base (L2.CX P w) 4 a.Jar___init__ fd ["self", "registry", "version"] (spJi a) := by
  have G_check_version := ok_check_version (P := P) (w := w) (base := base) (mg := mg) T
  refine T.d_Jar___init__.ok sc_Jar___init__ (fun vs H Q E h => ?_) (fun cdv A outer s H vs Q E hr h => ?_)
  · obtain ⟨p, dx, v, rfl, _⟩ := h
    rfl
  · obtain ⟨p, dx, v, rfl, hv, hp, hq⟩ := h
    refine ⟨_, (pss_cons (ps_expr (pe_co G_check_version (hr.mono (by decide)) rfl T.g_check_version T.k_check_version (takes_of rfl rfl rfl rfl) (pa_cons (pv 2) pa_nil)))
 (pss_cons (ps_fld (pv 0) (pv 1) rfl)
 (pss_cons (ps_fld (pv 0) pe_dnewK rfl)
 (pss_cons (ps_fld (pv 0) (pv 2) rfl)
 (pss_one (ps_fld (pv 0) (pe_lst pa_nil) rfl)))))), ?_⟩
    refine ⟨_, rfl, v, rfl, hv, ?_⟩
    refine ⟨_, rfl, _, rfl, p, a.Jar, dx, [], rfl, hp, T.c_Jar, T.n_Jar_known, (by decide), ?_⟩
    refine fun sh nsh => ⟨_, rfl, p, a.Jar, dx, _, rfl, (Ex.new nsh) _ _ upd_same, T.c_Jar, T.n_Jar_shelf, (by show 1 < 1000; decide), ?_⟩
    refine ⟨_, rfl, _, rfl, p, a.Jar, dx, _, rfl, upd_same, T.c_Jar, T.n_Jar_layout, (by show 2 < 1000; decide), ?_⟩
    refine ⟨Nat.zero_le _, fun pa npa => ⟨_, rfl, p, a.Jar, dx, _, rfl, (Ex.new npa) _ _ upd_same, T.c_Jar, T.n_Jar_past, (by show 3 < 1000; decide), ?_⟩⟩
    have shp : sh ≠ p := fun z => by rw [z, upd_same] at nsh; cases nsh
    have pap : pa ≠ p := fun z => by rw [z, upd_same] at npa; cases npa
    have nsh0 : H sh = none := by rw [upd_ne shp] at nsh; exact nsh
    have pas : pa ≠ sh := fun z => by rw [z, upd_ne shp, upd_ne shp, upd_same] at npa; cases npa
    have npa0 : H pa = none := by rw [upd_ne pap, upd_ne pap, upd_ne pas, upd_ne pap] at npa; exact npa
    refine hq _ sh pa (fun b o hb hbp => ?_) nsh0 npa0 ⟨upd_same, ?_, ?_⟩
    · rw [upd_ne hbp]
      refine (Ex.new npa) _ _ ?_
      rw [upd_ne hbp, upd_ne hbp]
      refine (Ex.new nsh) _ _ ?_
      rw [upd_ne hbp]
      exact hb
    · rw [upd_ne shp, upd_ne pas.symm, upd_ne shp, upd_ne shp]
      exact upd_same
    · rw [upd_ne pap]
      exact upd_same
theorem ok_Jar_init (T : Txt P K mg a) : CallX P w K mg base 4 (.ref a.Jar___init__) ["version"] fun vs zs H Q E => vs.length = 1 ∧ zs.length = 1 ∧ spJi a (vs ++ [.non] ++ zs) H Q E := by
  obtain ⟨fd, F, G⟩ := of_Jar_init (P := P) (w := w) (mg := mg) (base := base) T
  obtain ⟨its, mv, hb⟩ := F.kbinds (ps := ["self", "registry", "version"]) 1 ["version"] [] (fun us ds _ ws => us ++ ds ++ ws) (by simp) (by simp) (by simp) (fun r1 r2 _ r4 => (r1.append r2).append r4) (fun T D doc pm an cdv ct us its mv ws h1 h2 h3 h4 => by
    match us, its, mv, ws, h1, h2, h3, h4 with
    | [u1], [i], [], [w1], _, _, _, _ => exact ⟨_, rfl, rfl⟩)
  exact callX_of G hb
theorem ok_Jar (T : Txt P K mg a) : CallX P w K mg base 5 (.ref a.Jar) ["version"] fun vs zs H Q E => ∃ v, vs = [] ∧ zs = [.int v] ∧ Ver v ∧ ∀ p dx sh pa H', H p = none → H sh = none → H pa = none → Ex H H' → JS a H' p dx sh v pa [] [] → Q (.ref p) H' := by
  refine (CallX.make T.m_Jar (ok_Jar_init T)).imp ?_
  rintro vs zs H Q E ⟨v, rfl, rfl, hv, hq⟩ p dx hp hd ne hs
  have e1 : Ex H (upd (upd H dx (.own p)) p (.ins a.Jar dx [])) := (Ex.new hd).trans (Ex.new (by rw [upd_ne ne.symm]; exact hp))
  refine ⟨rfl, rfl, p, dx, v, rfl, hv, upd_same, fun H' sh pa he nsh npa js => ⟨rfl, hq p dx sh pa H' hp (fresh_back e1 nsh) (fresh_back e1 npa) (fun b o hb => he b o (e1 b o hb) fun z => ?_) js⟩⟩
  rw [z, hp] at hb
  cases hb

end
end BJL

namespace BJL
open PySem PySem.Spec PyProof.Rows L2 BJ
section
variable {P : Program} {w : World} {K : PySem.W.Frag} {mg : Str → Option Value} {base : Heap} {a : Adr}
open Evl
def spCt (a : Adr) : Sp := fun vs H Q _ => ∃ p dx sh v pa kvs xs sh2 kvs2, vs = [.ref p, .ref sh2, .int v] ∧ JS a H p dx sh v pa kvs xs ∧ xs.length ≤ 10 ∧ H sh2 = some (.dK kvs2) ∧ ∀ t H', JS a H' p dx sh2 v pa kvs2 (xs ++ [.ref t]) → ButL [p, pa] H H' → Q .non H'
theorem ok_change_to (T : Txt P K mg a) : CallO P w K mg base 1 (.ref a.Jar_change_to) (spCt a) := by
  refine fnO (T.d_Jar_change_to.okX sc_Jar_change_to (fun vs H Q E h => ?_) (fun cdv A outer s H vs Q E hr h => ?_))
  · obtain ⟨p, dx, sh, v, pa, kvs, xs, sh2, kvs2, rfl, _⟩ := h
    rfl
  · obtain ⟨p, dx, sh, v, pa, kvs, xs, sh2, kvs2, rfl, js, hl, h2, hq⟩ := h
    refine ⟨_, (pss_cons (ps_expr (pe_bm PySem.F.plainAttrs_list PySem.F.slot_list_append PySem.F.type_list_append mt_append (pe_fld (pv 0) rfl) (pa_cons (pe_tup (pa_cons (pe_fld (pv 0) rfl) (pa_cons (pe_fld (pv 0) rfl) pa_nil))) pa_nil)))
 (pss_one (ps_asg (pe_tup (pa_cons (pv 1) (pa_cons (pv 2) pa_nil))) (pg_tup rfl (pgs_cons (pg_fld (pv 0)) (pgs_cons (pg_fld (pv 0)) pgs_nil))) (by rfl)))), ?_⟩
    have spa : sh2 ≠ pa := fun z => by rw [z, js.pv] at h2; cases h2
    have sp : sh2 ≠ p := fun z => by rw [z, js.at_] at h2; cases h2
    have ppa : p ≠ pa := fun z => by have := js.pv; rw [← z, js.at_] at this; cases this
    refine ⟨_, rfl, p, a.Jar, dx, _, _, rfl, js.at_, T.c_Jar, T.n_Jar_past, rfl, .inl ⟨rfl, _, sq_of js.pv⟩, _, rfl, p, a.Jar, dx, _, _, rfl, js.at_, T.c_Jar, T.n_Jar_shelf, rfl, _, rfl, p, a.Jar, dx, _, _, rfl, js.at_, T.c_Jar, T.n_Jar_layout, rfl, (by show 2 ≤ sizeLine; decide), fun t nt => ⟨pa, xs, _, rfl, rfl, (Ex.new nt) _ _ js.pv, (by rw [sizeLine_eq]; omega), ?_⟩⟩
    have e1 := Ex.new (o := .tup [.ref sh, .int v]) nt
    refine ⟨_, rfl, _, rfl, (by show 2 ≤ sizeLine; decide), fun u nu => ?_⟩
    have at1 : (upd (upd (upd H t (.tup [.ref sh, .int v])) pa (.lst (xs ++ [.ref t]))) u (.tup [.ref sh2, .int v])) p = some (.ins a.Jar dx (JF sh v pa)) := (Ex.new nu) _ _ (by rw [upd_ne ppa]; exact e1 _ _ js.at_)
    refine ⟨u, _, rfl, st_of upd_same, rfl, _, _, rfl, _, rfl, p, a.Jar, dx, _, rfl, at1, T.c_Jar, T.n_Jar_shelf, (by show 4 < 1000; decide), ?_⟩
    refine ⟨_, _, rfl, _, rfl, p, a.Jar, dx, _, rfl, upd_same, T.c_Jar, T.n_Jar_layout, (by show 4 < 1000; decide), rfl, ?_⟩
    refine hq t _ ⟨upd_same, ?_, ?_⟩ (fun b o hb hbo => ?_)
    · rw [upd_ne sp, upd_ne sp]
      refine (Ex.new nu) _ _ ?_
      rw [upd_ne spa]
      exact e1 _ _ h2
    · rw [upd_ne ppa.symm, upd_ne ppa.symm]
      exact (Ex.new nu) _ _ upd_same
    · simp only [List.mem_cons, List.not_mem_nil, or_false, not_or] at hb
      rw [upd_ne hb.1, upd_ne hb.1]
      refine (Ex.new nu) _ _ ?_
      rw [upd_ne hb.2]
      exact e1 _ _ hbo
theorem sqT_but {K : PySem.W.Frag} {H H' : Hp} {p pa q C dx : Addr} {fs : List (Str × V)} {xs ys : List V} (b : ButL [p, pa] H H') (hp : H p = some (.ins C dx fs)) (hpa : H pa = some (.lst ys)) (h : SqT K H q xs) : SqT K H' q xs := by
  have no : ∀ o, H q = some o → (∀ C dx fs, o ≠ .ins C dx fs) → (∀ l, o ≠ .lst l) → q ∉ [p, pa] := fun o ho h1 h2 hm => by
    simp only [List.mem_cons, List.not_mem_nil, or_false] at hm
    rcases hm with rfl | rfl
    · rw [hp] at ho; cases ho; exact h1 _ _ _ rfl
    · rw [hpa] at ho; cases ho; exact h2 _ rfl
  rcases h with (h | ⟨o, h⟩) | h
  · exact .inl (.inl (b _ _ (no _ h (fun _ _ _ z => nomatch z) fun _ z => nomatch z) h))
  · exact .inl (.inr ⟨o, b _ _ (no _ h (fun _ _ _ z => nomatch z) fun _ z => nomatch z) h⟩)
  · exact .inr h
def spPj (a : Adr) (K : PySem.W.Frag) : Sp := fun vs H Q _ => ∃ p dx sh v pa kvs xs z x, vs = [.ref p, .str z, x] ∧ Jn z ∧ Val x ∧ Ver v ∧ JS a H p dx sh v pa kvs xs ∧ xs.length ≤ 10 ∧ kvs.length ≤ 5 ∧ valV kvs (.inr z) = none ∧
  ∀ sh2 q is t H', JS a H' p dx sh2 v pa (mergeK (mergeK [] kvs) [(.inr z, .ref q)]) (xs ++ [.ref t]) → SqT K H' q (is.map V.int) → OctL 100 is → H sh2 = none → ButL [p, pa] H H' → Q .non H'
theorem ok_Jar_put (T : Txt P K mg a) (hw : a.par = w.params) : CallO P w K mg base 10 (.ref a.Jar_put) (spPj a K) := by
  have G_check_name := ok_check_name (P := P) (w := w) (base := base) (mg := mg) T
  have GK_dump_version := ok_dump (P := P) (w := w) (base := base) (mg := mg) T hw
  refine fnO (T.d_Jar_put.okX sc_Jar_put (fun vs H Q E h => ?_) (fun cdv A outer s H vs Q E hr h => ?_))
  · obtain ⟨p, dx, sh, v, pa, kvs, xs, z, x, rfl, _⟩ := h
    rfl
  · obtain ⟨p, dx, sh, v, pa, kvs, xs, z, x, rfl, hz, hx, hv, js, hl, hk, hn, hq⟩ := h
    have hu := hu_of hr
    refine ⟨_, (pss_cons (ps_expr (pe_co G_check_name (hr.mono (by decide)) rfl T.g_check_name T.k_check_name (takes_of rfl rfl rfl rfl) (pa_cons (pv 1) pa_nil)))
 (pss_cons (ps_set (i := 3) sc_Jar_put.nd rfl (Or.inl rfl) (pe_cx GK_dump_version (hr.mono (by decide)) rfl T.g_dump T.k_dump (takes_of rfl rfl rfl rfl) (pa_cons (pv 2) (pa_cons (pe_fld (pv 0) rfl) pa_nil)) (pk_cons (pe_fld (pv 0) rfl) pk_nil)))
 (pss_cons (ps_if (PW.pt (pw_and (pt_cmp (pc_dnotin hu (pv 1) (pe_fld (pv 0) rfl))) (pw_and1 (pt_cmpR op_eq (pe_callB call_lenD (by rfl) T.b_len (by decide +kernel) (pa_cons (pe_fld (pv 0) rfl) pa_nil)) (pe_glob (v := .int (50)) (by rfl) T.c_MOST_NAMES.choose_spec ⟨_, rfl⟩) (nomark _)))))
 (pss_one ps_dead)
 pss_nil)
 (pss_one (ps_expr (pe_me (pv 0) (takes_of rfl rfl rfl rfl) (pa_cons (pe_star (pe_fld (pv 0) rfl) (pv 1) (pv 3)) (pa_cons (pe_fld (pv 0) rfl) pa_nil)) pk_nil)))))), ?_⟩
    refine ⟨_, rfl, z, rfl, hz, fun H1 e1 => ?_⟩
    have js1 := js.ex e1
    refine ⟨_, rfl, _, rfl, p, a.Jar, dx, _, _, rfl, js1.at_, T.c_Jar, T.n_Jar_known, rfl, _, rfl, p, a.Jar, dx, _, _, rfl, js1.at_, T.c_Jar, T.n_Jar_layout, rfl, rfl, rfl, x, v, rfl, hx, hv, fun q H2 is e2 hsq ho => ?_⟩
    have js2 := js1.ex e2
    dsimp only
    refine q_when (b := true && false) (et_and (et_B fun H3 e Q q2 => ⟨_, rfl, _, rfl, p, a.Jar, dx, _, _, rfl, (js2.ex e).at_, T.c_Jar, T.n_Jar_shelf, rfl, sh, none, rfl, .inl ⟨kvs, .inr z, .inl (js2.ex e).sv, rfl, hn.symm⟩, q2 H3 (Ex.refl _)⟩) fun _ => et_is (et_test (ev_op (ev_cb (ea_cons (ev_fld (ev_var rfl) js2.at_ T.c_Jar T.n_Jar_shelf rfl) ea_nil) (fun H3 e Q q2 => ⟨sh, kvs, rfl, (js2.ex e).sv, q2 H3 (Ex.refl _)⟩)) ev_c (rv_eq rfl))) (decide_eq_false fun e => by injection e with e; omega)) (fun z => nomatch z) fun _ H3 e3 => ?_
    have js3 := js2.ex e3
    refine ⟨_, rfl, p, a.Jar, dx, a.Jar_change_to, _, 1, _, rfl, js3.at_, rfl, T.c_Jar, T.p_Jar_change_to, (ok_change_to T).x, hr.mono (by decide), fun d nd => ?_⟩
    have jsd := js3.ex (Ex.new (o := .dK []) nd)
    have shd : sh ≠ d := fun z => by rw [← z, js3.sv] at nd; cases nd
    refine ⟨_, rfl, p, a.Jar, dx, _, _, rfl, jsd.at_, T.c_Jar, T.n_Jar_shelf, rfl, sh, kvs, rfl, jsd.sv, shd, upd_same, (by rw [sizeLine_eq]; omega), fun d2 d2d nd2 => ?_⟩
    refine ⟨_, rfl, .inr z, rfl, _, rfl, upd_same, (by rw [upd_ne d2d.symm]; exact upd_same), ?_⟩
    have nd2' : (upd H3 d (.dK [])) d2 = none := nd2
    have nd20 : H3 d2 = none := fresh_back (Ex.new (o := .dK []) nd) nd2'
    have e5 : Ex H3 (upd (upd (upd (upd (upd H3 d (.dK [])) d (.dK (mergeK [] kvs))) d2 (.dK [])) d2 (.dK [(.inr z, .ref q)])) d (.dK (mergeK (mergeK [] kvs) [(.inr z, .ref q)]))) := Ex.mut (Ex.mut (Ex.mut (Ex.mut (Ex.new nd) nd) nd20) nd20) nd
    have js5 := js3.ex e5
    refine ⟨_, rfl, p, a.Jar, dx, _, _, rfl, js5.at_, T.c_Jar, T.n_Jar_layout, rfl, rfl, p, dx, sh, v, pa, kvs, xs, d, _, rfl, js5, hl, upd_same, fun t H' js' b' => ?_⟩
    have e123 := (e1.trans e2).trans e3
    exact hq d q is t H' js' (sqT_but b' js5.at_ js5.pv (ex_t (e3.trans e5) hsq)) ho (fresh_back e123 nd) ((ButL.ex (e123.trans e5)).trans b')

end
end BJL

namespace BJL
open PySem PySem.Spec PyProof.Rows L2 BJ
section
variable {P : Program} {w : World} {K : PySem.W.Frag} {mg : Str → Option Value} {base : Heap} {a : Adr}
open Evl
theorem sqT_dk {K : PySem.W.Frag} {H : Hp} {d t : Addr} {xs : List V} {kvs : List (Key × V)} {o : HO} (hl : H d = some (.dK kvs)) (h : SqT K H t xs) : SqT K (upd H d o) t xs := by
  rcases h with (h | ⟨o', h⟩) | h
  · exact .inl (.inl (by rw [upd_ne fun z => by rw [z, hl] at h; cases h]; exact h))
  · exact .inl (.inr ⟨o', by rw [upd_ne fun z => by rw [z, hl] at h; cases h]; exact h⟩)
  · exact .inr h
/-- the law's jar -/
structure JJ (K : PySem.W.Frag) (a : Adr) (H : Hp) (p dx sh : Addr) (v : Int) (pa q1 q2 : Addr) (is1 is2 : List Int) (xs : List V) : Prop where
  js : JS a H p dx sh v pa [(.inr "a", .ref q1), (.inr "c", .ref q2)] xs
  s1 : SqT K H q1 (is1.map V.int)
  s2 : SqT K H q2 (is2.map V.int)
  o1 : OctL 100 is1
  o2 : OctL 100 is2
  hx : xs.length ≤ 10
  hv : Ver v
section
variable {H H1 : Hp} {p dx sh pa q1 q2 : Addr} {v : Int} {is1 is2 : List Int} {xs : List V}
theorem JJ.ex (h : JJ K a H p dx sh v pa q1 q2 is1 is2 xs) (e : Ex H H1) : JJ K a H1 p dx sh v pa q1 q2 is1 is2 xs := ⟨h.js.ex e, ex_t e h.s1, ex_t e h.s2, h.o1, h.o2, h.hx, h.hv⟩
end
theorem perm_ac {ys : List Str} (h : ys.Perm (["a", "c"] : List Str)) (hs : sortedS ys = true) : ys = (["a", "c"] : List Str) := by
  have hl := h.length_eq
  match ys, hl, h, hs with
  | [x, y], _, h, hs =>
    have hx : x ∈ (["a", "c"] : List Str) := h.mem_iff.mp (by simp)
    have hy : y ∈ (["a", "c"] : List Str) := h.mem_iff.mp (by simp)
    have ha : ("a" : Str) ∈ [x, y] := h.mem_iff.mpr (by simp)
    have hc : ("c" : Str) ∈ [x, y] := h.mem_iff.mpr (by simp)
    simp only [List.mem_cons, List.not_mem_nil, or_false] at hx hy ha hc
    rcases hx with rfl | rfl <;> rcases hy with rfl | rfl
    · rcases hc with z | z <;> exact absurd z (by decide)
    · rfl
    · exact absurd hs (by decide +kernel)
    · rcases ha with z | z <;> exact absurd z (by decide)
def spNa (K : PySem.W.Frag) (a : Adr) : Sp := fun vs H Q _ => ∃ p dx sh v pa q1 q2 is1 is2 xs, vs = [.ref p] ∧ JJ K a H p dx sh v pa q1 q2 is1 is2 xs ∧ ∀ l H', H l = none → Ex H H' → H' l = some (.tup [.str "a", .str "c"]) → Q (.ref l) H'
theorem ok_Jar_names (T : Txt P K mg a) : CallO P w K mg base 1 (.ref a.Jar_names) (spNa K a) := by
  refine fnO (T.d_Jar_names.okX sc_Jar_names (fun vs H Q E h => ?_) (fun cdv A outer s H vs Q E hr h => ?_))
  · obtain ⟨p, dx, sh, v, pa, q1, q2, is1, is2, xs, rfl, _⟩ := h
    rfl
  · obtain ⟨p, dx, sh, v, pa, q1, q2, is1, is2, xs, rfl, jj, hq⟩ := h
    refine ⟨_, (pss_one (ps_ret (pe_callTy call_tuple_of (by rfl) T.b_tuple (by decide +kernel) (pa_cons (pe_callB (call_sortedDK rfl) (by rfl) T.b_sorted (by decide +kernel) (pa_cons (pe_fld (pv 0) rfl) pa_nil)) pa_nil)))), ?_⟩
    refine ⟨_, rfl, p, a.Jar, dx, _, _, rfl, jj.js.at_, T.c_Jar, T.n_Jar_shelf, rfl, sh, _, ["a", "c"], rfl, jj.js.sv, rfl, (by decide), fun ys l hp hs nl => ?_⟩
    have hy := perm_ac hp hs
    subst hy
    exact ⟨l, _, rfl, .inl ⟨sq_of upd_same, fun t nt => hq t _ (fresh_back (Ex.new nl) nt) ((Ex.new nl).trans (Ex.new nt)) upd_same⟩⟩
def spVe (a : Adr) : Sp := fun vs H Q _ => ∃ p dx sh v pa kvs xs, vs = [.ref p] ∧ JS a H p dx sh v pa kvs xs ∧ Q (.int v) H
theorem ok_Jar_version (T : Txt P K mg a) : CallO P w K mg base 1 (.ref a.Jar_version) (spVe a) := by
  refine fnO (T.d_Jar_version.okX sc_Jar_version (fun vs H Q E h => ?_) (fun cdv A outer s H vs Q E hr h => ?_))
  · obtain ⟨p, dx, sh, v, pa, kvs, xs, rfl, _⟩ := h
    rfl
  · obtain ⟨p, dx, sh, v, pa, kvs, xs, rfl, js, hq⟩ := h
    exact ⟨_, (pss_one (ps_ret (pe_fld (pv 0) rfl))), _, rfl, p, a.Jar, dx, _, _, rfl, js.at_, T.c_Jar, T.n_Jar_layout, rfl, hq⟩
def spCh (a : Adr) : Sp := fun vs H Q _ => ∃ p dx sh v pa kvs xs, vs = [.ref p] ∧ JS a H p dx sh v pa kvs xs ∧ Q (.int xs.length) H
theorem ok_Jar_changes (T : Txt P K mg a) : CallO P w K mg base 1 (.ref a.Jar_changes) (spCh a) := by
  refine fnO (T.d_Jar_changes.okX sc_Jar_changes (fun vs H Q E h => ?_) (fun cdv A outer s H vs Q E hr h => ?_))
  · obtain ⟨p, dx, sh, v, pa, kvs, xs, rfl, _⟩ := h
    rfl
  · obtain ⟨p, dx, sh, v, pa, kvs, xs, rfl, js, hq⟩ := h
    exact ⟨_, (pss_one (ps_ret (pe_callB call_len_seq (by rfl) T.b_len (by decide +kernel) (pa_cons (pe_fld (pv 0) rfl) pa_nil)))), _, rfl, p, a.Jar, dx, _, _, rfl, js.at_, T.c_Jar, T.n_Jar_past, rfl, pa, xs, rfl, .inl (sq_of js.pv), hq⟩
def spSo (K : PySem.W.Frag) (a : Adr) : Sp := fun vs H Q _ => ∃ p dx sh v pa kvs xs z y, vs = [.ref p, .str z] ∧ JS a H p dx sh v pa kvs xs ∧ valV kvs (.inr z) = some y ∧ ∀ H', Ex H H' → Q y H'
theorem ok_Jar_stream_of (T : Txt P K mg a) : CallO P w K mg base 1 (.ref a.Jar_stream_of) (spSo K a) := by
  refine fnO (T.d_Jar_stream_of.okX sc_Jar_stream_of (fun vs H Q E h => ?_) (fun cdv A outer s H vs Q E hr h => ?_))
  · obtain ⟨p, dx, sh, v, pa, kvs, xs, z, y, rfl, _⟩ := h
    rfl
  · obtain ⟨p, dx, sh, v, pa, kvs, xs, z, y, rfl, js, hk, hq⟩ := h
    have hu := hu_of hr
    refine ⟨_, (pss_cons (ps_if (PW.pt (pw_or (pt_not (pt_val (pe_callB (call_isG' (K := K) rfl) (by rfl) T.b_isinstance (by decide +kernel) (pa_cons (pv 1) (pa_cons (pe_bltn (v := .ty "str") (u := .type "str") (by rfl) T.b_str (by decide +kernel) (by exact rfl)) pa_nil))))) (pw_or1 (pt_cmp (pc_dnotin hu (pv 1) (pe_fld (pv 0) rfl))))))
 (pss_one ps_dead)
 pss_nil)
 (pss_one (ps_ret (pe_dget hu (pe_fld (pv 0) rfl) (pv 1) (fun _ _ => rfl))))), ?_⟩
    refine q_when (b := !true || false) (et_or (et_not (et_B (ev_cb (ea_cons (ev_var rfl) (ea_cons ev_c ea_nil)) (rc_is (K := K) (.base (.str z)) kSS)))) fun _ => et_B fun H3 e Q q2 => ⟨_, rfl, _, rfl, p, a.Jar, dx, _, _, rfl, (js.ex e).at_, T.c_Jar, T.n_Jar_shelf, rfl, sh, some y, rfl, .inl ⟨kvs, .inr z, .inl (js.ex e).sv, rfl, hk.symm⟩, q2 H3 (Ex.refl _)⟩) (fun z => nomatch z) fun _ H1 e1 => ?_
    have js1 := js.ex e1
    refine ⟨_, rfl, p, a.Jar, dx, _, _, rfl, js1.at_, T.c_Jar, T.n_Jar_shelf, rfl, _, rfl, sh, y, rfl, .inl ⟨kvs, .inr z, .inl js1.sv, rfl, hk.symm⟩, hq H1 e1⟩
def spTo (K : PySem.W.Frag) (a : Adr) : Sp := fun vs H Q _ => ∃ p dx sh v pa q1 q2 is1 is2 xs, vs = [.ref p] ∧ JJ K a H p dx sh v pa q1 q2 is1 is2 xs ∧ ∀ H', Ex H H' → Q (.int ((is1.length : Int) + is2.length)) H'
theorem ok_Jar_total (T : Txt P K mg a) : CallO P w K mg base 1 (.ref a.Jar_total) (spTo K a) := by
  refine fnO (T.d_Jar_total.okX sc_Jar_total (fun vs H Q E h => ?_) (fun cdv A outer s H vs Q E hr h => ?_))
  · obtain ⟨p, dx, sh, v, pa, q1, q2, is1, is2, xs, rfl, _⟩ := h
    rfl
  · obtain ⟨p, dx, sh, v, pa, q1, q2, is1, is2, xs, rfl, jj, hq⟩ := h
    refine ⟨_, (pss_one (ps_ret (pe_callB (cr_sum rfl) (by rfl) T.b_sum (by decide +kernel) (pa_cons (pe_lock (pe_lc (own := [("stream", 1)]) (g := (gName 1)) (by rfl) sc_Jar_total.nd (pi_values (pe_fld (pv 0) rfl)) (blkOk_by (own := [("stream", 1)]) (N := ["self", "stream"]) (sc := defScope s_Jar_total) (by decide +kernel)) (fun _ _ _ _ _ => (pg_name (i := 1) sc_Jar_total.nd rfl (Or.inl rfl))) (fun _ _ _ _ _ => pts_nil) (fun _ _ _ _ _ => (pe_callB (call_len_seq' (K := K) rfl) (by rfl) T.b_len (by decide +kernel) (pa_cons (pv 1) pa_nil))))) pa_nil)))), ?_⟩
    have shp : p ≠ sh := fun z => by have := jj.js.sv; rw [← z, jj.js.at_] at this; cases this
    refine ⟨sh, _, jj.js.sv, trivial, fun od => ?_⟩
    refine ⟨_, rfl, p, a.Jar, dx, _, _, rfl, (by rw [upd_ne shp]; exact jj.js.at_), T.c_Jar, T.n_Jar_shelf, rfl, sh, od, _, rfl, upd_same, ?_⟩
    have s1 := sqT_dk (o := .frz od (.dK [(.inr "a", .ref q1), (.inr "c", .ref q2)])) jj.js.sv jj.s1
    have s2 := sqT_dk (o := .frz od (.dK [(.inr "a", .ref q1), (.inr "c", .ref q2)])) jj.js.sv jj.s2
    intro D nD
    have hDs : D ≠ sh := fun z => by rw [z, upd_same] at nD; cases nD
    refine lc_it (walk_values (kvs := [(.inr "a", .ref q1), (.inr "c", .ref q2)])) (fun i H' => Ex (upd H sh (.frz od (.dK [(.inr "a", .ref q1), (.inr "c", .ref q2)]))) H' ∧ H' D = some (.lst (([V.int is1.length, V.int is2.length] : List V).take i))) ⟨Ex.new nD, upd_same⟩ (fun i H1 _ e => e.1 _ _ upd_same) (fun i x H2 H3 hi h y => ?_) fun H1 h => ?_
    · obtain ⟨rfl, k, hk⟩ := y
      obtain ⟨e, hD⟩ := h
      refine ⟨rfl, ?_⟩
      unfold tYes
      dsimp only
      match i, hi, hk, hD with
      | 0, _, hk, hD =>
        cases hk
        exact iteT ⟨_, rfl, q1, _, rfl, .inr (ex_t e s1), _, hD, by show 0 < sizeLine; decide, Ex.mut e nD, by rw [List.length_map]; exact upd_same⟩
      | 1, _, hk, hD =>
        cases hk
        exact iteT ⟨_, rfl, q2, _, rfl, .inr (ex_t e s2), _, hD, by show 1 < sizeLine; decide, Ex.mut e nD, by rw [List.length_map]; exact upd_same⟩
    · obtain ⟨e1, hD⟩ := h
      refine ⟨e1 _ _ upd_same, D, [(is1.length : Int), (is2.length : Int)], rfl, sq_of (by rw [upd_ne hDs]; exact hD), ?_⟩
      have := hq _ (ex_unlock jj.js.sv e1)
      show Q (.int (is1.length + (is2.length + 0))) _
      rw [Int.add_zero]
      exact this

end
end BJL

namespace BJL
open PySem PySem.Spec PyProof.Rows L2 BJ
section
variable {P : Program} {w : World} {K : PySem.W.Frag} {mg : Str → Option Value} {base : Heap} {a : Adr}
open Evl
def stD (v tot n : Int) (is1 is2 : List Int) : PyData := .list [.tuple [.str "a", .str "c"], .int v, .int tot, .int n, .list [dT is1, dT is2]]
theorem oct_small {n : Nat} {is : List Int} (h : OctL n is) : ∀ i ∈ is, i.natAbs < 10 ^ 12 := fun i hi => by have := h.2 i hi; omega
theorem small_show {i : Int} (h : i.natAbs < 10 ^ 12) : (PyData.int i).showable = true := by
  have := show_ints [i] (fun j hj => by rw [List.mem_singleton.mp hj]; exact h)
  simpa [PyData.showableAll] using this
theorem small_short {i : Int} (h : i.natAbs < 10 ^ 12) : (PyData.int i).leavesShort 13 = true := by
  have := short_ints [i] (fun j hj => by rw [List.mem_singleton.mp hj]; exact h)
  simpa [PyData.leavesShortAll] using this
theorem st_shows {v tot n : Int} {is1 is2 : List Int} (h1 : OctL 100 is1) (h2 : OctL 100 is2) (hv : v.natAbs < 10 ^ 12) (ht : tot.natAbs < 10 ^ 12) (hn : n.natAbs < 10 ^ 12) : Shows (stD v tot n is1 is2) where
  s := by
    have a1 := show_ints is1 (oct_small h1)
    have a2 := show_ints is2 (oct_small h2)
    have b1 := small_show hv
    have b2 := small_show ht
    have b3 := small_show hn
    have c1 : (PyData.tuple [.str "a", .str "c"]).showable = true := by decide +kernel
    unfold stD
    simp only [PyData.showable.eq_def (.list _), PyData.showableAll, b1, b2, b3, c1, dT, PyData.showable.eq_def (.tuple (is1.map _)), PyData.showable.eq_def (.tuple (is2.map _)), a1, a2, Bool.and_true]
  n := .inr (by
    have a1 := hasDict_ints is1
    have a2 := hasDict_ints is2
    unfold stD
    simp [PyData.hasDict, PyData.hasDictAll, dT, a1, a2])
  p := by
    unfold stD
    simp [PyData.depth, PyData.depthAll, dT, depth_ints]
  z := PyData.shown_fits_bulk (B := 13) (by decide) (by decide) (by
    have a1 := short_ints is1 (oct_small h1)
    have a2 := short_ints is2 (oct_small h2)
    have b1 := small_short hv
    have b2 := small_short ht
    have b3 := small_short hn
    have c1 : (PyData.tuple [.str "a", .str "c"]).leavesShort 13 = true := by decide +kernel
    unfold stD
    simp only [PyData.leavesShort.eq_def 13 (.list _), PyData.leavesShortAll, b1, b2, b3, c1, dT, PyData.leavesShort.eq_def 13 (.tuple (is1.map _)), PyData.leavesShort.eq_def 13 (.tuple (is2.map _)), a1, a2, Bool.and_true]) (by
    have a1 := h1.1
    have a2 := h2.1
    unfold stD
    have c1 : (Str.ofString "a").cps.size = 1 := by decide +kernel
    have c2 : (Str.ofString "c").cps.size = 1 := by decide +kernel
    simp [PyData.bulk, PyData.bulkAll, dT, bulk_ints, c1, c2]
    omega)
def stS (v : Int) (is1 is2 : List Int) (xs : List V) : Str := (stD v ((is1.length : Int) + is2.length) xs.length is1 is2).shown
def spSt (K : PySem.W.Frag) (a : Adr) : Sp := fun vs H Q _ => ∃ p dx sh v pa q1 q2 is1 is2 xs, vs = [.ref p] ∧ JJ K a H p dx sh v pa q1 q2 is1 is2 xs ∧ ∀ H', Ex H H' → Q (.str (stS v is1 is2 xs)) H'
theorem ok__law_state (T : Txt P K mg a) : CallP P w K mg base 3 (.ref a._law_state) (spSt K a) := by
  refine T.d__law_state.ok sc__law_state (fun vs H Q E h => ?_) (fun cdv A outer s H vs Q E hr hG h => ?_)
  · obtain ⟨p, dx, sh, v, pa, q1, q2, is1, is2, xs, rfl, _⟩ := h
    rfl
  · obtain ⟨p, dx, sh, v, pa, q1, q2, is1, is2, xs, rfl, jj, hq⟩ := h
    refine ⟨_, (pss_one (ps_ret (pe_callB (call_reprQ' (K := K) rfl hr hG) (by rfl) T.b_repr (by decide +kernel) (pa_cons (pe_lst (pa_cons (pe_pr (pv 0)) (pa_cons (pe_pr (pv 0)) (pa_cons (pe_pr (pv 0)) (pa_cons (pe_pr (pv 0)) (pa_cons (pe_lc (own := [("one", 1)]) (g := (gName 1)) (by rfl) sc__law_state.nd (pi_tup (pe_pr (pv 0))) (blkOk_by (own := [("one", 1)]) (N := ["jar", "one"]) (sc := defScope s__law_state) (by decide +kernel)) (fun _ _ _ _ _ => (pg_name (i := 1) sc__law_state.nd rfl (Or.inl rfl))) (fun _ _ _ _ _ => pts_nil) (fun _ _ _ _ _ => (pe_me' (X0 := cxOf (L2.CX P w) P w K mg base ["jar", "one"] "_law_state" (defScope s__law_state) a._law_state cdv A outer s H E) (ks := []) ⟨rfl, rfl, rfl, rfl, rfl, rfl⟩ (pv 0) tkN (pa_cons (pv 1) pa_nil) pk_nil))) pa_nil)))))) pa_nil)))), ?_⟩
    refine ⟨_, rfl, p, a.Jar, dx, a.Jar_names_p, a.Jar_names, _, 1, _, rfl, jj.js.at_, T.c_Jar, T.p_Jar_names, ok_Jar_names T, hr.mono (by decide), p, dx, sh, v, pa, q1, q2, is1, is2, xs, rfl, jj, fun l H1 nl e1 hl => ?_⟩
    have j1 := jj.ex e1
    refine ⟨_, rfl, p, a.Jar, dx, a.Jar_version_p, a.Jar_version, _, 1, _, rfl, j1.js.at_, T.c_Jar, T.p_Jar_version, ok_Jar_version T, hr.mono (by decide), p, dx, sh, v, pa, _, xs, rfl, j1.js, ?_⟩
    refine ⟨_, rfl, p, a.Jar, dx, a.Jar_total_p, a.Jar_total, _, 1, _, rfl, j1.js.at_, T.c_Jar, T.p_Jar_total, ok_Jar_total T, hr.mono (by decide), p, dx, sh, v, pa, q1, q2, is1, is2, xs, rfl, j1, fun H2 e2 => ?_⟩
    have j2 := j1.ex e2
    refine ⟨_, rfl, p, a.Jar, dx, a.Jar_changes_p, a.Jar_changes, _, 1, _, rfl, j2.js.at_, T.c_Jar, T.p_Jar_changes, ok_Jar_changes T, hr.mono (by decide), p, dx, sh, v, pa, _, xs, rfl, j2.js, ?_⟩
    refine ⟨_, rfl, p, a.Jar, dx, a.Jar_names_p, a.Jar_names, _, 1, _, rfl, j2.js.at_, T.c_Jar, T.p_Jar_names, ok_Jar_names T, hr.mono (by decide), p, dx, sh, v, pa, q1, q2, is1, is2, xs, rfl, j2, fun l2 H3 nl2 e3 hl2 => ?_⟩
    have j3 := j2.ex e3
    refine ⟨l2, rfl, ⟨_, st_of hl2⟩, fun D nD => ?_⟩
    refine lc_it (walk_tup (K := K) (a := l2) (xs := [.str "a", .str "c"])) (fun i H' => Ex H3 H' ∧ H' D = some (.lst (([.ref q1, .ref q2] : List V).take i))) ⟨Ex.new nD, upd_same⟩ (fun i H1 _ e => st_of (e.1 _ _ hl2)) (fun i x H4 H5 hi h y => ?_) fun H4 h => ?_
    · obtain ⟨rfl, hk⟩ := y
      obtain ⟨e, hD⟩ := h
      have j4 := j3.ex e
      refine ⟨rfl, ?_⟩
      unfold tYes
      dsimp only
      match i, hi, hk, hD with
      | 0, _, hk, hD =>
        cases hk
        exact iteT ⟨_, rfl, p, a.Jar, dx, a.Jar_stream_of, _, 1, _, rfl, j4.js.at_, rfl, T.c_Jar, T.p_Jar_stream_of, (ok_Jar_stream_of T).x, hr.mono (by decide), _, rfl, rfl, p, dx, sh, v, pa, _, xs, "a", .ref q1, rfl, j4.js, rfl, fun H' e' => ⟨_, e' _ _ hD, by show 0 < sizeLine; decide, Ex.mut (e.trans e') nD, upd_same⟩⟩
      | 1, _, hk, hD =>
        cases hk
        exact iteT ⟨_, rfl, p, a.Jar, dx, a.Jar_stream_of, _, 1, _, rfl, j4.js.at_, rfl, T.c_Jar, T.p_Jar_stream_of, (ok_Jar_stream_of T).x, hr.mono (by decide), _, rfl, rfl, p, dx, sh, v, pa, _, xs, "c", .ref q2, rfl, j4.js, rfl, fun H' e' => ⟨_, e' _ _ hD, by show 1 < sizeLine; decide, Ex.mut (e.trans e') nD, upd_same⟩⟩
    · obtain ⟨e4, hD⟩ := h
      have hD2 : H4 D = some (.lst [.ref q1, .ref q2]) := hD
      have j4 := j3.ex e4
      refine ⟨by show 5 ≤ sizeLine; decide, fun m nm => ?_⟩
      have e5 := Ex.new (o := .lst [.ref l, .int v, .int ((is1.length : Int) + is2.length), .int xs.length, .ref D]) nm
      have hv := jj.hv
      have ho1 := jj.o1.1
      have ho2 := jj.o2.1
      have hx := jj.hx
      have sh := st_shows (v := v) (tot := (is1.length : Int) + is2.length) (n := (xs.length : Int)) jj.o1 jj.o2 (by have := hv.1; have := hv.2; omega) (by omega) (by omega)
      refine ⟨.ref m, stD v ((is1.length : Int) + is2.length) xs.length is1 is2, rfl, .dp (.lst (sq_of upd_same) (.cons (.tup (st_of (e5 _ _ (e4 _ _ (e3 _ _ (e2 _ _ hl))))) (.cons (.str _) (.cons (.str _) .nil))) (.cons (.int _) (.cons (.int _) (.cons (.int _) (.cons (.lst (sq_of (e5 _ _ hD2)) (.cons (dp_T (ex_t e5 j4.s1)) (.cons (dp_T (ex_t e5 j4.s2)) .nil))) .nil)))))), sh.s, sh.n, sh.p, sh.z, ?_⟩
      exact hq _ ((((e1.trans e2).trans e3).trans e4).trans e5)

end
end BJL

namespace BJL
open PySem PySem.Spec PyProof.Rows L2 BJ
section
variable {P : Program} {w : World} {K : PySem.W.Frag} {mg : Str → Option Value} {base : Heap} {a : Adr}
theorem ok__law_mixed (T : Txt P K mg a) : CallO P w K mg base 1 (.ref a._law_mixed) spMixed := by
  refine fnO (T.d__law_mixed.okX sc__law_mixed (fun vs H Q E h => ?_) (fun cdv A outer s H vs Q E hr h => ?_))
  · obtain ⟨cell, k, rfl, _⟩ := h
    rfl
  · obtain ⟨cell, k, rfl, k0, k1, hq⟩ := h
    refine ⟨_, (pss_cons (ps_set (i := 2) sc__law_mixed.nd rfl (Or.inl rfl) (pe_op op_mod (pe_op op_add (pe_op op_add (pe_op op_add (pe_op op_mod (pv 0) pe_int) (pe_op op_mul (pe_op op_mul pe_int (pv 1)) (pv 1))) (pe_op op_mul pe_int (pv 1))) pe_int) pe_int))
 (pss_cons (ps_set (i := 2) sc__law_mixed.nd rfl (Or.inl rfl) (pe_op op_mod (pe_op op_mul (pe_op op_mod (pe_op op_mul (pv 2) (pv 2)) pe_int) (pv 2)) pe_int))
 (pss_one (ps_ret (pe_op op_fdiv (pe_op op_mod (pe_op op_mul (pv 2) (pe_op op_add pe_int (pe_op op_mul pe_int (pe_op op_mod (pv 1) pe_int)))) pe_int) pe_int))))), ?_⟩
    refine ⟨_, rfl, _, _, rfl, rfl, (by show (0 : Int) < _; decide), _, rfl, _, _, rfl, rfl, .inl (by omega), _, rfl, _, _, rfl, rfl, .inl (by constructor <;> omega), _, _, rfl, rfl, _, rfl, _, _, rfl, rfl, .inl (by omega), _, _, rfl, rfl, _, _, rfl, rfl, _, _, rfl, rfl, (by show (0 : Int) < _; decide), ?_⟩
    generalize hm : (cell % 1000000007 + 7919 * k * k + 31 * k + 7) % 2147483647 = m
    have m0 : 0 ≤ m := by omega
    have m1 : m < 2147483647 := by omega
    refine ⟨_, rfl, _, rfl, _, _, rfl, rfl, .inl (by omega), _, _, rfl, rfl, (by show (0 : Int) < _; decide), _, rfl, _, _, rfl, rfl, .inl (by omega), _, _, rfl, rfl, (by show (0 : Int) < _; decide), ?_⟩
    generalize hm2 : m * m % 2147483647 * m % 2147483629 = m'
    have m0' : 0 ≤ m' := by omega
    have m1' : m' < 2147483629 := by omega
    refine ⟨_, rfl, _, rfl, _, _, rfl, rfl, (by show (0 : Int) < _; decide), _, _, rfl, rfl, .inl (by omega), _, _, rfl, rfl, _, _, rfl, rfl, .inl (by omega), _, _, rfl, rfl, (by show (0 : Int) < _; decide), _, _, rfl, rfl, ⟨by decide, by decide⟩, ?_⟩
    exact hq _ (by omega)
theorem ok__law_begin (T : Txt P K mg a) : CallO P w K mg base 1 (.ref a._law_begin) (spBegin K) := by
  refine fnO (T.d__law_begin.okX sc__law_begin (fun vs H Q E h => ?_) (fun cdv A outer s H vs Q E hr h => ?_))
  · obtain ⟨s, ns, rfl, _⟩ := h
    rfl
  · obtain ⟨s, ns, rfl, hS, hl, hq⟩ := h
    refine ⟨_, (pss_one (ps_ret (pe_disp (pps_cons pe_str (pe_op op_catS (pv 0) (pe_lst (pa_cons pe_int pa_nil))) (pps_cons pe_str pe_int (pps_cons pe_str pe_int (pps_cons pe_str pe_int pps_nil)))) (by rfl) (by rfl) (fun z => by cases z) (by decide)))), ?_⟩
    intro d nd
    refine ⟨_, rfl, (by show 1 ≤ sizeLine; decide), fun q nq => ?_⟩
    have hS1 : Scr K (upd (upd H d (.dK [])) q (.lst [.int 0])) s (ns.map V.int) := by
      rcases hS with (h | ⟨o, h⟩) | h
      · exact .inl (.inl (upd_keep (upd_keep h nd) nq))
      · exact .inl (.inr ⟨o, upd_keep (upd_keep h nd) nq⟩)
      · exact .inr h
    have nqd : q ≠ d := fun z => by
      rw [z, upd_same] at nq
      cases nq
    have nq0 : H q = none := by rw [upd_ne nqd] at nq; exact nq
    refine ⟨_, _, _, _, rfl, rfl, hS1, .inl (.inl upd_same), (by rw [List.length_map, sizeLine_eq]; show ns.length + 1 ≤ 16777216; omega), fun c nc => ?_⟩
    have ncq : c ≠ q := fun z => by
      rw [z, upd_same] at nc
      cases nc
    have ncd : c ≠ d := fun z => by
      rw [z, upd_ne nqd.symm, upd_same] at nc
      cases nc
    have nc0 : H c = none := by rw [upd_ne ncq, upd_ne ncd] at nc; exact nc
    refine ⟨?_, drw c 0 0 0, rfl, (by show 4 ≤ 15; decide), ?_⟩
    · rw [upd_ne ncd.symm, upd_ne nqd.symm, upd_same]
    have em : mergeK [] (drw c 0 0 0) = drw c 0 0 0 := by
      have h1 : ¬ (("cells" : Str) = "at") := by decide
      have h2 : ¬ (("cells" : Str) = "left") := by decide
      have h3 : ¬ (("cells" : Str) = "used") := by decide
      have h4 : ¬ (("at" : Str) = "left") := by decide
      have h5 : ¬ (("at" : Str) = "used") := by decide
      have h6 : ¬ (("left" : Str) = "used") := by decide
      simp [mergeK, drw, putK, h1, h2, h3, h4, h5, h6]
    rw [em]
    refine hq d c _ (fun p o e => ?_) nd nc0 ⟨⟨0, 0, 0, upd_same, by omega, by omega, by omega, by omega, by omega⟩, ?_, by simp, by rw [List.length_append]; show ns.length + 1 ≤ 64; omega⟩
    · have pd : p ≠ d := ne_of_none e nd
      rw [upd_ne pd, upd_ne (ne_of_none e nc0), upd_ne (ne_of_none e nq0), upd_ne pd]
      exact e
    · rw [upd_ne ncd, upd_same, List.map_append]
      rfl

end
end BJL

namespace BJL
open PySem PySem.Spec PyProof.Rows L2 BJ
section
variable {P : Program} {w : World} {K : PySem.W.Frag} {mg : Str → Option Value} {base : Heap} {a : Adr}
theorem ok__law_next (T : Txt P K mg a) : CallO P w K mg base 2 (.ref a._law_next) spNext := by
  have G__law_mixed : CallO P w K mg base 1 (.ref a._law_mixed) spMixed := ok__law_mixed T
  refine fnO (T.d__law_next.okX sc__law_next (fun vs H Q E h => ?_) (fun cdv A outer s H vs Q E hr h => ?_))
  · obtain ⟨d, c, cells, n, b, rfl, _⟩ := h
    rfl
  · obtain ⟨d, c, cells, n, b, rfl, D, hn, b0, b1, hq⟩ := h
    have hu := hu_of hr
    refine ⟨_, (pss_cons (ps_if (pt_cmpR op_gt (pe_dget hu (pv 0) pe_str (fun _ _ => rfl)) pe_int (nomark _))
 (pss_cons (ps_set (i := 2) sc__law_next.nd rfl (Or.inl rfl) (pe_op op_modN (pe_dget hu (pv 0) pe_str (fun _ _ => rfl)) (pv 1)))
 (pss_cons (ps_dput hu (pv 0) pe_str (pe_op op_fdivN (pe_dget hu (pv 0) pe_str (fun _ _ => rfl)) (pv 1)) rfl)
 (pss_one (ps_ret (pv 2)))))
 pss_nil)
 (pss_cons (ps_set (i := 3) sc__law_next.nd rfl (Or.inl rfl) (pe_dget hu (pv 0) pe_str (fun _ _ => rfl)))
 (pss_cons (ps_set (i := 4) sc__law_next.nd rfl (Or.inl rfl) (pe_ix (ix_list' (K := K) rfl) (pv 3) (pe_op op_modN (pe_dget hu (pv 0) pe_str (fun _ _ => rfl)) (pe_callB call_len_seq (by rfl) T.b_len (by decide +kernel) (pa_cons (pv 3) pa_nil))) (fun _ _ => rfl)))
 (pss_cons (ps_dput hu (pv 0) pe_str (pe_op op_add (pe_dget hu (pv 0) pe_str (fun _ _ => rfl)) pe_int) rfl)
 (pss_cons (ps_if (PW.pt (pw_and (pt_cmpR op_ge (pv 4) (pe_op op_pow pe_int pe_int) (nomark _)) (pw_and1 (pt_cmpR op_le (pe_dget hu (pv 0) pe_str (fun _ _ => rfl)) (pe_callB call_len_seq (by rfl) T.b_len (by decide +kernel) (pa_cons (pv 3) pa_nil)) (nomark _)))))
 (pss_cons (ps_dput hu (pv 0) pe_str (pe_op op_fdivN (pv 4) (pv 1)) rfl)
 (pss_one (ps_ret (pe_op op_modN (pv 4) (pv 1)))))
 pss_nil)
 (pss_cons (ps_dput hu (pv 0) pe_str (pe_op op_add (pe_dget hu (pv 0) pe_str (fun _ _ => rfl)) pe_int) rfl)
 (pss_one (ps_ret (pe_op op_modN (pe_co G__law_mixed (hr.mono (by decide)) rfl T.g__law_mixed T.k__law_mixed (takes_of rfl rfl rfl rfl) (pa_cons (pe_co G__law_mixed (hr.mono (by decide)) rfl T.g__law_mixed T.k__law_mixed (takes_of rfl rfl rfl rfl) (pa_cons (pv 4) (pa_cons (pe_dget hu (pv 0) pe_str (fun _ _ => rfl)) pa_nil))) (pa_cons (pe_dget hu (pv 0) pe_str (fun _ _ => rfl)) pa_nil))) (pv 1)))))))))), ?_⟩
    obtain ⟨av, lv, uv, hd, a0, a1, u0, u1, l0⟩ := D.dict
    have bb : b.natAbs < 1073741824 := by omega
    refine ⟨_, rfl, d, _, rfl, dg (k := .inr "left") hd drw_left, _, _, rfl, rfl, _, rfl, ?_⟩
    refine ifd (fun hl => ?_) (fun hl => ?_)
    · refine ⟨_, rfl, d, _, rfl, dg (k := .inr "left") hd drw_left, _, rfl, _, _, rfl, rfl, (by show b ≠ 0; omega), ?_⟩
      refine ⟨_, rfl, d, _, rfl, dg (k := .inr "left") hd drw_left, _, rfl, _, _, rfl, rfl, ⟨(by omega), bb⟩, _, rfl, d, _, rfl, dp (k := .inr "left") hd drw_put_left (by show 4 < 1000; decide), ?_⟩
      refine ⟨_, rfl, ?_⟩
      exact hq _ _ (fm b0).1 (fm b0).2 (Dr_up D a0 (by omega) u0 (by omega) (fd b0 l0)) But.upd
    · refine ⟨_, rfl, d, _, rfl, dg (k := .inr "cells") hd drw_cells, ?_⟩
      have hlen : 0 < cells.length := List.length_pos_iff.mpr D.ne
      have hm := fm (i := av) (b := (cells.length : Int)) (by omega)
      have hi : (av.fmod (cells.length : Int)).toNat < cells.length := by omega
      have hx : (cells.map V.int)[(av.fmod (cells.length : Int)).toNat]? = some (.int cells[(av.fmod (cells.length : Int)).toNat]) := by
        rw [List.getElem?_map, List.getElem?_eq_getElem hi]
        rfl
      generalize cells[(av.fmod (cells.length : Int)).toNat] = cell at hx
      have hlm : ((cells.map V.int).length : Int) = (cells.length : Int) := by rw [List.length_map]
      have hat : atI (cells.map V.int) (av.fmod ((cells.map V.int).length : Int)) = some (.int cell) := by
        rw [hlm]
        have := atI_nat hx
        rw [show (((av.fmod (cells.length : Int)).toNat : Nat) : Int) = av.fmod (cells.length : Int) by omega] at this
        exact this
      refine ⟨_, rfl, _, rfl, d, _, rfl, dg (k := .inr "at") hd drw_at, _, rfl, c, _, rfl, .inl (SqL.of D.list), _, _, rfl, rfl, (by show (((cells.map V.int).length : Nat) : Int) ≠ 0; omega), c, _, _, _, rfl, rfl, SqL.of D.list, hat, ?_⟩
      refine ⟨_, rfl, d, _, rfl, dg (k := .inr "at") hd drw_at, _, _, rfl, rfl, _, rfl, d, _, rfl, dp (k := .inr "at") hd drw_put_at (by show 4 < 1000; decide), ?_⟩
      have hd1 : (upd H d (.dK (drw c (av + 1) lv uv))) d = some (.dK (drw c (av + 1) lv uv)) := upd_same
      have hc1 : SqL K (upd H d (.dK (drw c (av + 1) lv uv))) c (cells.map V.int) := SqL.of (by rw [upd_ne D.dc.symm]; exact D.list)
      -- the way by the mixer
      have fin : ∀ r : Int, Q (.int (r.fmod b)) (upd (upd H d (.dK (drw c (av + 1) lv uv))) d (.dK (drw c (av + 1) lv (uv + 1)))) := fun r => by
        rw [upd_upd]
        exact hq _ _ (fm b0).1 (fm b0).2 (Dr_up D (by omega) (by omega) (by omega) (by omega) l0) But.upd
      have last : ∀ tl, tl = (tSeq (sDPut (tVar 0) (tC (V.str "used")) (tOp (rI0 fun i j => V.int (i + j)) (tDGet (tVar 0) (tC (V.str "used"))) (tC (V.int 1))))
          (tRet (tOp (rI (fun x j => j ≠ 0) fun i j => V.int (i.fmod j)) (tCa spMixed (fun cls d _ H => E cls d H) (tCons (tCa spMixed (fun cls d _ H => E cls d H) (tCons (tVar 4) (tCons (tDGet (tVar 0) (tC (V.str "at"))) tNil))) (tCons (tDGet (tVar 0) (tC (V.str "used"))) tNil))) (tVar 1)))) →
          tl { nx := fun _ H' => Q .non H', rt := Q } [some (.ref d), some (.int b), none, some (.ref c), some (.int cell)] (upd H d (.dK (drw c (av + 1) lv uv))) := by
        rintro _ rfl
        have hd2 : (upd (upd H d (.dK (drw c (av + 1) lv uv))) d (.dK (drw c (av + 1) lv (uv + 1)))) d = some (.dK (drw c (av + 1) lv (uv + 1))) := upd_same
        refine ⟨_, rfl, d, _, rfl, dg (k := .inr "used") hd1 drw_used, _, _, rfl, rfl, _, rfl, d, _, rfl, dp (k := .inr "used") hd1 drw_put_used (by show 4 < 1000; decide), ?_⟩
        refine ⟨_, rfl, _, rfl, d, _, rfl, dg (k := .inr "at") hd2 drw_at, cell, av + 1, rfl, by omega, by omega, fun r r0 => ?_⟩
        refine ⟨_, rfl, d, _, rfl, dg (k := .inr "used") hd2 drw_used, r, uv + 1, rfl, by omega, by omega, fun r' r0' => ?_⟩
        exact ⟨_, rfl, _, _, rfl, rfl, (by show b ≠ 0; omega), fin r'⟩
      refine ⟨_, rfl, _, _, rfl, rfl, ⟨by decide, by decide, by decide⟩, _, _, rfl, rfl, _, rfl, ?_⟩
      refine ifd (fun h1 => ?_) (fun h1 => ?_)
      · refine ⟨_, rfl, d, _, rfl, dg (k := .inr "at") hd1 drw_at, _, rfl, c, _, rfl, .inl hc1, _, _, rfl, rfl, _, rfl, ?_⟩
        refine ifd (fun h2 => ?_) (fun h2 => last _ rfl)
        refine ⟨_, rfl, _, rfl, _, _, rfl, rfl, ⟨(by omega), bb⟩, _, rfl, d, _, rfl, dp (k := .inr "left") hd1 drw_put_left (by show 4 < 1000; decide), ?_⟩
        refine ⟨_, rfl, _, rfl, _, _, rfl, rfl, (by show b ≠ 0; omega), ?_⟩
        rw [upd_upd]
        have hcell : (0 : Int) ≤ cell := by
          have h1' : (10 : Int) ^ (18 : Int).toNat ≤ cell := h1
          have h10 : (0 : Int) ≤ (10 : Int) ^ (18 : Int).toNat := by decide
          omega
        exact hq _ _ (fm b0).1 (fm b0).2 (Dr_up D (by omega) (by omega) (by omega) (by omega) (fd b0 hcell)) But.upd
      · refine iteF ?_
        exact last _ rfl

end
end BJL

namespace BJL
open PySem PySem.Spec PyProof.Rows L2 BJ
section
variable {P : Program} {w : World} {K : PySem.W.Frag} {mg : Str → Option Value} {base : Heap} {a : Adr}
open Evl
/-- whether data is an edit -/
def edB : PyData → Bool
  | .tuple (.str z :: r) => decide (wordL.lookup z = some (.int (r.length + 1 : Nat)))
  | _ => false
theorem word_get (z : Str) : ∃ o : Option Int, wordL.lookup z = o.map V.int := by
  unfold wordL
  simp only [List.lookup]
  split
  · exact ⟨some _, rfl⟩
  · split
    · exact ⟨some _, rfl⟩
    · split
      · exact ⟨some _, rfl⟩
      · split
        · exact ⟨some _, rfl⟩
        · exact ⟨none, rfl⟩
theorem kTT {K : PySem.W.Frag} : PySem.W.kitOne K (.type "tuple") (.type "tuple") = some true := kit_ty (by decide +kernel)
theorem dpAll_len {K : PySem.W.Frag} {H : Hp} : ∀ {xs : List V} {ds : List PyData}, DpAll K H xs ds → xs.length = ds.length
  | _, _, .nil => rfl
  | _, _, .cons _ r => congrArg (· + 1) (dpAll_len r)
theorem at0 {x : V} {xs : List V} : atI (x :: xs) 0 = some x := show atI _ ((0 : Nat) : Int) = _ from atI_nat rfl
theorem int_shaped (n : Int) : SeqAt.shaped (.int n) = true := by
  unfold SeqAt.shaped
  rw [Bool.and_eq_true]
  exact ⟨by simp [PyData.canLay0], by simp [PyData.depth]⟩
def spIe (K : PySem.W.Frag) : Sp := fun vs H Q _ => ∃ x d, vs = [x] ∧ Dq K H x d ∧ (SeqAt.shaped d = true ∨ d = .dict []) ∧ ∀ H', Ex H H' → Q (.bl (edB d)) H'
theorem isN {K : PySem.W.Frag} {σ : L2.St} {H : Hp} {te : TE} {x : V} {t n : String} {b : Bool} (h : Ev te σ H x) (ht : TyX K H x (.type t)) (k : PySem.W.kitOne K (.type t) (.type n) = some b) : EvT (tB (tCB (rIsG K) (tCons te (tCons (tC (.ty n)) tNil)))) σ H b :=
  et_B (ev_cb (ea_cons h (ea_cons ev_c ea_nil)) (rc_is ht k))
theorem ok_is_edit (T : Txt P K mg a) (hw : a.par = w.params) : CallO P w K mg base 1 (.ref a.is_edit) (spIe K) := by
  have words : KDL K w.params a.WORDS wordL := hw ▸ T.words
  refine fnO (T.d_is_edit.okX sc_is_edit (fun vs H Q E h => ?_) (fun cdv A outer s H vs Q E hr h => ?_))
  · obtain ⟨x, d, rfl, _⟩ := h
    rfl
  · obtain ⟨x, d, rfl, hd, hs, hq⟩ := h
    refine ⟨_, (pss_cons (ps_if (PW.pt (pw_or (pt_not (pt_val (pe_callB (call_isG' (K := K) rfl) (by rfl) T.b_isinstance (by decide +kernel) (pa_cons (pv 0) (pa_cons (pe_bltn (v := .ty "tuple") (u := .type "tuple") (by rfl) T.b_tuple (by decide +kernel) (by exact rfl)) pa_nil))))) (pw_or (pt_cmpR (op_eqD' (K := K) rfl hr.units) (pv 0) (pe_tup pa_nil) (nomark _)) (pw_or1 (pt_not (pt_val (pe_callB (call_isG' (K := K) rfl) (by rfl) T.b_isinstance (by decide +kernel) (pa_cons (pe_ix (ix_tup' (K := K) rfl) (pv 0) pe_int (fun _ _ => rfl)) (pa_cons (pe_bltn (v := .ty "str") (u := .type "str") (by rfl) T.b_str (by decide +kernel) (by exact rfl)) pa_nil)))))))))
 (pss_one (ps_ret pe_bl))
 pss_nil)
 (pss_one (ps_ret (pe_cmpR (op_eqD' (K := K) rfl hr.units) (pe_kget (pe_glob (v := .ref a.WORDS) (by rfl) T.g_WORDS rfl) (pe_ix (ix_tup' (K := K) rfl) (pv 0) pe_int (fun _ _ => rfl)) ⟨rfl, rfl, rfl, rfl⟩) (pe_callB call_len_seq (by rfl) T.b_len (by decide +kernel) (pa_cons (pv 0) pa_nil)) (nomark _))))), ?_⟩
    cases hd with
    | dict ha =>
      refine q_when (b := !false || false) (et_or (et_not (isN (ev_var rfl) (.base (.dK ha)) (kit_ty (by decide +kernel)))) (fun z => nomatch z)) (fun _ H1 e1 => ?_) (fun z => nomatch z)
      exact hq H1 e1
    | dp hd =>
      cases hd with
      | non =>
        refine q_when (b := !false || false) (et_or (et_not (isN (ev_var rfl) (.base .non) (kit_ty (by decide +kernel)))) (fun z => nomatch z)) (fun _ H1 e1 => ?_) (fun z => nomatch z)
        exact hq H1 e1
      | bl b =>
        refine q_when (b := !false || false) (et_or (et_not (isN (ev_var rfl) (.base (.bl b)) (kit_ty (by decide +kernel)))) (fun z => nomatch z)) (fun _ H1 e1 => ?_) (fun z => nomatch z)
        exact hq H1 e1
      | int i =>
        refine q_when (b := !false || false) (et_or (et_not (isN (ev_var rfl) (.base (.int i)) (kit_ty (by decide +kernel)))) (fun z => nomatch z)) (fun _ H1 e1 => ?_) (fun z => nomatch z)
        exact hq H1 e1
      | str y =>
        refine q_when (b := !false || false) (et_or (et_not (isN (ev_var rfl) (.base (.str y)) (kit_ty (by decide +kernel)))) (fun z => nomatch z)) (fun _ H1 e1 => ?_) (fun z => nomatch z)
        exact hq H1 e1
      | lst h1 h2 =>
        refine q_when (b := !false || false) (et_or (et_not (isN (ev_var rfl) (ty_lst h1) (kit_ty (by decide +kernel)))) (fun z => nomatch z)) (fun _ H1 e1 => ?_) (fun z => nomatch z)
        exact hq H1 e1
      | @tup p xs ds h1 h2 =>
        have hs : SeqAt.shaped (.tuple ds) = true := hs.resolve_right fun z => nomatch z
        cases h2 with
        | nil =>
          refine q_when (b := !true || (true || false)) (et_or (et_not (isN (ev_var rfl) (ty_tup h1) kTT)) fun _ => et_or (et_test fun H1 e Q q => ⟨_, rfl, Nat.zero_le _, fun l nl => ⟨_, _, .tup (ex_t (e.trans (Ex.new nl)) h1) .nil, .tup (st_of upd_same) .nil, rfl, rfl, q _ (Ex.new nl)⟩⟩) (fun z => nomatch z)) (fun _ H1 e1 => ?_) (fun z => nomatch z)
          exact hq H1 e1
        | @cons x0 xr d0 dr hx hr2 =>
          have hne : ∀ H1, Ex H H1 → EvT (tTest (tOp (rEqD K) (tVar 0) (tTup tNil))) (L2.start ["thing"] [.ref p]) H1 false := fun H1 e1 => et_test fun H2 e Q q => ⟨_, rfl, Nat.zero_le _, fun l nl => ⟨_, _, .tup (ex_t ((e1.trans e).trans (Ex.new nl)) h1) (dpAll_ex ((e1.trans e).trans (Ex.new nl)) (.cons hx hr2)), .tup (st_of upd_same) .nil, hs, rfl, by
            rw [show PyData.eqv (.tuple (d0 :: dr)) (.tuple []) = false by simp [PyData.eqv, PyData.eqvAll]]
            exact q _ (Ex.new nl)⟩⟩
          have ix0 : Ev (tOp (rIxT K) (tVar 0) (tC (.int 0))) (L2.start ["thing"] [.ref p]) H x0 := ev_op (ev_var rfl) ev_c (rv_ixT h1 at0)
          have oth : ∀ {t : String}, TyX K H x0 (.type t) → PySem.W.kitOne K (.type t) (.type "str") = some false → EvT (tOr (tNot (tB (tCB (rIsG K) (tCons (tVar 0) (tCons (tC (.ty "tuple")) tNil))))) (tOr (tTest (tOp (rEqD K) (tVar 0) (tTup tNil))) (tNot (tB (tCB (rIsG K) (tCons (tOp (rIxT K) (tVar 0) (tC (.int 0))) (tCons (tC (.ty "str")) tNil))))))) (L2.start ["thing"] [.ref p]) H (!true || (false || !false)) := fun {t} ht hk =>
            et_or (et_not (isN (ev_var rfl) (ty_tup h1) kTT)) fun _ => et_or (hne H (Ex.refl _)) fun _ => et_not (isN ix0 ht hk)
          cases hx with
          | non =>
            refine q_when (oth (.base .non) (kit_ty (by decide +kernel))) (fun _ H1 e1 => ?_) (fun z => nomatch z)
            exact hq H1 e1
          | bl b =>
            refine q_when (oth (.base (.bl b)) (kit_ty (by decide +kernel))) (fun _ H1 e1 => ?_) (fun z => nomatch z)
            exact hq H1 e1
          | int i =>
            refine q_when (oth (.base (.int i)) (kit_ty (by decide +kernel))) (fun _ H1 e1 => ?_) (fun z => nomatch z)
            exact hq H1 e1
          | lst h3 h4 =>
            refine q_when (oth (ty_lst h3) (kit_ty (by decide +kernel))) (fun _ H1 e1 => ?_) (fun z => nomatch z)
            exact hq H1 e1
          | tup h3 h4 =>
            refine q_when (oth (ty_tup h3) (kit_ty (by decide +kernel))) (fun _ H1 e1 => ?_) (fun z => nomatch z)
            exact hq H1 e1
          | str z =>
            refine q_when (b := !true || (false || !true)) (et_or (et_not (isN (ev_var rfl) (ty_tup h1) kTT)) fun _ => et_or (hne H (Ex.refl _)) fun _ => et_not (isN ix0 (.base (.str z)) kSS)) (fun z => nomatch z) fun _ H1 e1 => ?_
            obtain ⟨o, ho⟩ := word_get z
            have hlen := dpAll_len hr2
            refine ⟨a.WORDS, wordL, rfl, words, _, rfl, p, _, 0, _, rfl, rfl, ex_t e1 h1, at0, z, rfl, _, rfl, p, _, rfl, .inr (ex_t e1 h1), ?_⟩
            have hb : edB (.tuple (.str z :: dr)) = decide (wordL.lookup z = some (.int (dr.length + 1 : Nat))) := rfl
            rw [ho] at hb ⊢
            have hlen2 : ((V.str z :: xr).length : Int) = ((dr.length + 1 : Nat) : Int) := by rw [List.length_cons, hlen]
            have hq1 := hq H1 e1
            rw [hb] at hq1
            cases o with
            | none =>
              refine ⟨.none, _, .non, .int _, rfl, int_shaped _, ?_⟩
              rw [show PyData.eqv .none (.int ((V.str z :: xr).length : Int)) = false by simp [PyData.eqv]]
              exact hq1
            | some n =>
              refine ⟨.int n, _, .int _, .int _, int_shaped _, int_shaped _, ?_⟩
              rw [hlen2, show PyData.eqv (.int n) (.int ((dr.length + 1 : Nat) : Int)) = decide (n = ((dr.length + 1 : Nat) : Int)) by unfold PyData.eqv; rfl]
              have : decide (Option.map V.int (some n) = some (.int ((dr.length + 1 : Nat) : Int))) = decide (n = ((dr.length + 1 : Nat) : Int)) := by
                by_cases h : n = ((dr.length + 1 : Nat) : Int)
                · rw [decide_eq_true h, decide_eq_true (by rw [h]; rfl)]
                · rw [decide_eq_false h, decide_eq_false fun e => h (by injection e with e; injection e)]
              rw [this] at hq1
              exact hq1

end
end BJL

namespace BJL
open PySem PySem.Spec PyProof.Rows L2 BJ
section
variable {P : Program} {w : World} {K : PySem.W.Frag} {mg : Str → Option Value} {base : Heap} {a : Adr}
open Evl
def BF (j sh : Addr) (v : Int) (l : Addr) : List (Str × V) := [("target", .ref j), ("first_shelf", .ref sh), ("first_layout", .int v), ("first_past", .ref l)]
def spBi (a : Adr) : Sp := fun vs H Q E => ∃ p dx j jdx sh v pa kvs xs, vs = [.ref p, .ref j] ∧ H p = some (.ins a.Batch dx []) ∧ JS a H j jdx sh v pa kvs xs ∧ j ≠ p ∧ ∀ H' l, ExB p H H' → H' p = some (.ins a.Batch dx (BF j sh v l)) → Q .non H'
theorem ok_Batch_init (T : Txt P K mg a) : CallO P w K mg base 1 (.ref a.Batch___init__) (spBi a) := by
  refine fnO (T.d_Batch___init__.okX sc_Batch___init__ (fun vs H Q E h => ?_) (fun cdv A outer s H vs Q E hr h => ?_))
  · obtain ⟨p, dx, j, jdx, sh, v, pa, kvs, xs, rfl, _⟩ := h
    rfl
  · obtain ⟨p, dx, j, jdx, sh, v, pa, kvs, xs, rfl, hp, js, jp, hq⟩ := h
    refine ⟨_, (pss_cons (ps_fld (pv 0) (pv 1) rfl)
 (pss_one (ps_asg (pe_tup (pa_cons (pe_fld (pv 1) rfl) (pa_cons (pe_fld (pv 1) rfl) (pa_cons (pe_callTy call_list_of (by rfl) T.b_list (by decide +kernel) (pa_cons (pe_fld (pv 1) rfl) pa_nil)) pa_nil)))) (pg_tup rfl (pgs_cons (pg_fld (pv 0)) (pgs_cons (pg_fld (pv 0)) (pgs_cons (pg_fld (pv 0)) pgs_nil)))) (by rfl)))), ?_⟩
    refine ⟨_, rfl, _, rfl, p, a.Batch, dx, [], rfl, hp, T.c_Batch, T.n_Batch_target, (by decide), ?_⟩
    have pap : pa ≠ p := fun z => by have := js.pv; rw [z, hp] at this; cases this
    have at1 : (upd H p (.ins a.Batch dx (putF "target" (.ref j) []))) j = some (.ins a.Jar jdx (JF sh v pa)) := by rw [upd_ne jp]; exact js.at_
    refine ⟨_, rfl, j, a.Jar, jdx, _, _, rfl, at1, T.c_Jar, T.n_Jar_shelf, rfl, _, rfl, j, a.Jar, jdx, _, _, rfl, at1, T.c_Jar, T.n_Jar_layout, rfl, _, rfl, j, a.Jar, jdx, _, _, rfl, at1, T.c_Jar, T.n_Jar_past, rfl, pa, xs, rfl, .inl (sq_of (by rw [upd_ne pap]; exact js.pv)), fun l nl => ?_⟩
    refine ⟨(by show 3 ≤ sizeLine; decide), fun u nu => ?_⟩
    have atp : (upd (upd (upd H p (.ins a.Batch dx (putF "target" (.ref j) []))) l (.lst xs)) u (.tup [.ref sh, .int v, .ref l])) p = some (.ins a.Batch dx (putF "target" (.ref j) [])) := (Ex.new nu) _ _ ((Ex.new nl) _ _ upd_same)
    refine ⟨u, _, rfl, st_of upd_same, rfl, _, _, rfl, _, rfl, p, a.Batch, dx, _, rfl, atp, T.c_Batch, T.n_Batch_first_shelf, (by show 1 < 1000; decide), ?_⟩
    refine ⟨_, _, rfl, _, rfl, p, a.Batch, dx, _, rfl, upd_same, T.c_Batch, T.n_Batch_first_layout, (by show 2 < 1000; decide), ?_⟩
    refine ⟨_, _, rfl, _, rfl, p, a.Batch, dx, _, rfl, upd_same, T.c_Batch, T.n_Batch_first_past, (by show 3 < 1000; decide), rfl, ?_⟩
    refine hq _ l (fun b o hb hbp => ?_) upd_same
    rw [upd_ne hbp, upd_ne hbp, upd_ne hbp]
    refine (Ex.new nu) _ _ ((Ex.new nl) _ _ ?_)
    rw [upd_ne hbp]
    exact hb
theorem ok_Batch (T : Txt P K mg a) : CallX P w K mg base 2 (.ref a.Batch) [] fun vs zs H Q E => ∃ j jdx sh v pa kvs xs, vs = [.ref j] ∧ zs = [] ∧ JS a H j jdx sh v pa kvs xs ∧ ∀ p dx l H', H p = none → Ex H H' → H' p = some (.ins a.Batch dx (BF j sh v l)) → Q (.ref p) H' := by
  refine (CallX.make T.m_Batch (ok_Batch_init T).x).imp ?_
  rintro vs zs H Q E ⟨j, jdx, sh, v, pa, kvs, xs, rfl, rfl, js, hq⟩ p dx hp hd ne hs
  have e1 : Ex H (upd (upd H dx (.own p)) p (.ins a.Batch dx [])) := (Ex.new hd).trans (Ex.new (by rw [upd_ne ne.symm]; exact hp))
  refine ⟨rfl, p, dx, j, jdx, sh, v, pa, kvs, xs, rfl, upd_same, js.ex e1, (fun z => by have := js.at_; rw [z, hp] at this; cases this), fun H' l he hp' => ⟨rfl, hq p dx l H' hp (fun b o hb => he b o (e1 b o hb) fun z => ?_) hp'⟩⟩
  rw [z, hp] at hb
  cases hb
def spEn (a : Adr) : Sp := fun vs H Q E => ∃ p dx j jdx sh v pa kvs xs l, vs = [.ref p] ∧ H p = some (.ins a.Batch dx (BF j sh v l)) ∧ JS a H j jdx sh v pa kvs xs ∧ ∀ H' l, ExB p H H' → H' p = some (.ins a.Batch dx (BF j sh v l)) → Q (.ref j) H'
theorem ok_Batch_enter (T : Txt P K mg a) : CallO P w K mg base 1 (.ref a.Batch___enter__) (spEn a) := by
  refine fnO (T.d_Batch___enter__.okX sc_Batch___enter__ (fun vs H Q E h => ?_) (fun cdv A outer s H vs Q E hr h => ?_))
  · obtain ⟨p, dx, j, jdx, sh, v, pa, kvs, xs, l, rfl, _⟩ := h
    rfl
  · obtain ⟨p, dx, j, jdx, sh, v, pa, kvs, xs, l, rfl, hp, js, hq⟩ := h
    refine ⟨_, (pss_cons (ps_asg (pe_tup (pa_cons (pe_fld (pe_fld (pv 0) rfl) rfl) (pa_cons (pe_fld (pe_fld (pv 0) rfl) rfl) pa_nil))) (pg_tup rfl (pgs_cons (pg_fld (pv 0)) (pgs_cons (pg_fld (pv 0)) pgs_nil))) (by rfl))
 (pss_cons (ps_fld (pv 0) (pe_callTy call_list_of (by rfl) T.b_list (by decide +kernel) (pa_cons (pe_fld (pe_fld (pv 0) rfl) rfl) pa_nil)) rfl)
 (pss_one (ps_ret (pe_fld (pv 0) rfl))))), ?_⟩
    have pap : pa ≠ p := fun z => by have := js.pv; rw [z, hp] at this; cases this
    have jp : j ≠ p := fun z => by
      have := js.at_
      rw [z, hp] at this
      injection this with this
      injection this with _ _ this
      cases this
    refine ⟨_, rfl, p, a.Batch, dx, _, _, rfl, hp, T.c_Batch, T.n_Batch_target, rfl, j, a.Jar, jdx, _, _, rfl, js.at_, T.c_Jar, T.n_Jar_shelf, rfl, _, rfl, p, a.Batch, dx, _, _, rfl, hp, T.c_Batch, T.n_Batch_target, rfl, j, a.Jar, jdx, _, _, rfl, js.at_, T.c_Jar, T.n_Jar_layout, rfl, (by show 2 ≤ sizeLine; decide), fun u nu => ?_⟩
    have e1 := Ex.new (o := .tup [.ref sh, .int v]) nu
    refine ⟨u, _, rfl, st_of upd_same, rfl, _, _, rfl, _, rfl, p, a.Batch, dx, _, rfl, e1 _ _ hp, T.c_Batch, T.n_Batch_first_shelf, (by show 4 < 1000; decide), ?_⟩
    refine ⟨_, _, rfl, _, rfl, p, a.Batch, dx, _, rfl, upd_same, T.c_Batch, T.n_Batch_first_layout, (by show 4 < 1000; decide), rfl, ?_⟩
    refine ⟨_, rfl, p, a.Batch, dx, _, _, rfl, upd_same, T.c_Batch, T.n_Batch_target, rfl, j, a.Jar, jdx, _, _, rfl, (by rw [upd_ne jp, upd_ne jp]; exact e1 _ _ js.at_), T.c_Jar, T.n_Jar_past, rfl, pa, xs, rfl, .inl (sq_of (by rw [upd_ne pap, upd_ne pap]; exact e1 _ _ js.pv)), fun l2 nl2 => ⟨_, rfl, p, a.Batch, dx, _, rfl, (Ex.new nl2) _ _ upd_same, T.c_Batch, T.n_Batch_first_past, (by show 4 < 1000; decide), ?_⟩⟩
    refine ⟨_, rfl, p, a.Batch, dx, _, _, rfl, upd_same, T.c_Batch, T.n_Batch_target, rfl, hq _ l2 (fun b o hb hbp => ?_) upd_same⟩
    rw [upd_ne hbp]
    refine (Ex.new nl2) _ _ ?_
    rw [upd_ne hbp, upd_ne hbp]
    exact e1 _ _ hb
theorem ok_Batch_exit (T : Txt P K mg a) : CallO P w K mg base 1 (.ref a.Batch___exit__) (fun vs H Q _ => ∃ x, vs = [x, .non, .non, .non] ∧ ∀ H', Ex H H' → Q .non H') := by
  refine fnO (T.d_Batch___exit__.okX sc_Batch___exit__ (fun vs H Q E h => ?_) (fun cdv A outer s H vs Q E hr h => ?_))
  · obtain ⟨x, rfl, _⟩ := h
    rfl
  · obtain ⟨x, rfl, hq⟩ := h
    refine ⟨_, (pss_one (ps_if (pt_cmp (pc_notN (pv 1)))
 (pss_cons ps_dead
 (pss_cons ps_dead
 (pss_one ps_dead)))
 pss_nil)), ?_⟩
    exact s_when (b := !decide (V.non = V.non)) (et_notN (ev_var rfl)) (fun z => nomatch z) fun _ H1 e1 => hq H1 e1

end
end BJL

namespace BJL
open PySem PySem.Spec PyProof.Rows L2 BJ
section
variable {P : Program} {w : World} {K : PySem.W.Frag} {mg : Str → Option Value} {base : Heap} {a : Adr}
open Evl
def DqA (K : PySem.W.Frag) (H : Hp) (xs : List V) (ds : List PyData) : Prop := Paired (fun x d => Dq K H x d ∧ (SeqAt.shaped d = true ∨ d = .dict [])) xs ds
theorem DqA.ex {K : PySem.W.Frag} {H H1 : Hp} (e : Ex H H1) : ∀ {xs : List V} {ds : List PyData}, DqA K H xs ds → DqA K H1 xs ds
  | _, _, .nil => .nil
  | _, _, .cons h r => .cons ⟨h.1.ex e, h.2⟩ (DqA.ex e r)
theorem DqA.len {K : PySem.W.Frag} {H : Hp} {xs : List V} {ds : List PyData} (h : DqA K H xs ds) : xs.length = ds.length := Paired.length h
theorem DqA.get {K : PySem.W.Frag} {H : Hp} : ∀ {xs : List V} {ds : List PyData}, DqA K H xs ds → ∀ (i : Nat) (x : V), xs[i]? = some x → ∃ d, ds[i]? = some d ∧ Dq K H x d ∧ (SeqAt.shaped d = true ∨ d = .dict [])
  | _, _, .nil => fun i x h => nomatch h
  | _, _, .cons h r => fun i x hx => by
    cases i with
    | zero => cases hx; exact ⟨_, rfl, h⟩
    | succ i => exact DqA.get r i x hx
/-- raise InvalidEdit(y) -/
def RaIE (a : Adr) (y : V) (H : Hp) (E : XK) : Prop := ∀ d H', Ex H H' → H' d = none → E (.ref a.InvalidEdit) (some d) (upd H' d (.xd [("position", y)]))
def spBa (K : PySem.W.Frag) (a : Adr) : Sp := fun vs H Q E => ∃ j jdx sh v pa kvs xs0 e, vs = [.ref j, e] ∧ JS a H j jdx sh v pa kvs xs0 ∧
  ((∃ t, TyX K H e (.type t) ∧ PySem.W.kitOne K (.type t) (.type "tuple") = some false ∧ RaIE a .non H E) ∨
   (∃ p xs ds n d, e = .ref p ∧ SqT K H p xs ∧ DqA K H xs ds ∧ ds[n]? = some d ∧ edB d = false ∧ (∀ i d', i < n → ds[i]? = some d' → edB d' = true) ∧ RaIE a (.int (n : Nat)) H E) ∨
   (∃ p, e = .ref p ∧ SqT K H p [] ∧ ∀ H', Ex H H' → Q .non H'))
theorem ok_batched_all (T : Txt P K mg a) (hw : a.par = w.params) : CallO P w K mg base 3 (.ref a.batched_all) (spBa K a) := by
  have G_is_edit := ok_is_edit (P := P) (w := w) (base := base) (mg := mg) T hw
  have G_Batch := ok_Batch (P := P) (w := w) (base := base) (mg := mg) T
  refine fnO (T.d_batched_all.okX sc_batched_all (fun vs H Q E h => ?_) (fun cdv A outer s H vs Q E hr h => ?_))
  · obtain ⟨j, jdx, sh, v, pa, kvs, xs0, e, rfl, _⟩ := h
    rfl
  · obtain ⟨j, jdx, sh, v, pa, kvs, xs0, e, rfl, js, h⟩ := h
    refine ⟨_, (pss_cons (ps_if (pt_not (pt_val (pe_callB (call_isG' (K := K) rfl) (by rfl) T.b_isinstance (by decide +kernel) (pa_cons (pv 1) (pa_cons (pe_bltn (v := .ty "tuple") (u := .type "tuple") (by rfl) T.b_tuple (by decide +kernel) (by exact rfl)) pa_nil)))))
 (pss_one (ps_raiseErr rfl T.e_InvalidEdit T.i_InvalidEdit T.k_InvalidEdit T.x_InvalidEdit T.t_InvalidEdit hr (takes_of rfl rfl rfl rfl) (pa_cons pe_non pa_nil) (by rfl)))
 pss_nil)
 (pss_cons (ps_for (passes_of rfl) rfl (pi_enumT (by rfl) T.b_enumerate (pa_cons (pv 1) pa_nil)) (pg_tup rfl (pgs_cons (pg_name (i := 2) sc_batched_all.nd rfl (Or.inl rfl)) (pgs_cons (pg_name (i := 3) sc_batched_all.nd rfl (Or.inl rfl)) pgs_nil)))
 (pss_one (ps_if (pt_not (pt_val (pe_co G_is_edit (hr.mono (by decide)) rfl T.g_is_edit T.k_is_edit (takes_of rfl rfl rfl rfl) (pa_cons (pv 3) pa_nil))))
 (pss_one (ps_raiseErr rfl T.e_InvalidEdit T.i_InvalidEdit T.k_InvalidEdit T.x_InvalidEdit T.t_InvalidEdit hr (takes_of rfl rfl rfl rfl) (pa_cons (pv 2) pa_nil) (by rfl)))
 pss_nil)))
 (pss_one (ps_with (pe_cx G_Batch (hr.mono (by decide)) rfl T.g_Batch T.k_Batch (takes_of rfl rfl rfl rfl) (pa_cons (pv 0) pa_nil) pk_nil) (pss_one (ps_for PassesOwn.never rfl (pi_tup (pv 1)) (pg_name (i := 3) sc_batched_all.nd rfl (Or.inl rfl))
 (pss_one ps_dead))))))), ?_⟩
    rcases h with ⟨t, ht, hk, hE⟩ | ⟨p, xs, ds, n, d, rfl, hp, hx, hd, hf, hb, hE⟩ | ⟨p, rfl, hp, hq⟩
    · refine q_when (b := !false) (et_not (isN (ev_var rfl) ht hk)) (fun _ H1 e1 => ?_) (fun z => nomatch z)
      exact ⟨rfl, fun d nd => hE d H1 e1 nd⟩
    · refine q_when (b := !true) (et_not (isN (ev_var rfl) (ty_tup hp) kTT)) (fun z => nomatch z) fun _ H1 e1 => ?_
      have hnl : n < xs.length := by
        have := (List.getElem?_eq_some_iff.mp hd).1
        rw [hx.len]
        exact this
      refine ⟨_, rfl, p, xs, rfl, ex_t e1 hp, for_it (walk_enumT (K := K) (a := p) (xs := xs)) (fun i σ' H' => (∃ o2 o3, σ' = [some (.ref j), some (.ref p), o2, o3]) ∧ Ex H H' ∧ i ≤ n) ⟨⟨_, _, rfl⟩, e1, Nat.zero_le _⟩ (fun i σ' H' _ h => ex_t h.2.1 hp) (fun i y σ' H2 H3 hi h yy => ?_) fun σ' H' h => ?_⟩
      · obtain ⟨⟨o2, o3, rfl⟩, e2, hin⟩ := h
        obtain ⟨t, x, rfl, nt, rfl, hxi⟩ := yy
        obtain ⟨d', hd', hdq, hsh⟩ := hx.get i x hxi
        have e3 := Ex.new (o := .tup [.int (i : Nat), x]) nt
        refine ⟨t, _, rfl, st_of upd_same, rfl, _, _, rfl, _, _, rfl, rfl, ?_⟩
        have tst : EvT (tNot (tB (tCa (spIe K) (fun cls d x H => E cls d H) (tCons (tVar 3) tNil)))) [some (.ref j), some (.ref p), some (.int (i : Nat)), some x] (upd H2 t (.tup [.int (i : Nat), x])) (!edB d') := et_not (et_B fun H4 e4 Q q => ⟨_, rfl, x, d', rfl, (hdq.ex ((e2.trans e3).trans e4)), hsh, fun H' e' => q H' e'⟩)
        rcases Nat.lt_or_ge i n with hlt | hge
        · rw [hb i d' hlt hd'] at tst
          refine s_when tst (fun z => nomatch z) fun _ H4 e4 => ⟨⟨_, _, rfl⟩, (e2.trans e3).trans e4, hlt⟩
        · obtain rfl : i = n := by omega
          rw [hd] at hd'
          cases hd'
          rw [hf] at tst
          refine s_when tst (fun _ H4 e4 => ?_) (fun z => nomatch z)
          exact ⟨_, rfl, rfl, fun d2 nd => hE d2 H4 ((e2.trans e3).trans e4) nd⟩
      · omega
    · refine q_when (b := !true) (et_not (isN (ev_var rfl) (ty_tup hp) kTT)) (fun z => nomatch z) fun _ H1 e1 => ?_
      refine ⟨_, rfl, p, [], rfl, ex_t e1 hp, for_it (walk_enumT (K := K) (a := p) (xs := [])) (fun i σ' H' => σ' = [some (.ref j), some (.ref p), none, none] ∧ Ex H H') ⟨rfl, e1⟩ (fun i σ' H' _ h => ex_t h.2 hp) (fun i y σ' H2 H3 hi h yy => ?_) fun σ' H' h => ?_⟩
      · exact absurd hi (Nat.not_lt_zero _)
      · obtain ⟨rfl, e2⟩ := h
        refine ⟨_, rfl, _, _, _, _, _, _, _, rfl, rfl, js.ex e2, fun p2 dx l H3 np e3 hp2 => ?_⟩
        refine ⟨p2, _, dx, _, _, _, 1, _, _, rfl, hp2, ⟨T.p_Batch___enter__.at_, T.p_Batch___enter__.fn⟩, ⟨T.p_Batch___exit__.at_, T.p_Batch___exit__.fn⟩, ok_Batch_enter T, ok_Batch_exit T, hr.mono (by decide), ?_⟩
        refine ⟨p2, dx, j, jdx, sh, v, pa, kvs, xs0, l, rfl, hp2, js.ex (e2.trans e3), fun H4 l4 he4 hp4 => ?_⟩
        have e4 : Ex H H4 := fun b o hb => he4 b o (e3 b o (e2 b o hb)) fun z => by
          have := e2 b o hb
          rw [z, np] at this
          cases this
        refine s_forE (fun _ => True) (ei_tup (ev_var rfl) (ex_t e4 hp)) trivial (fun x hx => nomatch hx) fun σ5 H5 _ e5 => ?_
        exact ⟨_, rfl, fun H6 e6 => hq H6 ((e4.trans e5).trans e6)⟩

end
end BJL

namespace BJL
open PySem PySem.Spec PyProof.Rows L2 BJ
section
variable {P : Program} {w : World} {K : PySem.W.Frag} {mg : Str → Option Value} {base : Heap} {a : Adr}
open Evl
def spBd (K : PySem.W.Frag) (a : Adr) : Sp := fun vs H Q E => ∃ j jdx sh v pa kvs xs0 rest, vs = .ref j :: rest ∧ rest.length ≤ sizeLine ∧ JS a H j jdx sh v pa kvs xs0 ∧
  ((∃ ds n d, DqA K H rest ds ∧ ds[n]? = some d ∧ edB d = false ∧ (∀ i d', i < n → ds[i]? = some d' → edB d' = true) ∧ RaIE a (.int (n : Nat)) H E) ∨
   (rest = [] ∧ ∀ H', Ex H H' → Q .non H'))
theorem ok_batched0 (T : Txt P K mg a) (hw : a.par = w.params) : CallO P w K mg base 4 (.ref a.batched) (spBd K a) := by
  have G_batched_all := ok_batched_all (P := P) (w := w) (base := base) (mg := mg) T hw
  refine BJ.CallO.imp (T.d_batched.ok (sp := spBa K a) sc_batched (fun cdv A outer s H vs Q E hr h => ?_)) ?_
  · obtain ⟨j, jdx, sh, v, pa, kvs, xs0, e, rfl, js, h⟩ := h
    refine ⟨_, (pss_one (ps_expr (pe_co G_batched_all (hr.mono (by decide)) rfl T.g_batched_all T.k_batched_all (takes_of rfl rfl rfl rfl) (pa_cons (pv 0) (pa_cons (pv 1) pa_nil))))), ?_⟩
    exact ⟨_, rfl, _, rfl, j, jdx, sh, v, pa, kvs, xs0, e, rfl, js, h⟩
  · rintro vs H Q E ⟨j, jdx, sh, v, pa, kvs, xs0, rest, rfl, hl, js, h⟩
    refine ⟨[.ref j], rest, rfl, rfl, hl, fun p np => ?_⟩
    have e1 := Ex.new (o := .tup rest) np
    refine ⟨j, jdx, sh, v, pa, kvs, xs0, .ref p, rfl, js.ex e1, .inr ?_⟩
    rcases h with ⟨ds, n, d, hx, hd, hf, hb, hE⟩ | ⟨rfl, hq⟩
    · exact .inl ⟨p, rest, ds, n, d, rfl, st_of upd_same, hx.ex e1, hd, hf, hb, fun d H' e2 nd => hE d H' (e1.trans e2) nd⟩
    · exact .inr ⟨p, rfl, st_of upd_same, fun H' e2 => hq H' (e1.trans e2)⟩
theorem ok_batched (T : Txt P K mg a) (hw : a.par = w.params) : CallX P w K mg base 4 (.ref a.batched) [] fun vs zs H Q E => zs = [] ∧ spBd K a vs H Q E := (ok_batched0 T hw).x

end
end BJL

namespace BJL
open PySem PySem.Spec PyProof.Rows L2 BJ
section
variable {P : Program} {w : World} {K : PySem.W.Frag} {mg : Str → Option Value} {base : Heap} {a : Adr}
open Evl
theorem exm_first {cls c1 c2 c3 : Value} {b1 b2 b3 : Bool} (h1 : PySem.W.exmOne K cls c1 = some b1) (h2 : PySem.W.exmOne K cls c2 = some b2) (h3 : PySem.W.exmOne K cls c3 = some b3) : PySem.W.exmAny K cls [c1, c2, c3] = some (b1 || (b2 || (b3 || false))) := by
  simp only [PySem.W.exmAny, h1, h2, h3]
theorem ref_tail (T : Txt P K mg a) {D : Ends} {σ : L2.St} {H0 H : Hp} {y : V} {e d : Addr} (h3 : σ[3]? = some (some (.ref e))) (hat : ExcAt H e a.InvalidEdit d [("position", y)]) (x0 : Ex H0 H) (hq : ∀ q H', H0 q = none → Ex H0 H' → H' q = some (.lst [y]) → D.rt (.ref q) H') : tRet (tIf (tAnd (tB (tCB (rIsG K) (tCons (tVar 3) (tCons (tC (V.ref a.InvalidEdit)) tNil)))) (tB (tCB (rIsG K) (tCons (tVar 3) (tCons (tC (V.ty "ValueError")) tNil))))) (tLst (tCons (tExf K (tVar 3) "position") tNil)) (tC (.str "other"))) D σ H := by
  have ht : EvT (tAnd (tB (tCB (rIsG K) (tCons (tVar 3) (tCons (tC (V.ref a.InvalidEdit)) tNil)))) (tB (tCB (rIsG K) (tCons (tVar 3) (tCons (tC (V.ty "ValueError")) tNil))))) σ H (true && true) := et_and (et_B (ev_cb (ea_cons (ev_var h3) (ea_cons ev_c ea_nil)) (rc_isE hat T.R_InvalidEdit T.u_InvalidEdit_InvalidEdit))) fun _ => et_B (ev_cb (ea_cons (ev_var h3) (ea_cons ev_c ea_nil)) (rc_isEt hat T.R_InvalidEdit T.u_InvalidEdit_ValueError))
  refine ht H (Ex.refl _) _ fun H1 e1 => iteT ?_
  refine (ea_cons (ev_exf (ev_var h3) hat T.R_InvalidEdit T.n_InvalidEdit_position rfl) ea_nil) H1 e1 _ fun H2 e2 => ⟨(by show 1 ≤ sizeLine; decide), fun l nl => ?_⟩
  have e3 := (x0.trans (e1.trans e2))
  exact hq l _ (fresh_back e3 nl) (e3.trans (Ex.new nl)) upd_same
def spRf (K : PySem.W.Frag) (a : Adr) : Sp := fun vs H Q _ => ∃ j jdx sh v pa kvs xs0 e b, vs = [.ref j, e, .bl b] ∧ JS a H j jdx sh v pa kvs xs0 ∧
  ((b = true ∧ ∃ t, TyX K H e (.type t) ∧ PySem.W.kitOne K (.type t) (.type "tuple") = some false ∧ ∀ q H', H q = none → Ex H H' → H' q = some (.lst [.non]) → Q (.ref q) H') ∨
   (∃ p xs ds n d, e = .ref p ∧ SqT K H p xs ∧ DqA K H xs ds ∧ ds[n]? = some d ∧ edB d = false ∧ (∀ i d', i < n → ds[i]? = some d' → edB d' = true) ∧ ∀ q H', H q = none → Ex H H' → H' q = some (.lst [.int (n : Nat)]) → Q (.ref q) H'))
theorem ok__law_refusal (T : Txt P K mg a) (hw : a.par = w.params) : CallP P w K mg base 6 (.ref a._law_refusal) (spRf K a) := by
  have G_batched_all : CallP P w K mg base 3 (.ref a.batched_all) (spBa K a) := (ok_batched_all T hw).p
  have G_batched := ok_batched (P := P) (w := w) (base := base) (mg := mg) T hw
  refine T.d__law_refusal.ok sc__law_refusal (fun vs H Q E h => ?_) (fun cdv A outer s H vs Q E hr hG h => ?_)
  · obtain ⟨j, jdx, sh, v, pa, kvs, xs0, e, b, rfl, _⟩ := h
    rfl
  · obtain ⟨j, jdx, sh, v, pa, kvs, xs0, e, b, rfl, js, h⟩ := h
    refine ⟨_, (pss_cons (ps_set (i := 3) sc__law_refusal.nd rfl (Or.inl rfl) pe_non)
 (pss_cons (ps_tryK (i := 4) (ts := fun a cls d => tAsg (tVar 4) (gName 3)) rfl rfl rfl sc__law_refusal.nd rfl rfl (cl_three ⟨rfl, by decide, Or.inl T.g_JarError⟩ ⟨rfl, by decide, Or.inl T.g_StateError⟩ ⟨rfl, by decide, Or.inl T.g_MissingError⟩) (takes_of rfl rfl rfl rfl)
 (fun W pn xe tk pn_ => (pss_one (ps_if (PW.pt (pw_or (pt_val (pv 2)) (pw_or1 (pt_cmpR op_ne (pe_callB (call_len_seq' (K := K) rfl) (by rfl) T.b_len (by decide +kernel) (pa_cons (pv 1) pa_nil)) pe_int (nomark _)))))
 (pss_one (ps_expr (pe_ca G_batched_all (hr.mono (by decide)) hG rfl T.g_batched_all T.k_batched_all tk (pa_cons (pv 0) (pa_cons (pv 1) pa_nil)))))
 (pss_one (ps_expr (pe_cx G_batched (hr.mono (by decide)) rfl T.g_batched T.k_batched tk (pa_cons (pv 0) (pa_cons (pe_ix (ix_tup' (K := K) rfl) (pv 1) pe_int (fun _ _ => rfl)) (pa_cons (pe_ix (ix_tup' (K := K) rfl) (pv 1) pe_int (fun _ _ => rfl)) (pa_cons (pe_ix (ix_tup' (K := K) rfl) (pv 1) pe_int (fun _ _ => rfl)) pa_nil)))) pk_nil))))))
 (fun a oe cls d pn hz hf => (pss_one (ps_set (i := 3) sc__law_refusal.nd rfl (Or.inl rfl) (pv 4)))))
 (pss_cons (ps_if (pt_cmp (pc_isN (pv 3)))
 (pss_one (ps_ret pe_str))
 pss_nil)
 (pss_one (ps_ret (pe_ifExp (PW.pt (pw_and (pt_val (pe_callB (call_isG' (K := K) rfl) (by rfl) T.b_isinstance (by decide +kernel) (pa_cons (pv 3) (pa_cons (pe_glob (v := .ref a.InvalidEdit) (by rfl) T.g_InvalidEdit rfl) pa_nil)))) (pw_and1 (pt_val (pe_callB (call_isG' (K := K) rfl) (by rfl) T.b_isinstance (by decide +kernel) (pa_cons (pv 3) (pa_cons (pe_bltn (v := .ty "ValueError") (u := .type "ValueError") (by rfl) T.b_ValueError (by decide +kernel) (by exact rfl)) pa_nil))))))) (pe_lst (pa_cons (pe_exf (pv 3)) pa_nil)) pe_str)))))), ?_⟩
    refine ⟨_, rfl, ?_⟩
    rcases h with ⟨rfl, t, ht, hk, hq⟩ | ⟨p, xs, ds, n, d, rfl, hp, hx, hd, hf, hb, hq⟩
    · refine ⟨true, rfl, iteT (iteT ?_)⟩
      refine ⟨_, rfl, _, rfl, j, jdx, sh, v, pa, kvs, xs0, e, rfl, js, .inl ⟨t, ht, hk, fun d' H2 e2 nd => ?_⟩⟩
      refine ⟨true, exm_first T.v_InvalidEdit_JarError T.v_InvalidEdit_StateError T.v_InvalidEdit_MissingError, fun _ e' he => ?_, fun z => nomatch z⟩
      have hat : ExcAt (upd (upd H2 d' (.xd [("position", .non)])) e' (ExcK e' (.ref a.InvalidEdit) (some d'))) e' a.InvalidEdit d' [("position", .non)] := ⟨upd_same, by rw [upd_ne (ne_of_none upd_same he)]; exact upd_same⟩
      have x0 : Ex H (upd (upd H2 d' (.xd [("position", .non)])) e' (ExcK e' (.ref a.InvalidEdit) (some d'))) := (e2.trans (Ex.new nd)).trans (Ex.new he)
      refine ⟨_, rfl, ?_⟩
      refine ⟨_, rfl, false, rfl, ?_⟩
      exact ref_tail T rfl hat x0 hq
    · cases b with
      | true =>
        refine ⟨true, rfl, iteT (iteT ?_)⟩
        refine ⟨_, rfl, _, rfl, j, jdx, sh, v, pa, kvs, xs0, _, rfl, js, .inr (.inl ⟨p, xs, ds, n, d, rfl, hp, hx, hd, hf, hb, fun d' H2 e2 nd => ?_⟩)⟩
        refine ⟨true, exm_first T.v_InvalidEdit_JarError T.v_InvalidEdit_StateError T.v_InvalidEdit_MissingError, fun _ e' he => ?_, fun z => nomatch z⟩
        have hat : ExcAt (upd (upd H2 d' (.xd [("position", .int (n : Nat))])) e' (ExcK e' (.ref a.InvalidEdit) (some d'))) e' a.InvalidEdit d' [("position", .int (n : Nat))] := ⟨upd_same, by rw [upd_ne (ne_of_none upd_same he)]; exact upd_same⟩
        have x0 : Ex H (upd (upd H2 d' (.xd [("position", .int (n : Nat))])) e' (ExcK e' (.ref a.InvalidEdit) (some d'))) := (e2.trans (Ex.new nd)).trans (Ex.new he)
        refine ⟨_, rfl, ?_⟩
        refine ⟨_, rfl, false, rfl, ?_⟩
        exact ref_tail T rfl hat x0 hq
      | false =>
        refine ⟨false, rfl, iteF ?_⟩
        refine ⟨_, rfl, p, xs, rfl, .inr hp, rfl, _, rfl, ?_⟩
        by_cases hl : xs.length = 3
        · obtain ⟨x0, x1, x2, rfl⟩ : ∃ x0 x1 x2, xs = [x0, x1, x2] := by
            match xs, hl with
            | [x0, x1, x2], _ => exact ⟨_, _, _, rfl⟩
          refine iteF ?_
          refine ⟨_, rfl, _, rfl, p, _, _, _, rfl, rfl, hp, rfl, _, rfl, p, _, _, _, rfl, rfl, hp, rfl, _, rfl, p, _, _, _, rfl, rfl, hp, rfl, rfl, j, jdx, sh, v, pa, kvs, xs0, [x0, x1, x2], rfl, (by show 3 ≤ sizeLine; decide), js, .inl ⟨ds, n, d, hx, hd, hf, hb, fun d' H2 e2 nd => ?_⟩⟩
          refine ⟨true, exm_first T.v_InvalidEdit_JarError T.v_InvalidEdit_StateError T.v_InvalidEdit_MissingError, fun _ e' he => ?_, fun z => nomatch z⟩
          have hat : ExcAt (upd (upd H2 d' (.xd [("position", .int (n : Nat))])) e' (ExcK e' (.ref a.InvalidEdit) (some d'))) e' a.InvalidEdit d' [("position", .int (n : Nat))] := ⟨upd_same, by rw [upd_ne (ne_of_none upd_same he)]; exact upd_same⟩
          have x0 : Ex H (upd (upd H2 d' (.xd [("position", .int (n : Nat))])) e' (ExcK e' (.ref a.InvalidEdit) (some d'))) := (e2.trans (Ex.new nd)).trans (Ex.new he)
          refine ⟨_, rfl, ?_⟩
          refine ⟨_, rfl, false, rfl, ?_⟩
          exact ref_tail T rfl hat x0 hq
        · rw [show (!decide (V.int (xs.length : Int) = V.int 3)) = true by
            rw [decide_eq_false (fun z => hl (by injection z with z; omega))]; rfl]
          refine iteT ?_
          refine ⟨_, rfl, _, rfl, j, jdx, sh, v, pa, kvs, xs0, _, rfl, js, .inr (.inl ⟨p, xs, ds, n, d, rfl, hp, hx, hd, hf, hb, fun d' H2 e2 nd => ?_⟩)⟩
          refine ⟨true, exm_first T.v_InvalidEdit_JarError T.v_InvalidEdit_StateError T.v_InvalidEdit_MissingError, fun _ e' he => ?_, fun z => nomatch z⟩
          have hat : ExcAt (upd (upd H2 d' (.xd [("position", .int (n : Nat))])) e' (ExcK e' (.ref a.InvalidEdit) (some d'))) e' a.InvalidEdit d' [("position", .int (n : Nat))] := ⟨upd_same, by rw [upd_ne (ne_of_none upd_same he)]; exact upd_same⟩
          have x0 : Ex H (upd (upd H2 d' (.xd [("position", .int (n : Nat))])) e' (ExcK e' (.ref a.InvalidEdit) (some d'))) := (e2.trans (Ex.new nd)).trans (Ex.new he)
          refine ⟨_, rfl, ?_⟩
          refine ⟨_, rfl, false, rfl, ?_⟩
          exact ref_tail T rfl hat x0 hq

end
end BJL

namespace BJL
open PySem PySem.Spec PyProof.Rows L2 BJ
section
variable {P : Program} {w : World} {K : PySem.W.Frag} {mg : Str → Option Value} {base : Heap} {a : Adr}
open Evl
theorem sqT_sb {K : PySem.W.Frag} {H H1 : Hp} {d p : Addr} {kvs : List (Key × V)} {xs : List V} (b : SameBut d H H1) (hd : H d = some (.dK kvs)) (h : SqT K H p xs) : SqT K H1 p xs := by
  rcases h with (h | ⟨o, h⟩) | h
  · exact .inl (.inl (b p _ (ne_of h hd fun z => nomatch z) h))
  · exact .inl (.inr ⟨o, b p _ (ne_of h hd fun z => nomatch z) h⟩)
  · exact .inr h
theorem sqL_sb {K : PySem.W.Frag} {H H1 : Hp} {d p : Addr} {kvs : List (Key × V)} {xs : List V} (b : SameBut d H H1) (hd : H d = some (.dK kvs)) (h : SqL K H p xs) : SqL K H1 p xs := by
  rcases h with (h | ⟨o, h⟩) | h
  · exact .inl (.inl (b p _ (ne_of h hd fun z => nomatch z) h))
  · exact .inl (.inr ⟨o, b p _ (ne_of h hd fun z => nomatch z) h⟩)
  · exact .inr h
mutual
theorem dp_sb {K : PySem.W.Frag} {H H1 : Hp} {d : Addr} {kvs : List (Key × V)} (b : SameBut d H H1) (hd : H d = some (.dK kvs)) : ∀ {x : V} {pd : PyData}, Dp K H x pd → Dp K H1 x pd
  | _, _, .non => .non
  | _, _, .bl b => .bl b
  | _, _, .int i => .int i
  | _, _, .str x => .str x
  | _, _, .lst h r => .lst (sqL_sb b hd h) (dpAll_sb b hd r)
  | _, _, .tup h r => .tup (sqT_sb b hd h) (dpAll_sb b hd r)
theorem dpAll_sb {K : PySem.W.Frag} {H H1 : Hp} {d : Addr} {kvs : List (Key × V)} (b : SameBut d H H1) (hd : H d = some (.dK kvs)) : ∀ {x : List V} {pd : List PyData}, DpAll K H x pd → DpAll K H1 x pd
  | _, _, .nil => .nil
  | _, _, .cons h r => .cons (dp_sb b hd h) (dpAll_sb b hd r)
end
theorem dq_sb {K : PySem.W.Frag} {H H1 : Hp} {d c : Addr} {cells : List Int} {n : Nat} (D : Dr H d c cells n) (b : SameBut d H H1) {x : V} {pd : PyData} (h : Dq K H x pd) : Dq K H1 x pd := by
  obtain ⟨a, l, u, hd, _⟩ := D.dict
  cases h with
  | dp h => exact .dp (dp_sb b hd h)
  | dict h => exact .dict (b _ _ (fun z => by rw [z, hd] at h; cases h) h)
theorem dqa_sb {K : PySem.W.Frag} {H H1 : Hp} {d c : Addr} {cells : List Int} {n : Nat} (D : Dr H d c cells n) (b : SameBut d H H1) : ∀ {xs : List V} {ds : List PyData}, DqA K H xs ds → DqA K H1 xs ds
  | _, _, .nil => .nil
  | _, _, .cons h r => .cons ⟨dq_sb D b h.1, h.2⟩ (dqa_sb D b r)
theorem DqA.app {K : PySem.W.Frag} {H : Hp} : ∀ {xs : List V} {ds : List PyData} {ys : List V} {es : List PyData}, DqA K H xs ds → DqA K H ys es → DqA K H (xs ++ ys) (ds ++ es)
  | _, _, _, _, .nil, h => h
  | _, _, _, _, .cons h r, h2 => .cons h (DqA.app r h2)
/-- what is new since H -/
def newH (H H' : Hp) : Hp := fun p => match H p with | some _ => none | none => H' p
theorem newH_at {H H' : Hp} {p : Addr} (h : H p = none) : newH H H' p = H' p := by unfold newH; rw [h]
theorem newH_of {H H' : Hp} {p : Addr} {o : HO} (h : newH H H' p = some o) : H p = none ∧ H' p = some o := by
  unfold newH at h
  cases e : H p with
  | none => rw [e] at h; exact ⟨rfl, h⟩
  | some q => rw [e] at h; cases h
theorem newH_up {H H1 H2 : Hp} (e : Ex H1 H2) : Ex (newH H H1) (newH H H2) := fun p o h => by
  obtain ⟨h1, h2⟩ := newH_of h
  rw [newH_at h1]
  exact e p o h2
theorem newH_lo {H H1 H2 : Hp} (e : Ex H H1) : Ex (newH H1 H2) (newH H H2) := fun p o h => by
  obtain ⟨h1, h2⟩ := newH_of h
  rw [newH_at (fresh_back e h1)]
  exact h2
theorem newH_sb {H H1 H2 : Hp} {d : Addr} {o : HO} (hd : H d = some o) (b : SameBut d H1 H2) : Ex (newH H H1) (newH H H2) := fun p o h => by
  obtain ⟨h1, h2⟩ := newH_of h
  rw [newH_at h1]
  exact b p o (fun z => by rw [z, hd] at h1; cases h1) h2
def EvDp (K : PySem.W.Frag) (te : TE) (σ : L2.St) (H : Hp) (d : PyData) : Prop := ∀ H1, Ex H H1 → ∀ Q : VK, (∀ x H2, Ex H1 H2 → Dp K (newH H1 H2) x d → Q x H2) → te σ H1 Q
def EvDA (K : PySem.W.Frag) (ta : TA) (σ : L2.St) (H : Hp) (ds : List PyData) : Prop := ∀ H1, Ex H H1 → ∀ Q : List V → Hp → Prop, (∀ xs H2, Ex H1 H2 → DpAll K (newH H1 H2) xs ds → Q xs H2) → ta σ H1 Q
def EvDq (K : PySem.W.Frag) (te : TE) (σ : L2.St) (H : Hp) (d : PyData) : Prop := ∀ H1, Ex H H1 → ∀ Q : VK, (∀ x H2, Ex H1 H2 → Dq K (newH H1 H2) x d → Q x H2) → te σ H1 Q
def EvQA (K : PySem.W.Frag) (ta : TA) (σ : L2.St) (H : Hp) (ds : List PyData) : Prop := ∀ H1, Ex H H1 → ∀ Q : List V → Hp → Prop, (∀ xs H2, Ex H1 H2 → Paired (Dq K (newH H1 H2)) xs ds → Q xs H2) → ta σ H1 Q
section
variable {σ : L2.St} {H : Hp} {te : TE} {ta : TA} {d : PyData} {ds : List PyData}
theorem edp_non : EvDp K (tC .non) σ H .none := fun H1 e Q q => q .non H1 (Ex.refl _) .non
theorem edp_int {i : Int} : EvDp K (tC (.int i)) σ H (.int i) := fun H1 e Q q => q _ H1 (Ex.refl _) (.int i)
theorem edp_str {z : Str} : EvDp K (tC (.str z)) σ H (.str z) := fun H1 e Q q => q _ H1 (Ex.refl _) (.str z)
theorem eda_nil : EvDA K tNil σ H [] := fun H1 e Q q => q [] H1 (Ex.refl _) .nil
theorem eda_cons (h1 : EvDp K te σ H d) (h2 : EvDA K ta σ H ds) : EvDA K (tCons te ta) σ H (d :: ds) := fun H1 e Q q => h1 H1 e _ fun x H2 e2 hx => h2 H2 (e.trans e2) _ fun xs H3 e3 hxs => q _ _ (e2.trans e3) (.cons (dp_ex (newH_up e3) hx) (dpAll_ex (newH_lo e2) hxs))
theorem edp_tup (h : EvDA K ta σ H ds) (hl : ds.length ≤ 1000) : EvDp K (tTup ta) σ H (.tuple ds) := fun H1 e Q q => h H1 e _ fun xs H2 e2 hx => ⟨by rw [dpAll_len hx, sizeLine_eq]; omega, fun p np => q _ _ (e2.trans (Ex.new np)) (.tup (st_of ((newH_at (fresh_back e2 np)).trans upd_same)) (dpAll_ex (newH_up (Ex.new np)) hx))⟩
theorem edp_lst (h : EvDA K ta σ H ds) (hl : ds.length ≤ 1000) : EvDp K (tLst ta) σ H (.list ds) := fun H1 e Q q => h H1 e _ fun xs H2 e2 hx => ⟨by rw [dpAll_len hx, sizeLine_eq]; omega, fun p np => q _ _ (e2.trans (Ex.new np)) (.lst (sq_of ((newH_at (fresh_back e2 np)).trans upd_same)) (dpAll_ex (newH_up (Ex.new np)) hx))⟩
theorem edq_dp (h : EvDp K te σ H d) : EvDq K te σ H d := fun H1 e Q q => h H1 e _ fun x H2 e2 hx => q x H2 e2 (.dp hx)
theorem edq_dict : EvDq K tDNewK σ H (.dict []) := fun H1 e Q q => fun p np => q _ _ (Ex.new np) (.dict ((newH_at np).trans upd_same))
theorem eqa_nil : EvQA K tNil σ H [] := fun H1 e Q q => q [] H1 (Ex.refl _) .nil
theorem pq_ex {H H1 : Hp} (e : Ex H H1) : ∀ {xs : List V} {ds : List PyData}, Paired (Dq K H) xs ds → Paired (Dq K H1) xs ds
  | _, _, .nil => .nil
  | _, _, .cons h r => .cons (h.ex e) (pq_ex e r)
theorem eqa_cons (h1 : EvDq K te σ H d) (h2 : EvQA K ta σ H ds) : EvQA K (tCons te ta) σ H (d :: ds) := fun H1 e Q q => h1 H1 e _ fun x H2 e2 hx => h2 H2 (e.trans e2) _ fun xs H3 e3 hxs => q _ _ (e2.trans e3) (.cons (hx.ex (newH_up e3)) (pq_ex (newH_lo e2) hxs))
theorem pq_a {H : Hp} : ∀ {xs : List V} {ds : List PyData}, Paired (Dq K H) xs ds → (∀ d ∈ ds, SeqAt.shaped d = true ∨ d = .dict []) → DqA K H xs ds
  | _, _, .nil, _ => .nil
  | _, _, .cons h r, z => .cons ⟨h, z _ List.mem_cons_self⟩ (pq_a r fun d hd => z d (List.mem_cons_of_mem _ hd))
theorem q_asgQ {D : Ends} {i : Nat} {tz : TS} (h : EvQA K ta σ H ds) (hl : ds.length ≤ 1000) (hs : ∀ d ∈ ds, SeqAt.shaped d = true ∨ d = .dict []) (q : ∀ p xs H2, H p = none → Ex H H2 → H2 p = some (.lst xs) → DqA K (newH H H2) xs ds → tz D (σ.set i (some (.ref p))) H2) : tSeq (tAsg (tLst ta) (gName i)) tz D σ H := h H (Ex.refl _) _ fun xs H2 e2 hx => ⟨by rw [Paired.length hx, sizeLine_eq]; omega, fun p np => q p xs _ (fresh_back e2 np) (e2.trans (Ex.new np)) upd_same ((pq_a hx hs).ex (newH_up (Ex.new np)))⟩
theorem catQ {H0 : Hp} (e0 : Ex H0 H) {i : Nat} {l : Addr} {xs0 : List V} {ds0 : List PyData} {Q : VK} (hi : σ[i]? = some (some (.ref l))) (h0 : H l = some (.lst xs0)) (hx0 : DqA K (newH H0 H) xs0 ds0) (hl0 : ds0.length ≤ 1000) (h : EvQA K ta σ H ds) (hl : ds.length ≤ 1000) (hs : ∀ d ∈ ds, SeqAt.shaped d = true ∨ d = .dict []) (q : ∀ p xs H2, H p = none → Ex H H2 → H2 p = some (.lst xs) → DqA K (newH H0 H2) xs (ds0 ++ ds) → Q (.ref p) H2) : tOp (BJ.rCatS K) (tVar i) (tLst ta) σ H Q := by
  refine ⟨_, hi, h H (Ex.refl _) _ fun xs H2 e2 hx => ?_⟩
  have lx := Paired.length hx
  have l0 := hx0.len
  refine ⟨by rw [lx, sizeLine_eq]; omega, fun p np => ?_⟩
  have e1 := e2.trans (Ex.new (o := .lst xs) np)
  refine ⟨l, p, xs0, xs, rfl, rfl, .inl (.inl (e1 _ _ h0)), .inl (.inl upd_same), by rw [lx, l0, sizeLine_eq]; omega, fun p2 np2 => ?_⟩
  have e3 := e1.trans (Ex.new (o := .lst (xs0 ++ xs)) np2)
  exact q p2 (xs0 ++ xs) _ (fresh_back e1 np2) e3 upd_same (DqA.app (hx0.ex (newH_up e3)) ((((pq_a hx hs).ex (newH_up (Ex.new np))).ex (newH_up (Ex.new np2))).ex (newH_lo e0)))
end
def spItem (K : PySem.W.Frag) (b : Bool) : Sp := fun vs H Q _ => ∃ d c cells n, vs = [.ref d] ∧ Dr H d c cells n ∧ n ≤ 900000 ∧ ∀ x pd H', Dr H' d c cells (n + 1) → SameBut d H H' → Dq K (newH H H') x pd → (SeqAt.shaped pd = true ∨ pd = .dict []) → edB pd = b → Q x H'
abbrev tp (ds : List PyData) : PyData := .tuple ds
abbrev sd (z : Str) : PyData := .str z
abbrev nd (i : Int) : PyData := .int i
def neA : List PyData := [.none, tp [], sd "undo", .list [sd "undo"], tp [sd "undo", nd 1], tp [sd "put", sd "a"], tp [sd "put", sd "a", nd 1, nd 2], tp [sd "drop"], tp [sd "drop", sd "a", sd "b"]]
def neB : List PyData := [tp [sd "convert"], tp [sd "convert", nd 1, nd 2], tp [sd "Undo"], tp [sd "keep", sd "a", nd 1], tp [.none], tp [nd 5, sd "a"], tp [tp [sd "undo"]], .dict []]
def edA : List PyData := [tp [sd "put", sd "b", nd 1], tp [sd "put", sd "a", sd "again"], tp [sd "drop", sd "a"], tp [sd "convert", nd 2], tp [sd "undo"], tp [sd "drop", sd "never"]]
def edB2 : List PyData := [tp [sd "put", sd "Jam", tp [nd 1]], tp [sd "convert", nd 9]]
def neB0 : List PyData := [tp [sd "convert"], tp [sd "convert", nd 1, nd 2], tp [sd "Undo"], tp [sd "keep", sd "a", nd 1], tp [.none], tp [nd 5, sd "a"], tp [tp [sd "undo"]]]
theorem allS {ds : List PyData} (h : ds.all (fun d => SeqAt.shaped d) = true) : ∀ d ∈ ds, SeqAt.shaped d = true ∨ d = .dict [] := fun d hd => .inl (List.all_eq_true.mp h d hd)
theorem neB_shaped : ∀ d ∈ neB, SeqAt.shaped d = true ∨ d = .dict [] := fun d hd => by
  rw [show neB = neB0 ++ [.dict []] from rfl] at hd
  rcases List.mem_append.mp hd with h | h
  · exact allS (ds := neB0) (by decide +kernel) d h
  · exact .inr (List.mem_singleton.mp h)
theorem ne_all : ∀ (i : Nat) (pd : PyData), (neA ++ neB)[i]? = some pd → edB pd = false := by
  intro i pd h
  have h2 : (neA ++ neB).all (fun d => !edB d) = true := by decide +kernel
  have := List.all_eq_true.mp h2 pd (List.mem_of_getElem? h)
  simpa using this
theorem ed_all : ∀ (i : Nat) (pd : PyData), (edA ++ edB2)[i]? = some pd → edB pd = true := by
  intro i pd h
  have h2 : (edA ++ edB2).all (fun d => edB d) = true := by decide +kernel
  exact List.all_eq_true.mp h2 pd (List.mem_of_getElem? h)
theorem ok__law_no_edit (T : Txt P K mg a) : CallO P w K mg base 3 (.ref a._law_no_edit) (spItem K false) := by
  have G__law_next := ok__law_next (P := P) (w := w) (base := base) (mg := mg) T
  refine fnO (T.d__law_no_edit.okX sc__law_no_edit (fun vs H Q E h => ?_) (fun cdv A outer s H vs Q E hr h => ?_))
  · obtain ⟨d, c, cells, n, rfl, _⟩ := h
    rfl
  · obtain ⟨d, c, cells, n, rfl, dr, hn, hq⟩ := h
    refine ⟨_, (pss_cons (ps_set (i := 1) sc__law_no_edit.nd rfl (Or.inl rfl) (pe_lst (pa_cons pe_non (pa_cons (pe_tup pa_nil) (pa_cons pe_str (pa_cons (pe_lst (pa_cons pe_str pa_nil)) (pa_cons (pe_tup (pa_cons pe_str (pa_cons pe_int pa_nil))) (pa_cons (pe_tup (pa_cons pe_str (pa_cons pe_str pa_nil))) (pa_cons (pe_tup (pa_cons pe_str (pa_cons pe_str (pa_cons pe_int (pa_cons pe_int pa_nil))))) (pa_cons (pe_tup (pa_cons pe_str pa_nil)) (pa_cons (pe_tup (pa_cons pe_str (pa_cons pe_str (pa_cons pe_str pa_nil)))) pa_nil)))))))))))
 (pss_cons (ps_set (i := 1) sc__law_no_edit.nd rfl (Or.inl rfl) (pe_op op_catS (pv 1) (pe_lst (pa_cons (pe_tup (pa_cons pe_str pa_nil)) (pa_cons (pe_tup (pa_cons pe_str (pa_cons pe_int (pa_cons pe_int pa_nil)))) (pa_cons (pe_tup (pa_cons pe_str pa_nil)) (pa_cons (pe_tup (pa_cons pe_str (pa_cons pe_str (pa_cons pe_int pa_nil)))) (pa_cons (pe_tup (pa_cons pe_non pa_nil)) (pa_cons (pe_tup (pa_cons pe_int (pa_cons pe_str pa_nil))) (pa_cons (pe_tup (pa_cons (pe_tup (pa_cons pe_str pa_nil)) pa_nil)) (pa_cons pe_dnewK pa_nil)))))))))))
 (pss_one (ps_ret (pe_ix (ix_list' (K := K) rfl) (pv 1) (pe_co G__law_next (hr.mono (by decide)) rfl T.g__law_next T.k__law_next (takes_of rfl rfl rfl rfl) (pa_cons (pv 0) (pa_cons pe_int pa_nil))) (fun _ _ => rfl)))))), ?_⟩
    refine q_asgQ (K := K) (ds := neA) (eqa_cons (edq_dp edp_non) (eqa_cons (edq_dp (edp_tup eda_nil (by decide))) (eqa_cons (edq_dp edp_str) (eqa_cons (edq_dp (edp_lst (eda_cons edp_str eda_nil) (by decide))) (eqa_cons (edq_dp (edp_tup (eda_cons edp_str (eda_cons edp_int eda_nil)) (by decide))) (eqa_cons (edq_dp (edp_tup (eda_cons edp_str (eda_cons edp_str eda_nil)) (by decide))) (eqa_cons (edq_dp (edp_tup (eda_cons edp_str (eda_cons edp_str (eda_cons edp_int (eda_cons edp_int eda_nil)))) (by decide))) (eqa_cons (edq_dp (edp_tup (eda_cons edp_str eda_nil) (by decide))) (eqa_cons (edq_dp (edp_tup (eda_cons edp_str (eda_cons edp_str (eda_cons edp_str eda_nil))) (by decide))) eqa_nil))))))))) (by decide) (allS (by decide +kernel)) fun p xs H1 np e1 hp hx => ?_
    refine catQ (K := K) (ds := neB) e1 rfl hp hx (by decide) (eqa_cons (edq_dp (edp_tup (eda_cons edp_str eda_nil) (by decide))) (eqa_cons (edq_dp (edp_tup (eda_cons edp_str (eda_cons edp_int (eda_cons edp_int eda_nil))) (by decide))) (eqa_cons (edq_dp (edp_tup (eda_cons edp_str eda_nil) (by decide))) (eqa_cons (edq_dp (edp_tup (eda_cons edp_str (eda_cons edp_str (eda_cons edp_int eda_nil))) (by decide))) (eqa_cons (edq_dp (edp_tup (eda_cons edp_non eda_nil) (by decide))) (eqa_cons (edq_dp (edp_tup (eda_cons edp_int (eda_cons edp_str eda_nil)) (by decide))) (eqa_cons (edq_dp (edp_tup (eda_cons (edp_tup (eda_cons edp_str eda_nil) (by decide)) eda_nil) (by decide))) (eqa_cons edq_dict eqa_nil)))))))) (by decide) neB_shaped fun p2 xs2 H2 np2 e2 hp2 hx2 => ?_
    have eA := e1.trans e2
    have dr3 := dr.same eA
    have l3 : xs2.length = 17 := hx2.len
    refine ⟨_, rfl, _, rfl, d, c, cells, n, 17, rfl, dr3, by omega, by omega, by omega, fun r H4 r0 r1 D4 B4 => ?_⟩
    obtain ⟨m, rfl⟩ : ∃ m : Nat, r = (m : Int) := ⟨r.toNat, by omega⟩
    obtain ⟨dv0, hd0⟩ := dr.atd
    have hxx := hx2.ex (newH_sb hd0 B4.sb)
    obtain ⟨dv, hd3⟩ := dr3.atd
    have hm : m < xs2.length := by omega
    have hg := List.getElem?_eq_getElem hm
    obtain ⟨pd, hpd, hdq, hsh⟩ := hxx.get m _ hg
    exact ⟨p2, xs2, m, _, rfl, rfl, sq_of (B4.sb _ _ (ne_of hp2 hd3 fun z => nomatch z) hp2), atI_nat hg, hq _ pd H4 D4 ((SameBut.of eA).trans B4.sb) hdq hsh (ne_all m pd hpd)⟩
theorem ok__law_edit (T : Txt P K mg a) : CallO P w K mg base 3 (.ref a._law_edit) (spItem K true) := by
  have G__law_next := ok__law_next (P := P) (w := w) (base := base) (mg := mg) T
  refine fnO (T.d__law_edit.okX sc__law_edit (fun vs H Q E h => ?_) (fun cdv A outer s H vs Q E hr h => ?_))
  · obtain ⟨d, c, cells, n, rfl, _⟩ := h
    rfl
  · obtain ⟨d, c, cells, n, rfl, dr, hn, hq⟩ := h
    refine ⟨_, (pss_cons (ps_set (i := 1) sc__law_edit.nd rfl (Or.inl rfl) (pe_lst (pa_cons (pe_tup (pa_cons pe_str (pa_cons pe_str (pa_cons pe_int pa_nil)))) (pa_cons (pe_tup (pa_cons pe_str (pa_cons pe_str (pa_cons pe_str pa_nil)))) (pa_cons (pe_tup (pa_cons pe_str (pa_cons pe_str pa_nil))) (pa_cons (pe_tup (pa_cons pe_str (pa_cons pe_int pa_nil))) (pa_cons (pe_tup (pa_cons pe_str pa_nil)) (pa_cons (pe_tup (pa_cons pe_str (pa_cons pe_str pa_nil))) pa_nil))))))))
 (pss_one (ps_ret (pe_ix (ix_list' (K := K) rfl) (pe_op op_catS (pv 1) (pe_lst (pa_cons (pe_tup (pa_cons pe_str (pa_cons pe_str (pa_cons (pe_tup (pa_cons pe_int pa_nil)) pa_nil)))) (pa_cons (pe_tup (pa_cons pe_str (pa_cons pe_int pa_nil))) pa_nil)))) (pe_co G__law_next (hr.mono (by decide)) rfl T.g__law_next T.k__law_next (takes_of rfl rfl rfl rfl) (pa_cons (pv 0) (pa_cons pe_int pa_nil))) (fun _ _ => rfl))))), ?_⟩
    refine q_asgQ (K := K) (ds := edA) (eqa_cons (edq_dp (edp_tup (eda_cons edp_str (eda_cons edp_str (eda_cons edp_int eda_nil))) (by decide))) (eqa_cons (edq_dp (edp_tup (eda_cons edp_str (eda_cons edp_str (eda_cons edp_str eda_nil))) (by decide))) (eqa_cons (edq_dp (edp_tup (eda_cons edp_str (eda_cons edp_str eda_nil)) (by decide))) (eqa_cons (edq_dp (edp_tup (eda_cons edp_str (eda_cons edp_int eda_nil)) (by decide))) (eqa_cons (edq_dp (edp_tup (eda_cons edp_str eda_nil) (by decide))) (eqa_cons (edq_dp (edp_tup (eda_cons edp_str (eda_cons edp_str eda_nil)) (by decide))) eqa_nil)))))) (by decide) (allS (by decide +kernel)) fun p xs H1 np e1 hp hx => ?_
    refine catQ (K := K) (ds := edB2) e1 rfl hp hx (by decide) (eqa_cons (edq_dp (edp_tup (eda_cons edp_str (eda_cons edp_str (eda_cons (edp_tup (eda_cons edp_int eda_nil) (by decide)) eda_nil))) (by decide))) (eqa_cons (edq_dp (edp_tup (eda_cons edp_str (eda_cons edp_int eda_nil)) (by decide))) eqa_nil)) (by decide) (allS (by decide +kernel)) fun p2 xs2 H2 np2 e2 hp2 hx2 => ?_
    have eA := e1.trans e2
    have dr3 := dr.same eA
    have l3 : xs2.length = 8 := hx2.len
    refine ⟨_, rfl, d, c, cells, n, 8, rfl, dr3, by omega, by omega, by omega, fun r H4 r0 r1 D4 B4 => ?_⟩
    obtain ⟨m, rfl⟩ : ∃ m : Nat, r = (m : Int) := ⟨r.toNat, by omega⟩
    obtain ⟨dv0, hd0⟩ := dr.atd
    have hxx := hx2.ex (newH_sb hd0 B4.sb)
    obtain ⟨dv, hd3⟩ := dr3.atd
    have hm : m < xs2.length := by omega
    have hg := List.getElem?_eq_getElem hm
    obtain ⟨pd, hpd, hdq, hsh⟩ := hxx.get m _ hg
    exact ⟨p2, xs2, m, _, rfl, rfl, sq_of (B4.sb _ _ (ne_of hp2 hd3 fun z => nomatch z) hp2), atI_nat hg, hq _ pd H4 D4 ((SameBut.of eA).trans B4.sb) hdq hsh (ed_all m pd hpd)⟩

end
end BJL

namespace BJL
open PySem PySem.Spec PyProof.Rows L2 BJ
section
variable {P : Program} {w : World} {K : PySem.W.Frag} {mg : Str → Option Value} {base : Heap} {a : Adr}
open Evl
def offH (d l : Addr) (H : Hp) : Hp := fun p => if p = d ∨ p = l then none else H p
theorem offH_of {d l p : Addr} {H : Hp} {o : HO} (h : offH d l H p = some o) : p ≠ d ∧ p ≠ l ∧ H p = some o := by
  unfold offH at h
  by_cases e : p = d ∨ p = l
  · rw [if_pos e] at h; cases h
  · rw [if_neg e] at h; exact ⟨fun z => e (.inl z), fun z => e (.inr z), h⟩
theorem offH_at {d l p : Addr} {H : Hp} (h1 : p ≠ d) (h2 : p ≠ l) : offH d l H p = H p := by
  unfold offH
  rw [if_neg (fun z => z.elim h1 h2)]
theorem offH_ex {d l : Addr} {H : Hp} : Ex (offH d l H) H := fun p o h => (offH_of h).2.2
theorem offH_sb {d l : Addr} {H H' : Hp} (b : SameBut d H H') : Ex (offH d l H) (offH d l H') := fun p o h => by
  obtain ⟨h1, h2, h3⟩ := offH_of h
  rw [offH_at h1 h2]
  exact b p o h1 h3
theorem offH_set {d l : Addr} {H : Hp} {u : HO} : Ex (offH d l H) (offH d l (upd H l u)) := fun p o h => by
  obtain ⟨h1, h2, h3⟩ := offH_of h
  rw [offH_at h1 h2, upd_ne h2]
  exact h3
theorem offH_new {d l : Addr} {H H' : Hp} {o1 o2 : HO} (hd : H d = some o1) (hl : H l = some o2) : Ex (newH H H') (offH d l H') := fun p o h => by
  obtain ⟨h1, h2⟩ := newH_of h
  rw [offH_at (fun z => by rw [z, hd] at h1; cases h1) (fun z => by rw [z, hl] at h1; cases h1)]
  exact h2
theorem off_sb {d l : Addr} {H : Hp} (hl : H l = none) : SameBut d H (offH d l H) := fun p o h1 h => by
  rw [offH_at h1 (fun z => by rw [z, hl] at h; cases h)]
  exact h
section
variable {H0 H H' : Hp} {d l c j jdx sh pa q1 q2 : Addr} {cells : List Int} {n : Nat} {v : Int} {is1 is2 : List Int} {xs ys : List V} {ds : List PyData}
theorem JJ.sb (h : JJ K a H j jdx sh v pa q1 q2 is1 is2 xs) (D : Dr H d c cells n) (b : SameBut d H H') : JJ K a H' j jdx sh v pa q1 q2 is1 is2 xs := by
  obtain ⟨a0, l0, u0, hd, _⟩ := D.dict
  refine ⟨⟨b _ _ (ne_of h.js.at_ hd fun z => nomatch z) h.js.at_, b _ _ (fun z => ?_) h.js.sv, b _ _ (ne_of h.js.pv hd fun z => nomatch z) h.js.pv⟩, sqT_sb b hd h.s1, sqT_sb b hd h.s2, h.o1, h.o2, h.hx, h.hv⟩
  have := h.js.sv
  rw [z, hd] at this
  injection this with this
  injection this with this
  have := congrArg List.length this
  rw [drw_len] at this
  cases this
theorem drMut {o : HO} (D : Dr H d c cells n) (h1 : l ≠ d) (h2 : l ≠ c) : Dr (upd H l o) d c cells n := by
  obtain ⟨⟨a0, l0, u0, hd, h3⟩, hl, hn, hz⟩ := D
  exact ⟨⟨a0, l0, u0, (upd_ne h1.symm).trans hd, h3⟩, (upd_ne h2.symm).trans hl, hn, hz⟩
structure LS (K : PySem.W.Frag) (a : Adr) (H0 H : Hp) (d l c : Addr) (cells : List Int) (n : Nat) (ys : List V) (ds : List PyData) (j jdx sh : Addr) (v : Int) (pa q1 q2 : Addr) (is1 is2 : List Int) (xs : List V) : Prop where
  dr : Dr H d c cells n
  jj : JJ K a (offH d l H) j jdx sh v pa q1 q2 is1 is2 xs
  li : H l = some (.lst ys)
  da : DqA K (offH d l H) ys ds
  sb : SameBut d H0 H
  nl : H0 l = none
  lc : l ≠ c
theorem LS.draw {m : Nat} (h : LS K a H0 H d l c cells n ys ds j jdx sh v pa q1 q2 is1 is2 xs) (D : Dr H' d c cells m) (b : SameBut d H H') : LS K a H0 H' d l c cells m ys ds j jdx sh v pa q1 q2 is1 is2 xs := by
  obtain ⟨a0, l0, u0, hd, _⟩ := h.dr.dict
  exact ⟨D, h.jj.ex (offH_sb b), b _ _ (ne_of h.li hd fun z => nomatch z) h.li, h.da.ex (offH_sb b), h.sb.trans b, h.nl, h.lc⟩
theorem LS.ex (h : LS K a H0 H d l c cells n ys ds j jdx sh v pa q1 q2 is1 is2 xs) (e : Ex H H') : LS K a H0 H' d l c cells n ys ds j jdx sh v pa q1 q2 is1 is2 xs := h.draw (h.dr.same e) (SameBut.of e)
theorem LS.upd {ys' : List V} {ds' : List PyData} (h : LS K a H0 H d l c cells n ys ds j jdx sh v pa q1 q2 is1 is2 xs) (da : DqA K (offH d l H) ys' ds') : LS K a H0 (upd H l (.lst ys')) d l c cells n ys' ds' j jdx sh v pa q1 q2 is1 is2 xs := by
  obtain ⟨a0, l0, u0, hd, _⟩ := h.dr.dict
  have ld : l ≠ d := ne_of h.li hd fun z => nomatch z
  refine ⟨drMut h.dr ld h.lc, h.jj.ex offH_set, upd_same, da.ex offH_set, fun p o h1 h2 => ?_, h.nl, h.lc⟩
  rw [upd_ne (fun z => by rw [z, h.nl] at h2; cases h2)]
  exact h.sb p o h1 h2
end

def Pt (ds : List PyData) (k at_ : Nat) : Prop := ds.length = k ∧ at_ < k ∧ (∃ d, ds[at_]? = some d ∧ edB d = false) ∧ ∀ i d', i < at_ → ds[i]? = some d' → edB d' = true
theorem DqA.set {K : PySem.W.Frag} {H : Hp} {x : V} {pd : PyData} (hx : Dq K H x pd) (hs : SeqAt.shaped pd = true ∨ pd = .dict []) : ∀ {xs : List V} {ds : List PyData} (i : Nat), DqA K H xs ds → DqA K H (xs.set i x) (ds.set i pd)
  | _, _, _, .nil => .nil
  | _, _, 0, .cons _ r => .cons ⟨hx, hs⟩ r
  | _, _, i + 1, .cons h r => .cons h (DqA.set hx hs i r)
theorem DqA.push {K : PySem.W.Frag} {H : Hp} {x : V} {pd : PyData} {xs : List V} {ds : List PyData} (h : DqA K H xs ds) (hx : Dq K H x pd) (hs : SeqAt.shaped pd = true ∨ pd = .dict []) : DqA K H (xs ++ [x]) (ds ++ [pd]) := DqA.app h (.cons ⟨hx, hs⟩ .nil)
def OddP (H : Hp) (d l : Addr) (x : V) : Prop := x = .non ∨ x = .ref l ∨ x = .str "undo" ∨ x = .int 5 ∨ (∃ p, x = .ref p ∧ offH d l H p = some (.dK [])) ∨ x = .bl true
theorem OddP.ex {H H' : Hp} {d l : Addr} {x : V} (h : OddP H d l x) (b : SameBut d H H') : OddP H' d l x := by
  rcases h with h | h | h | h | ⟨p, h1, h2⟩ | h
  · exact .inl h
  · exact .inr (.inl h)
  · exact .inr (.inr (.inl h))
  · exact .inr (.inr (.inr (.inl h)))
  · exact .inr (.inr (.inr (.inr (.inl ⟨p, h1, offH_sb b _ _ h2⟩))))
  · exact .inr (.inr (.inr (.inr (.inr h))))
theorem OddP.ty {K : PySem.W.Frag} {H : Hp} {d l : Addr} {x : V} {ys : List V} (h : OddP H d l x) (hl : H l = some (.lst ys)) : ∃ t, TyX K H x (.type t) ∧ PySem.W.kitOne K (.type t) (.type "tuple") = some false := by
  rcases h with rfl | rfl | rfl | rfl | ⟨p, rfl, h2⟩ | rfl
  · exact ⟨_, .base .non, kit_ty (by decide +kernel)⟩
  · exact ⟨_, ty_lst (sq_of hl), kit_ty (by decide +kernel)⟩
  · exact ⟨_, .base (.str _), kit_ty (by decide +kernel)⟩
  · exact ⟨_, .base (.int _), kit_ty (by decide +kernel)⟩
  · exact ⟨_, .base (.dK (offH_ex _ _ h2)), kit_ty (by decide +kernel)⟩
  · exact ⟨_, .base (.bl _), kit_ty (by decide +kernel)⟩
theorem seq_to {ts tz : TS} {D : Ends} {σ : L2.St} {H : Hp} (P : Hp → Prop) (k : ∀ H', P H' → tz D σ H') (h : (∀ H', P H' → tz D σ H') → tSeq ts tz D σ H) : tSeq ts tz D σ H := h k
theorem manyP {r : Int} (h0 : 0 ≤ r) (h4 : r < 4) : ∃ k : Nat, atI ([.int 1, .int 3, .int 3, .int 6] : List V) r = some (.int (k : Nat)) ∧ 1 ≤ k ∧ k ≤ 6 := by
  obtain ⟨m, rfl⟩ : ∃ m : Nat, r = (m : Int) := ⟨r.toNat, by omega⟩
  match m, h4 with
  | 0, _ => exact ⟨1, rfl, by omega, by omega⟩
  | 1, _ => exact ⟨3, rfl, by omega, by omega⟩
  | 2, _ => exact ⟨3, rfl, by omega, by omega⟩
  | 3, _ => exact ⟨6, rfl, by omega, by omega⟩
theorem oddI {H : Hp} {d l p : Addr} {r : Int} (hp : offH d l H p = some (.dK [])) (h0 : 0 ≤ r) (h6 : r < 6) : ∃ x, atI ([.non, .ref l, .str "undo", .int 5, .ref p, .bl true] : List V) r = some x ∧ OddP H d l x := by
  obtain ⟨m, rfl⟩ : ∃ m : Nat, r = (m : Int) := ⟨r.toNat, by omega⟩
  match m, h6 with
  | 0, _ => exact ⟨_, rfl, .inl rfl⟩
  | 1, _ => exact ⟨_, rfl, .inr (.inl rfl)⟩
  | 2, _ => exact ⟨_, rfl, .inr (.inr (.inl rfl))⟩
  | 3, _ => exact ⟨_, rfl, .inr (.inr (.inr (.inl rfl)))⟩
  | 4, _ => exact ⟨_, rfl, .inr (.inr (.inr (.inr (.inl ⟨p, rfl, hp⟩))))⟩
  | 5, _ => exact ⟨_, rfl, .inr (.inr (.inr (.inr (.inr rfl))))⟩
theorem Pt.set1 {ds : List PyData} {k i : Nat} {pd : PyData} (hl : ds.length = k) (hi : i < k) (ha : ∀ d ∈ ds, edB d = true) (hf : edB pd = false) : Pt (ds.set i pd) k i := by
  refine ⟨by rw [List.length_set, hl], hi, ⟨pd, by rw [List.getElem?_set_self (by omega)], hf⟩, fun m d' hm hd => ?_⟩
  rw [List.getElem?_set_ne (by omega)] at hd
  exact ha _ (List.mem_of_getElem? hd)
theorem Pt.set2 {ds : List PyData} {k i : Nat} {pd : PyData} (h : Pt ds k i) : Pt (ds.set (i + 1) pd) k i := by
  obtain ⟨h1, h2, ⟨d, h3, h4⟩, h5⟩ := h
  refine ⟨by rw [List.length_set, h1], h2, ⟨d, by rw [List.getElem?_set_ne (by omega)]; exact h3, h4⟩, fun m d' hm hd => ?_⟩
  rw [List.getElem?_set_ne (by omega)] at hd
  exact h5 m d' hm hd
def toldD (i : Int) : PyData := .list [.list [.int i], .list [.none]]
theorem told_ok : ∀ i : Fin 6, (toldD (i.val : Int)).showable = true ∧ (toldD (i.val : Int)).hasDict = false ∧ (toldD (i.val : Int)).depth ≤ 40 ∧ (toldD (i.val : Int)).shown.length ≤ 1000 := by decide +kernel

end
end BJL

namespace BJL
open PySem PySem.Spec PyProof.Rows L2 BJ
section
variable {P : Program} {w : World} {K : PySem.W.Frag} {mg : Str → Option Value} {base : Heap} {a : Adr}
open Evl
def spRight (K : PySem.W.Frag) (a : Adr) : Sp := fun vs H Q _ => ∃ d c cells n j jdx sh v pa q1 q2 is1 is2 xs, vs = [.ref d, .ref j] ∧ Dr H d c cells n ∧ n ≤ 80000 ∧ JJ K a H j jdx sh v pa q1 q2 is1 is2 xs ∧ ∀ H', Dr H' d c cells (n + 20) → SameBut d H H' → Q (.bl true) H'
theorem ok__law_right (T : Txt P K mg a) (hw : a.par = w.params) : CallP P w K mg base 7 (.ref a._law_right) (spRight K a) := by
  have G__law_state : CallP P w K mg base 3 (.ref a._law_state) (spSt K a) := ok__law_state T
  have G__law_next : CallP P w K mg base 2 (.ref a._law_next) spNext := (ok__law_next T).p
  have G__law_edit : CallP P w K mg base 3 (.ref a._law_edit) (spItem K true) := (ok__law_edit T).p
  have G__law_no_edit : CallP P w K mg base 3 (.ref a._law_no_edit) (spItem K false) := (ok__law_no_edit T).p
  have G__law_refusal := ok__law_refusal (P := P) (w := w) (base := base) (mg := mg) T hw
  refine T.d__law_right.ok sc__law_right (fun vs H Q E h => ?_) (fun cdv A outer s H vs Q E hr hG h => ?_)
  · obtain ⟨d, c, cells, n, j, jdx, sh, v, pa, q1, q2, is1, is2, xs, rfl, _⟩ := h
    rfl
  · obtain ⟨d, c, cells, n, j, jdx, sh, v, pa, q1, q2, is1, is2, xs, rfl, dr, hn, jj, hq⟩ := h
    refine ⟨_, (pss_cons (ps_par (i := 2) (j := 3) rfl sc__law_right.nd rfl rfl (by decide) rfl rfl (pa_cons (pe_ca G__law_state (hr.mono (by decide)) hG rfl T.g__law_state T.k__law_state (takes_of rfl rfl rfl rfl) (pa_cons (pv 1) pa_nil)) (pa_cons (pe_ix (ix_list' (K := K) rfl) (pe_lst (pa_cons pe_int (pa_cons pe_int (pa_cons pe_int (pa_cons pe_int pa_nil))))) (pe_ca G__law_next (hr.mono (by decide)) hG rfl T.g__law_next T.k__law_next (takes_of rfl rfl rfl rfl) (pa_cons (pv 0) (pa_cons pe_int pa_nil))) (fun _ _ => rfl)) pa_nil)) (by rfl))
 (pss_cons (ps_par (i := 4) (j := 5) rfl sc__law_right.nd rfl rfl (by decide) rfl rfl (pa_cons (pe_lc (own := [("k", 6)]) (g := (gName 6)) (by rfl) sc__law_right.nd (pi_range1 (by rfl) T.b_range (pa_cons (pv 3) pa_nil)) (blkOk_by (own := [("k", 6)]) (N := ["draw", "jar", "here", "many", "edits", "at", "k", "odd", "told"]) (sc := defScope s__law_right) (by decide +kernel)) (fun _ _ _ _ _ => (pg_name (i := 6) sc__law_right.nd rfl (Or.inl rfl))) (fun _ _ _ _ _ => pts_nil) (fun _ _ _ _ _ => (pe_ca G__law_edit (hr.mono (by decide)) hG rfl T.g__law_edit T.k__law_edit tkN (pa_cons (pv 0) pa_nil)))) (pa_cons (pe_ca G__law_next (hr.mono (by decide)) hG rfl T.g__law_next T.k__law_next (takes_of rfl rfl rfl rfl) (pa_cons (pv 0) (pa_cons (pv 3) pa_nil))) pa_nil)) (by rfl))
 (pss_cons (ps_asg (pe_ca G__law_no_edit (hr.mono (by decide)) hG rfl T.g__law_no_edit T.k__law_no_edit (takes_of rfl rfl rfl rfl) (pa_cons (pv 0) pa_nil)) (pg_sub (pv 4) (pv 5) set_list) (by rfl))
 (pss_cons (ps_if (PW.pt (pw_and (pt_cmpR op_lt (pe_op op_add (pv 5) pe_int) (pv 3) (nomark _)) (pw_and1 (pt_cmpR op_eq (pe_ca G__law_next (hr.mono (by decide)) hG rfl T.g__law_next T.k__law_next (takes_of rfl rfl rfl rfl) (pa_cons (pv 0) (pa_cons pe_int pa_nil))) pe_int (nomark _)))))
 (pss_one (ps_asg (pe_ca G__law_no_edit (hr.mono (by decide)) hG rfl T.g__law_no_edit T.k__law_no_edit (takes_of rfl rfl rfl rfl) (pa_cons (pv 0) pa_nil)) (pg_sub (pv 4) (pe_op op_add (pv 5) pe_int) set_list) (by rfl)))
 pss_nil)
 (pss_cons (ps_set (i := 7) sc__law_right.nd rfl (Or.inl rfl) (pe_ix (ix_list' (K := K) rfl) (pe_lst (pa_cons pe_non (pa_cons (pv 4) (pa_cons pe_str (pa_cons pe_int (pa_cons pe_dnewK (pa_cons pe_bl pa_nil))))))) (pe_ca G__law_next (hr.mono (by decide)) hG rfl T.g__law_next T.k__law_next (takes_of rfl rfl rfl rfl) (pa_cons (pv 0) (pa_cons pe_int pa_nil))) (fun _ _ => rfl)))
 (pss_cons (ps_set (i := 8) sc__law_right.nd rfl (Or.inl rfl) (pe_lst (pa_cons (pe_ca G__law_refusal (hr.mono (by decide)) hG rfl T.g__law_refusal T.k__law_refusal (takes_of rfl rfl rfl rfl) (pa_cons (pv 1) (pa_cons (pe_callTy call_tuple_of (by rfl) T.b_tuple (by decide +kernel) (pa_cons (pv 4) pa_nil)) (pa_cons (pe_cmpR op_eq (pe_ca G__law_next (hr.mono (by decide)) hG rfl T.g__law_next T.k__law_next (takes_of rfl rfl rfl rfl) (pa_cons (pv 0) (pa_cons pe_int pa_nil))) pe_int (nomark _)) pa_nil)))) (pa_cons (pe_ca G__law_refusal (hr.mono (by decide)) hG rfl T.g__law_refusal T.k__law_refusal (takes_of rfl rfl rfl rfl) (pa_cons (pv 1) (pa_cons (pv 7) (pa_cons pe_bl pa_nil)))) pa_nil))))
 (pss_one (ps_ret (pe_and (pe_cmpR op_eq (pe_callB (call_reprQ' (K := K) rfl hr hG) (by rfl) T.b_repr (by decide +kernel) (pa_cons (pv 8) pa_nil)) (pe_callB (call_reprQ' (K := K) rfl hr hG) (by rfl) T.b_repr (by decide +kernel) (pa_cons (pe_lst (pa_cons (pe_lst (pa_cons (pv 5) pa_nil)) (pa_cons (pe_lst (pa_cons pe_non pa_nil)) pa_nil))) pa_nil)) (nomark _)) (pe_one (pe_cmpR op_eq (pe_ca G__law_state (hr.mono (by decide)) hG rfl T.g__law_state T.k__law_state (takes_of rfl rfl rfl rfl) (pa_cons (pv 1) pa_nil)) (pv 2) (nomark _)))))))))))), ?_⟩
    refine ⟨_, rfl, j, jdx, sh, v, pa, q1, q2, is1, is2, xs, rfl, jj, fun H1 e1 => ⟨(by show 4 ≤ sizeLine; decide), fun p np => ⟨_, rfl, d, c, cells, n, 4, rfl, dr.same (e1.trans (Ex.new np)), by omega, by omega, by omega, fun r H2 r0 r1 D2 B2 => ?_⟩⟩⟩
    have eA := e1.trans (Ex.new (o := .lst [.int 1, .int 3, .int 3, .int 6]) np)
    obtain ⟨dv, hd1⟩ := (dr.same eA).atd
    obtain ⟨k, hk, k1, k6⟩ := manyP r0 r1
    refine ⟨p, _, r, _, rfl, rfl, sq_of (B2.sb _ _ (ne_of upd_same hd1 fun z => nomatch z) upd_same), hk, _, _, rfl, ?_⟩
    have jj2 := JJ.sb (jj.ex eA) (dr.same eA) B2.sb
    have sb2 : SameBut d H H2 := (SameBut.of eA).trans B2.sb
    refine ⟨_, rfl, (k : Int), rfl, by omega, by omega, fun l nl => ?_⟩
    have nl0 : H l = none := by
      cases e : H l with
      | none => rfl
      | some o =>
        by_cases z : l = d
        · obtain ⟨dv2, hd2⟩ := D2.atd
          rw [z, hd2] at nl
          cases nl
        · have := sb2 _ _ z e
          rw [nl] at this
          cases this
    have lc : l ≠ c := fun z => by rw [z, D2.list] at nl; cases nl
    have ld : l ≠ d := fun z => by
      obtain ⟨dv2, hd2⟩ := D2.atd
      rw [z, hd2] at nl
      cases nl
    have L0 : LS K a H (upd H2 l (.lst [])) d l c cells (n + 1 + 0) [] [] j jdx sh v pa q1 q2 is1 is2 xs := ⟨drMut D2 ld lc, (jj2.sb D2 (off_sb nl)).ex offH_set, upd_same, .nil, fun p o h1 h2 => by
      rw [upd_ne (fun z => by rw [z, nl0] at h2; cases h2)]
      exact sb2 p o h1 h2, nl0, lc⟩
    refine lc_it (walk_range (lo := 0) (n := (k : Int).toNat)) (fun i H' => ∃ ys ds, LS K a H H' d l c cells (n + 1 + i) ys ds j jdx sh v pa q1 q2 is1 is2 xs ∧ ds.length = i ∧ ∀ x ∈ ds, edB x = true) ⟨_, _, L0, rfl, fun x h => nomatch h⟩ (fun _ _ _ _ => trivial) (fun i x H3 H4 hi h y => ?_) fun H' h => ?_
    · obtain ⟨rfl, rfl⟩ := y
      obtain ⟨ys, ds, ls, hl, he⟩ := h
      have hi6 : i < 6 := by omega
      refine ⟨rfl, ?_⟩
      unfold tYes
      dsimp only
      rw [if_pos rfl]
      refine ⟨_, rfl, d, c, cells, n + 1 + i, rfl, ls.dr, by omega, fun x pd H5 D5 B5 dq ok hE => ?_⟩
      obtain ⟨dv3, hd3⟩ := ls.dr.atd
      have ls5 := ls.draw D5 B5
      have ly := ls.da.len
      refine ⟨ys, ls5.li, by rw [sizeLine_eq]; omega, ys ++ [x], ds ++ [pd], ls5.upd (ls5.da.push (dq.ex (offH_new hd3 ls.li)) ok), by rw [List.length_append, hl]; rfl, fun z hz => ?_⟩
      rcases List.mem_append.mp hz with h | h
      · exact he z h
      · rw [List.mem_singleton.mp h]; exact hE
    · obtain ⟨ys, ds, ls, hl, he⟩ := h
      have hk2 : (k : Int).toNat = k := Int.toNat_natCast k
      rw [hk2] at hl ls
      have ly := ls.da.len
      refine ⟨_, rfl, _, rfl, d, c, cells, n + 1 + k, (k : Int), rfl, ls.dr, by omega, by omega, by omega, fun r2 H5 r20 r21 D5 B5 => ⟨_, _, rfl, ?_⟩⟩
      obtain ⟨at_, rfl⟩ : ∃ m : Nat, r2 = (m : Int) := ⟨r2.toNat, by omega⟩
      have hat : at_ < k := by omega
      have ls5 := ls.draw D5 B5.sb
      obtain ⟨dv5, hd5⟩ := D5.atd
      refine ⟨_, rfl, d, c, cells, n + 1 + k + 1, rfl, D5, by omega, fun x pd H6 D6 B6 dq ok hE => ?_⟩
      have ls6 := ls5.draw D6 B6
      refine ⟨_, rfl, _, rfl, l, ys, (at_ : Int), at_, rfl, rfl, ls6.li, ixN_nat (by omega), ?_⟩
      have ls7 := ls6.upd (DqA.set (dq.ex (offH_new hd5 ls5.li)) ok at_ ls6.da)
      have P7 : Pt (ds.set at_ pd) k at_ := Pt.set1 hl hat he hE
      dsimp only
      refine seq_to (fun H' => ∃ ys ds, LS K a H H' d l c cells (n + k + 5) ys ds j jdx sh v pa q1 q2 is1 is2 xs ∧ Pt ds k at_) (fun H8 h8 => ?_) (fun kont => ?_)
      · obtain ⟨ys, ds, ls8, P8⟩ := h8
        refine ⟨_, rfl, fun po npo => ⟨(by show 6 ≤ sizeLine; decide), fun pl npl => ?_⟩⟩
        have eO := (Ex.new (o := .dK []) npo).trans (Ex.new (o := .lst [.non, .ref l, .str "undo", .int 5, .ref po, .bl true]) npl)
        have ls9 := ls8.ex eO
        refine ⟨_, rfl, d, c, cells, n + k + 5, 6, rfl, ls9.dr, by omega, by omega, by omega, fun r3 H9 r30 r31 D9 B9 => ?_⟩
        obtain ⟨dv8, hd8⟩ := ls8.dr.atd
        obtain ⟨dv9, hd9⟩ := ls9.dr.atd
        have pod : po ≠ d := fun z => by rw [z, hd8] at npo; cases npo
        have pol : po ≠ l := fun z => by rw [z, ls8.li] at npo; cases npo
        have ls10 := ls9.draw D9 B9.sb
        have hpo : H9 po = some (.dK []) := B9.sb _ _ pod ((Ex.new npl) _ _ upd_same)
        obtain ⟨odd, hodd, od⟩ := oddI (H := H9) (d := d) (l := l) (p := po) ((offH_at pod pol).trans hpo) r30 r31
        refine ⟨pl, _, r3, odd, rfl, rfl, sq_of (B9.sb _ _ (ne_of upd_same hd9 fun z => nomatch z) upd_same), hodd, ?_⟩
        refine ⟨_, rfl, _, rfl, l, ys, rfl, .inl ⟨sq_of ls10.li, fun t nt => ?_⟩⟩
        have ls11 := ls10.ex (Ex.new (o := .tup ys) nt)
        refine ⟨_, rfl, d, c, cells, n + k + 6, 2, rfl, ls11.dr, by omega, by omega, by omega, fun r4 H12 r40 r41 D12 B12 => ⟨rfl, ?_⟩⟩
        have ls12 := ls11.draw D12 B12.sb
        obtain ⟨dv10, hd10⟩ := ls10.dr.atd
        have td : t ≠ d := fun z => by rw [z, hd10] at nt; cases nt
        obtain ⟨hk9, hat9, ⟨pd9, hpd, hf⟩, hb⟩ := P8
        refine ⟨j, jdx, sh, v, pa, _, xs, .ref t, _, rfl, (ls12.jj.ex offH_ex).js, .inr ⟨t, ys, ds, at_, pd9, rfl, st_of (B12.sb _ _ td upd_same), ls12.da.ex offH_ex, hpd, hf, hb, fun t1 H13 nt1 e13 ht1 => ?_⟩⟩
        have ls13 := ls12.ex e13
        have od13 : OddP H13 d l odd := ((od.ex (SameBut.of (Ex.new nt))).ex B12.sb).ex (SameBut.of e13)
        obtain ⟨ty, hty, hki⟩ := od13.ty (K := K) ls13.li
        refine ⟨_, rfl, _, rfl, j, jdx, sh, v, pa, _, xs, odd, true, rfl, (ls13.jj.ex offH_ex).js, .inl ⟨rfl, ty, hty, hki, fun t2 H14 nt2 e14 ht2 => ⟨(by show 2 ≤ sizeLine; decide), fun tl ntl => ?_⟩⟩⟩
        obtain ⟨s1, s2, s3, s4⟩ := told_ok ⟨at_, by omega⟩
        have s5 := Nat.le_trans s4 (show 1000 ≤ sizeLine by rw [sizeLine_eq]; omega)
        have dqT : ∀ {H' : Hp} {a1 a2 a3 : Addr}, H' a1 = some (.lst [.int (at_ : Nat)]) → H' a2 = some (.lst [.non]) → H' a3 = some (.lst [.ref a1, .ref a2]) → Dq K H' (.ref a3) (toldD (at_ : Nat)) := fun h1 h2 h3 => .dp (.lst (sq_of h3) (.cons (.lst (sq_of h1) (.cons (.int _) .nil)) (.cons (.lst (sq_of h2) (.cons .non .nil)) .nil)))
        have eL := Ex.new (o := .lst [.ref t1, .ref t2]) ntl
        refine ⟨_, rfl, .ref tl, toldD (at_ : Nat), rfl, dqT (eL _ _ (e14 _ _ ht1)) (eL _ _ ht2) upd_same, s1, .inr s2, s3, s5, ?_⟩
        refine ⟨_, rfl, (by show 1 ≤ sizeLine; decide), fun a1 n1 => ⟨(by show 1 ≤ sizeLine; decide), fun a2 n2 => ⟨(by show 2 ≤ sizeLine; decide), fun a3 n3 => ?_⟩⟩⟩
        refine ⟨.ref a3, toldD (at_ : Nat), rfl, dqT ((Ex.new n3) _ _ ((Ex.new n2) _ _ upd_same)) ((Ex.new n3) _ _ upd_same) upd_same, s1, .inr s2, s3, s5, rfl, _, rfl, ?_⟩
        rw [decide_eq_true rfl]
        refine iteT ?_
        have ls15 := ((((ls13.ex e14).ex eL).ex (Ex.new n1)).ex (Ex.new n2)).ex (Ex.new (o := .lst [.ref a1, .ref a2]) n3)
        refine ⟨_, rfl, j, jdx, sh, v, pa, q1, q2, is1, is2, xs, rfl, ls15.jj.ex offH_ex, fun H16 e16 => ⟨_, rfl, rfl, ?_⟩⟩
        have ls16 := ls15.ex e16
        rw [decide_eq_true rfl]
        exact hq H16 (ls16.dr.mono (by omega)) ls16.sb
      · have ly7 : (ys.set at_ x).length = k := by rw [List.length_set]; omega
        refine ⟨_, rfl, _, _, rfl, rfl, _, rfl, _, _, rfl, rfl, _, rfl, ?_⟩
        have monoL : ∀ {m : Nat} {H9 : Hp} {ys9 : List V} {ds9 : List PyData}, LS K a H H9 d l c cells m ys9 ds9 j jdx sh v pa q1 q2 is1 is2 xs → m ≤ n + k + 5 → LS K a H H9 d l c cells (n + k + 5) ys9 ds9 j jdx sh v pa q1 q2 is1 is2 xs := fun h hm => ⟨h.dr.mono hm, h.jj, h.li, h.da, h.sb, h.nl, h.lc⟩
        by_cases hlt : (at_ : Int) + 1 < (k : Int)
        · rw [decide_eq_true hlt]
          refine iteT ?_
          refine ⟨_, rfl, d, c, cells, n + 1 + k + 1 + 1, 2, rfl, ls7.dr, by omega, by omega, by omega, fun r3 H9 r30 r31 D9 B9 => ⟨rfl, _, rfl, ?_⟩⟩
          have ls9 := ls7.draw D9 B9.sb
          by_cases hz : V.int r3 = V.int 0
          · rw [decide_eq_true hz]
            refine iteT ?_
            obtain ⟨dv9, hd9⟩ := D9.atd
            refine ⟨_, rfl, d, c, cells, n + 1 + k + 1 + 1 + 1, rfl, D9, by omega, fun x2 pd2 H10 D10 B10 dq2 ok2 hE2 => ?_⟩
            have ls10 := ls9.draw D10 B10
            refine ⟨_, rfl, _, rfl, _, _, rfl, rfl, l, _, ((at_ + 1 : Nat) : Int), at_ + 1, rfl, rfl, ls10.li, ixN_nat (by omega), ?_⟩
            exact kont _ ⟨_, _, monoL (ls10.upd (DqA.set (dq2.ex (offH_new hd9 ls9.li)) ok2 (at_ + 1) ls10.da)) (by omega), P7.set2⟩
          · rw [decide_eq_false hz]
            exact iteF (kont _ ⟨_, _, monoL ls9 (by omega), P7⟩)
        · rw [decide_eq_false hlt]
          exact iteF (iteF (kont _ ⟨_, _, monoL ls7 (by omega), P7⟩))

end
end BJL

namespace BJL
open PySem PySem.Spec PyProof.Rows L2 BJ
section
variable {P : Program} {w : World} {K : PySem.W.Frag} {mg : Str → Option Value} {base : Heap} {a : Adr}
open Evl
def sp_law (K : PySem.W.Frag) : Sp := fun vs H Q _ => ∃ (a : Addr) (ns : List Int), vs = [.ref a] ∧ Scr K H a (ns.map V.int) ∧ ns.length ≤ 63 ∧ ∀ H', Q (.bl true) H'
theorem drBut {H H' : Hp} {d c p pa C dx : Addr} {cells : List Int} {n : Nat} {fs : List (Str × V)} {ys : List V} (D : Dr H d c cells n) (b : ButL [p, pa] H H') (hp : H p = some (.ins C dx fs)) (hpa : H pa = some (.lst ys)) (hc : c ≠ pa) : Dr H' d c cells n := by
  obtain ⟨⟨a0, l0, u0, hd, h3⟩, hl, hn, hz⟩ := D
  have no : ∀ {q : Addr}, q ≠ p → q ≠ pa → q ∉ [p, pa] := fun h1 h2 hm => by
    simp only [List.mem_cons, List.not_mem_nil, or_false] at hm
    exact hm.elim h1 h2
  exact ⟨⟨a0, l0, u0, b _ _ (no (ne_of hd hp fun z => nomatch z) (ne_of hd hpa fun z => nomatch z)) hd, h3⟩, b _ _ (no (ne_of hl hp fun z => nomatch z) hc) hl, hn, hz⟩
theorem ok_law (T : Txt P K mg a) (hw : a.par = w.params) : CallP P w K mg base 12 (.ref a.law) (sp_law K) := by
  have G__law_begin : CallP P w K mg base 1 (.ref a._law_begin) (spBegin K) := (ok__law_begin T).p
  have G__law_next : CallP P w K mg base 2 (.ref a._law_next) spNext := (ok__law_next T).p
  have G__law_state : CallP P w K mg base 3 (.ref a._law_state) (spSt K a) := ok__law_state T
  have G__law_right := ok__law_right (P := P) (w := w) (base := base) (mg := mg) T hw
  have G_batched_all : CallP P w K mg base 3 (.ref a.batched_all) (spBa K a) := (ok_batched_all T hw).p
  have G_batched := ok_batched (P := P) (w := w) (base := base) (mg := mg) T hw
  have GK_Jar_version := ok_Jar (P := P) (w := w) (base := base) (mg := mg) T
  refine T.d_law.ok sc_law (fun vs H Q E h => ?_) (fun cdv A outer s H vs Q E hr hG h => ?_)
  · obtain ⟨x, ns, rfl, _⟩ := h
    rfl
  · obtain ⟨sc, ns, rfl, hS, hl, hq⟩ := h
    refine ⟨_, (pss_cons (ps_set (i := 1) sc_law.nd rfl (Or.inl rfl) (pe_ca G__law_begin (hr.mono (by decide)) hG rfl T.g__law_begin T.k__law_begin (takes_of rfl rfl rfl rfl) (pa_cons (pv 0) pa_nil)))
 (pss_cons (ps_for (passes_of rfl) rfl (pi_range1 (by rfl) T.b_range (pa_cons (pe_callB (call_min2 rfl) (by rfl) T.b_min (by decide +kernel) (pa_cons pe_int (pa_cons (pe_op op_add pe_int (pe_callB call_len_seq (by rfl) T.b_len (by decide +kernel) (pa_cons (pv 0) pa_nil))) pa_nil))) pa_nil)) (pg_name (i := 2) sc_law.nd rfl (Or.inl rfl))
 (pss_cons (ps_set (i := 3) sc_law.nd rfl (Or.inl rfl) (pe_cx0 GK_Jar_version (hr.mono (by decide)) rfl T.g_Jar T.k_Jar (takes_of rfl rfl rfl rfl) (pk_cons (pe_op op_add pe_int (pe_ca G__law_next (hr.mono (by decide)) hG rfl T.g__law_next T.k__law_next (takes_of rfl rfl rfl rfl) (pa_cons (pv 1) (pa_cons pe_int pa_nil)))) pk_nil)))
 (pss_cons (ps_expr (pe_me (pv 3) (takes_of rfl rfl rfl rfl) (pa_cons pe_str (pa_cons pe_str pa_nil)) pk_nil))
 (pss_cons (ps_expr (pe_me (pv 3) (takes_of rfl rfl rfl rfl) (pa_cons pe_str (pa_cons pe_int pa_nil)) pk_nil))
 (pss_cons (ps_for (passes_of rfl) rfl (pi_range1 (by rfl) T.b_range (pa_cons pe_int pa_nil)) (pg_name (i := 4) sc_law.nd rfl (Or.inl rfl))
 (pss_one (ps_if (pt_not (pt_val (pe_ca G__law_right (hr.mono (by decide)) hG rfl T.g__law_right T.k__law_right (takes_of rfl rfl rfl rfl) (pa_cons (pv 1) (pa_cons (pv 3) pa_nil)))))
 (pss_one (ps_ret pe_bl))
 pss_nil)))
 (pss_cons (ps_set (i := 5) sc_law.nd rfl (Or.inl rfl) (pe_ca G__law_state (hr.mono (by decide)) hG rfl T.g__law_state T.k__law_state (takes_of rfl rfl rfl rfl) (pa_cons (pv 3) pa_nil)))
 (pss_one (ps_if (PW.pt (pw_or (pt_cmp (pc_notN (pe_cx G_batched (hr.mono (by decide)) rfl T.g_batched T.k_batched (takes_of rfl rfl rfl rfl) (pa_cons (pv 3) pa_nil) pk_nil))) (pw_or (pt_cmp (pc_notN (pe_ca G_batched_all (hr.mono (by decide)) hG rfl T.g_batched_all T.k_batched_all (takes_of rfl rfl rfl rfl) (pa_cons (pv 3) (pa_cons (pe_tup pa_nil) pa_nil))))) (pw_or1 (pt_cmpR op_ne (pe_ca G__law_state (hr.mono (by decide)) hG rfl T.g__law_state T.k__law_state (takes_of rfl rfl rfl rfl) (pa_cons (pv 3) pa_nil)) (pv 5) (nomark _))))))
 (pss_one (ps_ret pe_bl))
 pss_nil))))))))
 (pss_one (ps_ret pe_bl)))), ?_⟩
    refine ⟨_, rfl, sc, ns, rfl, hS, hl, fun d c H1 x1 nd nc D1 => ?_⟩
    have hS1 : SqL K H1 sc (ns.map V.int) := ex_l x1 hS.sq
    obtain ⟨N, hN, h0, h8⟩ : ∃ N : Int, N = (if 3 + (((ns.map V.int).length : Nat) : Int) < 8 then 3 + (((ns.map V.int).length : Nat) : Int) else 8) ∧ 0 ≤ N ∧ N ≤ 8 := ⟨_, rfl, by split <;> omega, by split <;> omega⟩
    refine ⟨_, rfl, sc, ns.map V.int, rfl, .inl hS1, _, _, rfl, rfl, _, _, rfl, N, by rw [hN], by omega, by omega, for_range (lo := 0) (n := N.toNat) (fun i σ H' => (∃ o2 o3 o4 o5, σ = [some (.ref sc), some (.ref d), o2, o3, o4, o5]) ∧ Dr H' d c (ns ++ [0]) (200 * i)) ⟨⟨_, _, _, _, rfl⟩, D1⟩ (fun i σ H2 hi h => ?_) fun σ H' _ => hq H'⟩
    obtain ⟨⟨o2, o3, o4, o5, rfl⟩, D2⟩ := h
    have hi8 : i < 8 := by omega
    refine ⟨_, rfl, d, c, _, 200 * i, 4, rfl, D2, by omega, by omega, by omega, fun r H3 r0 r1 D3 B3 => ⟨_, _, rfl, rfl, 1 + r, rfl, rfl, ⟨by omega, by omega⟩, fun p dx sh pa H4 np nsh npa e4 js4 => ?_⟩⟩
    have D4 := D3.same e4
    refine ⟨_, rfl, p, a.Jar, dx, a.Jar_put, _, 10, _, rfl, js4.at_, rfl, T.c_Jar, T.p_Jar_put, (ok_Jar_put T hw).x, hr.mono (by decide), rfl, p, dx, sh, 1 + r, pa, [], [], "a", .str "salt", rfl, .inl rfl, .inl rfl, ⟨by omega, by omega⟩, js4, by decide, by decide, rfl, fun sh5 q1 is1 t1 H5 js5 s5 o5 nsh5 b5 => ?_⟩
    have cpa : c ≠ pa := fun z => by rw [← z, D3.list] at npa; cases npa
    have D5 := drBut D4 b5 js4.at_ js4.pv cpa
    refine ⟨_, rfl, p, a.Jar, dx, a.Jar_put, _, 10, _, rfl, js5.at_, rfl, T.c_Jar, T.p_Jar_put, (ok_Jar_put T hw).x, hr.mono (by decide), rfl, p, dx, sh5, 1 + r, pa, _, _, "c", .int 5, rfl, .inr rfl, .inr rfl, ⟨by omega, by omega⟩, js5, by show 1 ≤ 10; decide, by show 1 ≤ 5; decide, rfl, fun sh6 q2 is2 t2 H6 js6 s6 o6 nsh6 b6 => ?_⟩
    have D6 := drBut D5 b6 js5.at_ js5.pv cpa
    have jj6 : JJ K a H6 p dx sh6 (1 + r) pa q1 q2 is1 is2 (([] ++ [.ref t1]) ++ [.ref t2]) := ⟨js6, sqT_but b6 js5.at_ js5.pv s5, s6, o5, o6, by show 2 ≤ 10; decide, ⟨by omega, by omega⟩⟩
    refine ⟨5, rfl, by omega, by omega, for_range (lo := 0) (n := (5 : Int).toNat) (fun k σ H' => (∃ o2 o4 o5, σ = [some (.ref sc), some (.ref d), o2, some (.ref p), o4, o5]) ∧ Dr H' d c (ns ++ [0]) (200 * i + 1 + 20 * k) ∧ JJ K a H' p dx sh6 (1 + r) pa q1 q2 is1 is2 (([] ++ [.ref t1]) ++ [.ref t2])) ⟨⟨_, _, _, rfl⟩, D6, jj6⟩ (fun k σ H7 hk h => ?_) fun σ H7 h => ?_⟩
    · obtain ⟨⟨o2, o4, o5, rfl⟩, D7, jj7⟩ := h
      have hk5 : k < 5 := by simpa using hk
      refine ⟨_, rfl, _, rfl, d, c, _, 200 * i + 1 + 20 * k, p, dx, sh6, 1 + r, pa, q1, q2, is1, is2, _, rfl, D7, by omega, jj7, fun H8 D8 sb8 => ⟨true, rfl, iteF ?_⟩⟩
      exact ⟨⟨_, _, _, rfl⟩, D8.mono (by omega), jj7.sb D7 sb8⟩
    · obtain ⟨⟨o2, o4, o5, rfl⟩, D7, jj7⟩ := h
      have D7 : Dr H7 d c (ns ++ [0]) (200 * i + 1 + 20 * 5) := D7
      refine ⟨_, rfl, p, dx, sh6, 1 + r, pa, q1, q2, is1, is2, _, rfl, jj7, fun H8 e8 => ?_⟩
      have jj8 := jj7.ex e8
      refine ⟨_, rfl, rfl, p, dx, sh6, 1 + r, pa, _, _, [], rfl, Nat.zero_le _, jj8.js, .inr ⟨rfl, fun H9 e9 => ⟨_, rfl, iteF ?_⟩⟩⟩
      have jj9 := jj8.ex e9
      refine ⟨_, rfl, Nat.zero_le _, fun l nl => ⟨p, dx, sh6, 1 + r, pa, _, _, .ref l, rfl, (jj9.ex (Ex.new nl)).js, .inr (.inr ⟨l, rfl, st_of upd_same, fun H10 e10 => ⟨_, rfl, iteF ?_⟩⟩)⟩⟩
      have jj10 := (jj9.ex (Ex.new nl)).ex e10
      refine ⟨_, rfl, p, dx, sh6, 1 + r, pa, q1, q2, is1, is2, _, rfl, jj10, fun H11 e11 => ⟨_, rfl, rfl, _, rfl, ?_⟩⟩
      rw [decide_eq_true rfl]
      refine iteF ?_
      exact ⟨⟨_, _, _, _, rfl⟩, (D7.same ((((e8.trans e9).trans (Ex.new nl)).trans e10).trans e11)).mono (by omega)⟩
theorem law_start {K : Params → PySem.W.Frag} (w : World) (H : Hp) (a : Addr) (ns : List Int) (hl : ns.length ≤ 63) (_hb : ∀ z ∈ ns, Builtin.Int.intBits z ≤ 1048576) (h : Scr (K w.params) H a (ns.map V.int)) :
  sp_law (K w.params) [.ref a] H (fun v _ => v = .bl true) fun _ _ _ => False := ⟨a, ns, rfl, h, hl, fun _ => rfl⟩
theorem law_use {P : Program} {w : World} {K : PySem.W.Frag} {mg : Str → Option Value} {base : Heap} {a : Adr} {fa : Addr} (T : Txt P K mg a) (hp : a.par = w.params) (h : mg "law" = some (.ref fa)) : CallP P w K mg base 30 (.ref fa) (sp_law K) := by
  have q := T.g_law.symm.trans h
  cases q
  exact (ok_law T hp).mono (by decide)

end
end BJL
namespace BJL
open PySem PySem.Spec PyProof.Rows L2 BJ
theorem all_mk {P : Program} {K : PySem.W.Frag} {h : Heap} {mg : Str → Option Value} {Ais_edit ABatch___init__ ABatch___enter__ ABatch___exit__ Abatched_all Abatched Ais_integer Ais_whole_atom Ais_text Ais_key Ais_atom Aholds_value Arules_of Aatom_form ANodeView___init__ ANodeView_shape_of ANodeView_label ANodeView_plain ADrafting___init__ ADrafting_add ADrafting_put ADrafting_enter_value ADrafting_write ADrafting_write_atom ADrafting_write_text Ainteger_name Atext_name Afull_rows Aleast_rows Anamed_rows Atext_octets Aline_octets Awide_octets Arow_of Aargument_form Ais_version Acheck_version Aargument_octets Aencoded Aframed Alaid_out Asealed Adump Ais_jar_name Acheck_name AJar___init__ AJar_names AJar_version AJar_total AJar_changes AJar_change_to AJar_put AJar_stream_of A_law_begin A_law_mixed A_law_next A_law_refusal A_law_state A_law_no_edit A_law_edit A_law_right Alaw AJarError AInvalidEdit AStateError AMissingError ABatch ANode ANodeView ADrafting AJar AInvalidEdit_i AInvalidEdit_c AInvalidEdit_d AJar_names_p AJar_version_p AJar_total_p AJar_changes_p AWORDS ANUMBERS AROWS AOCTET_ROWS ALINE_TEXTS : Addr} {par : Params} (X : K.In h) (G : h.Ns mainGlobals mg)
  {rest_Jar_names : List Value}
  {rest_Jar_version : List Value}
  {rest_Jar_total : List Value}
  {rest_Jar_changes : List Value}
  {t_MOST_INTEGER : Tok}
  {t_MOST_CHARACTERS : Tok}
  {t_MOST_OPEN : Tok}
  {t_LEAST_SHARED : Tok}
  {t_NEWLINE : Tok}
  {t_FIRST : Tok}
  {t_MOST_OCTETS : Tok}
  {t_LEAST_FRAME : Tok}
  {t_MOST_NAMES : Tok}
  {od_is_edit an_is_edit : Option Addr} {sl_is_edit : Array (Option Value)} {oc_is_edit kV_is_edit dc_is_edit pm_is_edit cd_is_edit ct_is_edit : Value}
  {od_Batch___init__ an_Batch___init__ : Option Addr} {sl_Batch___init__ : Array (Option Value)} {oc_Batch___init__ kV_Batch___init__ dc_Batch___init__ pm_Batch___init__ cd_Batch___init__ ct_Batch___init__ : Value}
  {od_Batch___enter__ an_Batch___enter__ : Option Addr} {sl_Batch___enter__ : Array (Option Value)} {oc_Batch___enter__ kV_Batch___enter__ dc_Batch___enter__ pm_Batch___enter__ cd_Batch___enter__ ct_Batch___enter__ : Value}
  {od_Batch___exit__ an_Batch___exit__ : Option Addr} {sl_Batch___exit__ : Array (Option Value)} {oc_Batch___exit__ kV_Batch___exit__ dc_Batch___exit__ pm_Batch___exit__ cd_Batch___exit__ ct_Batch___exit__ : Value}
  {od_batched_all an_batched_all : Option Addr} {sl_batched_all : Array (Option Value)} {oc_batched_all kV_batched_all dc_batched_all pm_batched_all cd_batched_all ct_batched_all : Value}
  {od_batched an_batched : Option Addr} {sl_batched : Array (Option Value)} {oc_batched kV_batched dc_batched pm_batched cd_batched ct_batched : Value}
  {od_is_integer an_is_integer : Option Addr} {sl_is_integer : Array (Option Value)} {oc_is_integer kV_is_integer dc_is_integer pm_is_integer cd_is_integer ct_is_integer : Value}
  {od_is_whole_atom an_is_whole_atom : Option Addr} {sl_is_whole_atom : Array (Option Value)} {oc_is_whole_atom kV_is_whole_atom dc_is_whole_atom pm_is_whole_atom cd_is_whole_atom ct_is_whole_atom : Value}
  {od_is_text an_is_text : Option Addr} {sl_is_text : Array (Option Value)} {oc_is_text kV_is_text dc_is_text pm_is_text cd_is_text ct_is_text : Value}
  {od_is_key an_is_key : Option Addr} {sl_is_key : Array (Option Value)} {oc_is_key kV_is_key dc_is_key pm_is_key cd_is_key ct_is_key : Value}
  {od_is_atom an_is_atom : Option Addr} {sl_is_atom : Array (Option Value)} {oc_is_atom kV_is_atom dc_is_atom pm_is_atom cd_is_atom ct_is_atom : Value}
  {od_holds_value an_holds_value : Option Addr} {sl_holds_value : Array (Option Value)} {oc_holds_value kV_holds_value dc_holds_value pm_holds_value cd_holds_value ct_holds_value : Value}
  {od_rules_of an_rules_of : Option Addr} {sl_rules_of : Array (Option Value)} {oc_rules_of kV_rules_of dc_rules_of pm_rules_of cd_rules_of ct_rules_of : Value}
  {od_atom_form an_atom_form : Option Addr} {sl_atom_form : Array (Option Value)} {oc_atom_form kV_atom_form dc_atom_form pm_atom_form cd_atom_form ct_atom_form : Value}
  {od_NodeView___init__ an_NodeView___init__ : Option Addr} {sl_NodeView___init__ : Array (Option Value)} {oc_NodeView___init__ kV_NodeView___init__ dc_NodeView___init__ pm_NodeView___init__ cd_NodeView___init__ ct_NodeView___init__ : Value}
  {od_NodeView_shape_of an_NodeView_shape_of : Option Addr} {sl_NodeView_shape_of : Array (Option Value)} {oc_NodeView_shape_of kV_NodeView_shape_of dc_NodeView_shape_of pm_NodeView_shape_of cd_NodeView_shape_of ct_NodeView_shape_of : Value}
  {od_NodeView_label an_NodeView_label : Option Addr} {sl_NodeView_label : Array (Option Value)} {oc_NodeView_label kV_NodeView_label dc_NodeView_label pm_NodeView_label cd_NodeView_label ct_NodeView_label : Value}
  {od_NodeView_plain an_NodeView_plain : Option Addr} {sl_NodeView_plain : Array (Option Value)} {oc_NodeView_plain kV_NodeView_plain dc_NodeView_plain pm_NodeView_plain cd_NodeView_plain ct_NodeView_plain : Value}
  {od_Drafting___init__ an_Drafting___init__ : Option Addr} {sl_Drafting___init__ : Array (Option Value)} {oc_Drafting___init__ kV_Drafting___init__ dc_Drafting___init__ pm_Drafting___init__ cd_Drafting___init__ ct_Drafting___init__ : Value}
  {od_Drafting_add an_Drafting_add : Option Addr} {sl_Drafting_add : Array (Option Value)} {oc_Drafting_add kV_Drafting_add dc_Drafting_add pm_Drafting_add cd_Drafting_add ct_Drafting_add : Value}
  {T_Drafting_add : Addr} {clT_Drafting_add : Value} {diT_Drafting_add : Option Addr} {nT_Drafting_add : Nat} {slT_Drafting_add : Array (Option Value)}
  {od_Drafting_put an_Drafting_put : Option Addr} {sl_Drafting_put : Array (Option Value)} {oc_Drafting_put kV_Drafting_put dc_Drafting_put pm_Drafting_put cd_Drafting_put ct_Drafting_put : Value}
  {od_Drafting_enter_value an_Drafting_enter_value : Option Addr} {sl_Drafting_enter_value : Array (Option Value)} {oc_Drafting_enter_value kV_Drafting_enter_value dc_Drafting_enter_value pm_Drafting_enter_value cd_Drafting_enter_value ct_Drafting_enter_value : Value}
  {od_Drafting_write an_Drafting_write : Option Addr} {sl_Drafting_write : Array (Option Value)} {oc_Drafting_write kV_Drafting_write dc_Drafting_write pm_Drafting_write cd_Drafting_write ct_Drafting_write : Value}
  {od_Drafting_write_atom an_Drafting_write_atom : Option Addr} {sl_Drafting_write_atom : Array (Option Value)} {oc_Drafting_write_atom kV_Drafting_write_atom dc_Drafting_write_atom pm_Drafting_write_atom cd_Drafting_write_atom ct_Drafting_write_atom : Value}
  {od_Drafting_write_text an_Drafting_write_text : Option Addr} {sl_Drafting_write_text : Array (Option Value)} {oc_Drafting_write_text kV_Drafting_write_text dc_Drafting_write_text pm_Drafting_write_text cd_Drafting_write_text ct_Drafting_write_text : Value}
  {od_integer_name an_integer_name : Option Addr} {sl_integer_name : Array (Option Value)} {oc_integer_name kV_integer_name dc_integer_name pm_integer_name cd_integer_name ct_integer_name : Value}
  {od_text_name an_text_name : Option Addr} {sl_text_name : Array (Option Value)} {oc_text_name kV_text_name dc_text_name pm_text_name cd_text_name ct_text_name : Value}
  {od_full_rows an_full_rows : Option Addr} {sl_full_rows : Array (Option Value)} {oc_full_rows kV_full_rows dc_full_rows pm_full_rows cd_full_rows ct_full_rows : Value}
  {T_full_rows : Addr} {clT_full_rows : Value} {diT_full_rows : Option Addr} {nT_full_rows : Nat} {slT_full_rows : Array (Option Value)}
  {od_least_rows an_least_rows : Option Addr} {sl_least_rows : Array (Option Value)} {oc_least_rows kV_least_rows dc_least_rows pm_least_rows cd_least_rows ct_least_rows : Value}
  {od_named_rows an_named_rows : Option Addr} {sl_named_rows : Array (Option Value)} {oc_named_rows kV_named_rows dc_named_rows pm_named_rows cd_named_rows ct_named_rows : Value}
  {od_text_octets an_text_octets : Option Addr} {sl_text_octets : Array (Option Value)} {oc_text_octets kV_text_octets dc_text_octets pm_text_octets cd_text_octets ct_text_octets : Value}
  {od_line_octets an_line_octets : Option Addr} {sl_line_octets : Array (Option Value)} {oc_line_octets kV_line_octets dc_line_octets pm_line_octets cd_line_octets ct_line_octets : Value}
  {od_wide_octets an_wide_octets : Option Addr} {sl_wide_octets : Array (Option Value)} {oc_wide_octets kV_wide_octets dc_wide_octets pm_wide_octets cd_wide_octets ct_wide_octets : Value}
  {od_row_of an_row_of : Option Addr} {sl_row_of : Array (Option Value)} {oc_row_of kV_row_of dc_row_of pm_row_of cd_row_of ct_row_of : Value}
  {od_argument_form an_argument_form : Option Addr} {sl_argument_form : Array (Option Value)} {oc_argument_form kV_argument_form dc_argument_form pm_argument_form cd_argument_form ct_argument_form : Value}
  {od_is_version an_is_version : Option Addr} {sl_is_version : Array (Option Value)} {oc_is_version kV_is_version dc_is_version pm_is_version cd_is_version ct_is_version : Value}
  {od_check_version an_check_version : Option Addr} {sl_check_version : Array (Option Value)} {oc_check_version kV_check_version dc_check_version pm_check_version cd_check_version ct_check_version : Value}
  {od_argument_octets an_argument_octets : Option Addr} {sl_argument_octets : Array (Option Value)} {oc_argument_octets kV_argument_octets dc_argument_octets pm_argument_octets cd_argument_octets ct_argument_octets : Value}
  {od_encoded an_encoded : Option Addr} {sl_encoded : Array (Option Value)} {oc_encoded kV_encoded dc_encoded pm_encoded cd_encoded ct_encoded : Value}
  {od_framed an_framed : Option Addr} {sl_framed : Array (Option Value)} {oc_framed kV_framed dc_framed pm_framed cd_framed ct_framed : Value}
  {od_laid_out an_laid_out : Option Addr} {sl_laid_out : Array (Option Value)} {oc_laid_out kV_laid_out dc_laid_out pm_laid_out cd_laid_out ct_laid_out : Value}
  {od_sealed an_sealed : Option Addr} {sl_sealed : Array (Option Value)} {oc_sealed kV_sealed dc_sealed pm_sealed cd_sealed ct_sealed : Value}
  {od_dump an_dump : Option Addr} {sl_dump : Array (Option Value)} {oc_dump dc_dump pm_dump cd_dump ct_dump : Value}
  {Dk_dump : Addr} {tk_dump_version : Tok}
  {T_dump : Addr} {clT_dump : Value} {diT_dump : Option Addr} {nT_dump : Nat} {slT_dump : Array (Option Value)}
  {od_is_jar_name an_is_jar_name : Option Addr} {sl_is_jar_name : Array (Option Value)} {oc_is_jar_name kV_is_jar_name dc_is_jar_name pm_is_jar_name cd_is_jar_name ct_is_jar_name : Value}
  {od_check_name an_check_name : Option Addr} {sl_check_name : Array (Option Value)} {oc_check_name kV_check_name dc_check_name pm_check_name cd_check_name ct_check_name : Value}
  {od_Jar___init__ an_Jar___init__ : Option Addr} {sl_Jar___init__ : Array (Option Value)} {oc_Jar___init__ dc_Jar___init__ pm_Jar___init__ cd_Jar___init__ ct_Jar___init__ : Value}
  {Dk_Jar___init__ : Addr} {tk_Jar___init___version : Tok}
  {T_Jar___init__ : Addr} {clT_Jar___init__ : Value} {diT_Jar___init__ : Option Addr} {nT_Jar___init__ : Nat} {slT_Jar___init__ : Array (Option Value)}
  {od_Jar_names an_Jar_names : Option Addr} {sl_Jar_names : Array (Option Value)} {oc_Jar_names kV_Jar_names dc_Jar_names pm_Jar_names cd_Jar_names ct_Jar_names : Value}
  {od_Jar_version an_Jar_version : Option Addr} {sl_Jar_version : Array (Option Value)} {oc_Jar_version kV_Jar_version dc_Jar_version pm_Jar_version cd_Jar_version ct_Jar_version : Value}
  {od_Jar_total an_Jar_total : Option Addr} {sl_Jar_total : Array (Option Value)} {oc_Jar_total kV_Jar_total dc_Jar_total pm_Jar_total cd_Jar_total ct_Jar_total : Value}
  {od_Jar_changes an_Jar_changes : Option Addr} {sl_Jar_changes : Array (Option Value)} {oc_Jar_changes kV_Jar_changes dc_Jar_changes pm_Jar_changes cd_Jar_changes ct_Jar_changes : Value}
  {od_Jar_change_to an_Jar_change_to : Option Addr} {sl_Jar_change_to : Array (Option Value)} {oc_Jar_change_to kV_Jar_change_to dc_Jar_change_to pm_Jar_change_to cd_Jar_change_to ct_Jar_change_to : Value}
  {od_Jar_put an_Jar_put : Option Addr} {sl_Jar_put : Array (Option Value)} {oc_Jar_put kV_Jar_put dc_Jar_put pm_Jar_put cd_Jar_put ct_Jar_put : Value}
  {od_Jar_stream_of an_Jar_stream_of : Option Addr} {sl_Jar_stream_of : Array (Option Value)} {oc_Jar_stream_of kV_Jar_stream_of dc_Jar_stream_of pm_Jar_stream_of cd_Jar_stream_of ct_Jar_stream_of : Value}
  {od__law_begin an__law_begin : Option Addr} {sl__law_begin : Array (Option Value)} {oc__law_begin kV__law_begin dc__law_begin pm__law_begin cd__law_begin ct__law_begin : Value}
  {od__law_mixed an__law_mixed : Option Addr} {sl__law_mixed : Array (Option Value)} {oc__law_mixed kV__law_mixed dc__law_mixed pm__law_mixed cd__law_mixed ct__law_mixed : Value}
  {od__law_next an__law_next : Option Addr} {sl__law_next : Array (Option Value)} {oc__law_next kV__law_next dc__law_next pm__law_next cd__law_next ct__law_next : Value}
  {od__law_refusal an__law_refusal : Option Addr} {sl__law_refusal : Array (Option Value)} {oc__law_refusal kV__law_refusal dc__law_refusal pm__law_refusal cd__law_refusal ct__law_refusal : Value}
  {od__law_state an__law_state : Option Addr} {sl__law_state : Array (Option Value)} {oc__law_state kV__law_state dc__law_state pm__law_state cd__law_state ct__law_state : Value}
  {od__law_no_edit an__law_no_edit : Option Addr} {sl__law_no_edit : Array (Option Value)} {oc__law_no_edit kV__law_no_edit dc__law_no_edit pm__law_no_edit cd__law_no_edit ct__law_no_edit : Value}
  {od__law_edit an__law_edit : Option Addr} {sl__law_edit : Array (Option Value)} {oc__law_edit kV__law_edit dc__law_edit pm__law_edit cd__law_edit ct__law_edit : Value}
  {od__law_right an__law_right : Option Addr} {sl__law_right : Array (Option Value)} {oc__law_right kV__law_right dc__law_right pm__law_right cd__law_right ct__law_right : Value}
  {od_law an_law : Option Addr} {sl_law : Array (Option Value)} {oc_law kV_law dc_law pm_law cd_law ct_law : Value}
  {od_InvalidEdit an_InvalidEdit : Option Addr} {sl_InvalidEdit : Array (Option Value)} {oc_InvalidEdit kV_InvalidEdit dc_InvalidEdit pm_InvalidEdit ct_InvalidEdit : Value} {cl_InvalidEdit ccl_InvalidEdit : Value} {cld_InvalidEdit cdd_InvalidEdit : Option Addr} {csl_InvalidEdit ccs_InvalidEdit : Array (Option Value)} {vs_InvalidEdit : Array Value}
  {tf_InvalidEdit : Tok}
  (za_Batch : PySem.W.nsIn K mainGlobals "Batch" = some (some (.ref ABatch)))
  (zc1_Batch : PySem.W.plainGet K ABatch Str.empty = true)
  (zc2_Batch : PySem.W.hasDictIn K ABatch = true)
  (zc3_Batch : PySem.W.plainOver K ABatch = true)
  (zc4_Batch : PySem.W.findIn K (.ref ABatch) "__setattr__" = some (some (.builtin "object.__setattr__")))
  (zk_Batch : PySem.W.keepIn K (.ref ABatch) = true)
  (ze1_Batch : PySem.W.mroIn K ABatch (.type "object") = some true)
  (ze2_Batch : PySem.W.findIn K (.ref ABatch) "__eq__" = some (some (.builtin "object.__eq__")))
  (zt_Batch : PySem.W.typeIn K (.ref ABatch) = some (.type "type"))
  (zm1_Batch : PySem.W.makesIn K ABatch = true)
  (zm2_Batch : PySem.W.findIn K (.ref ABatch) "__init__" = some (some (.ref ABatch___init__)))
  (zm3_Batch : PySem.W.isFn K (.ref ABatch___init__) = true)
  (zp1_Batch___enter__ : PySem.W.findIn K (.ref ABatch) "__enter__" = some (some (.ref ABatch___enter__)))
  (zp2_Batch___enter__ : PySem.W.isFn K (.ref ABatch___enter__) = true)
  (zp3_Batch___enter__ : PySem.W.keepIn K (.ref ABatch___enter__) = true)
  (zp1_Batch___exit__ : PySem.W.findIn K (.ref ABatch) "__exit__" = some (some (.ref ABatch___exit__)))
  (zp2_Batch___exit__ : PySem.W.isFn K (.ref ABatch___exit__) = true)
  (zp3_Batch___exit__ : PySem.W.keepIn K (.ref ABatch___exit__) = true)
  (zn_Batch_target : PySem.W.findIn K (.ref ABatch) "target" = some none)
  (zn_Batch_first_shelf : PySem.W.findIn K (.ref ABatch) "first_shelf" = some none)
  (zn_Batch_first_layout : PySem.W.findIn K (.ref ABatch) "first_layout" = some none)
  (zn_Batch_first_past : PySem.W.findIn K (.ref ABatch) "first_past" = some none)
  (zn_Batch_shelf : PySem.W.findIn K (.ref ABatch) "shelf" = some none)
  (zn_Batch_layout : PySem.W.findIn K (.ref ABatch) "layout" = some none)
  (zn_Batch_past : PySem.W.findIn K (.ref ABatch) "past" = some none)
  (za_Node : PySem.W.nsIn K mainGlobals "Node" = some (some (.ref ANode)))
  (zc1_Node : PySem.W.plainGet K ANode Str.empty = true)
  (zc2_Node : PySem.W.hasDictIn K ANode = true)
  (zc3_Node : PySem.W.plainOver K ANode = true)
  (zc4_Node : PySem.W.findIn K (.ref ANode) "__setattr__" = some (some (.builtin "object.__setattr__")))
  (zk_Node : PySem.W.keepIn K (.ref ANode) = true)
  (ze1_Node : PySem.W.mroIn K ANode (.type "object") = some true)
  (ze2_Node : PySem.W.findIn K (.ref ANode) "__eq__" = some (some (.builtin "object.__eq__")))
  (zt_Node : PySem.W.typeIn K (.ref ANode) = some (.type "type"))
  (za_NodeView : PySem.W.nsIn K mainGlobals "NodeView" = some (some (.ref ANodeView)))
  (zc1_NodeView : PySem.W.plainGet K ANodeView Str.empty = true)
  (zc2_NodeView : PySem.W.hasDictIn K ANodeView = true)
  (zc3_NodeView : PySem.W.plainOver K ANodeView = true)
  (zc4_NodeView : PySem.W.findIn K (.ref ANodeView) "__setattr__" = some (some (.builtin "object.__setattr__")))
  (zk_NodeView : PySem.W.keepIn K (.ref ANodeView) = true)
  (ze1_NodeView : PySem.W.mroIn K ANodeView (.type "object") = some true)
  (ze2_NodeView : PySem.W.findIn K (.ref ANodeView) "__eq__" = some (some (.builtin "object.__eq__")))
  (zt_NodeView : PySem.W.typeIn K (.ref ANodeView) = some (.type "type"))
  (zm1_NodeView : PySem.W.makesIn K ANodeView = true)
  (zm2_NodeView : PySem.W.findIn K (.ref ANodeView) "__init__" = some (some (.ref ANodeView___init__)))
  (zm3_NodeView : PySem.W.isFn K (.ref ANodeView___init__) = true)
  (zp1_NodeView_shape_of : PySem.W.findIn K (.ref ANodeView) "shape_of" = some (some (.ref ANodeView_shape_of)))
  (zp2_NodeView_shape_of : PySem.W.isFn K (.ref ANodeView_shape_of) = true)
  (zp3_NodeView_shape_of : PySem.W.keepIn K (.ref ANodeView_shape_of) = true)
  (zp1_NodeView_label : PySem.W.findIn K (.ref ANodeView) "label" = some (some (.ref ANodeView_label)))
  (zp2_NodeView_label : PySem.W.isFn K (.ref ANodeView_label) = true)
  (zp3_NodeView_label : PySem.W.keepIn K (.ref ANodeView_label) = true)
  (zp1_NodeView_plain : PySem.W.findIn K (.ref ANodeView) "plain" = some (some (.ref ANodeView_plain)))
  (zp2_NodeView_plain : PySem.W.isFn K (.ref ANodeView_plain) = true)
  (zp3_NodeView_plain : PySem.W.keepIn K (.ref ANodeView_plain) = true)
  (zn_NodeView_rules : PySem.W.findIn K (.ref ANodeView) "rules" = some none)
  (zn_NodeView_outside : PySem.W.findIn K (.ref ANodeView) "outside" = some none)
  (zn_NodeView_answers : PySem.W.findIn K (.ref ANodeView) "answers" = some none)
  (za_Drafting : PySem.W.nsIn K mainGlobals "Drafting" = some (some (.ref ADrafting)))
  (zc1_Drafting : PySem.W.plainGet K ADrafting Str.empty = true)
  (zc2_Drafting : PySem.W.hasDictIn K ADrafting = true)
  (zc3_Drafting : PySem.W.plainOver K ADrafting = true)
  (zc4_Drafting : PySem.W.findIn K (.ref ADrafting) "__setattr__" = some (some (.builtin "object.__setattr__")))
  (zk_Drafting : PySem.W.keepIn K (.ref ADrafting) = true)
  (ze1_Drafting : PySem.W.mroIn K ADrafting (.type "object") = some true)
  (ze2_Drafting : PySem.W.findIn K (.ref ADrafting) "__eq__" = some (some (.builtin "object.__eq__")))
  (zt_Drafting : PySem.W.typeIn K (.ref ADrafting) = some (.type "type"))
  (zm1_Drafting : PySem.W.makesIn K ADrafting = true)
  (zm2_Drafting : PySem.W.findIn K (.ref ADrafting) "__init__" = some (some (.ref ADrafting___init__)))
  (zm3_Drafting : PySem.W.isFn K (.ref ADrafting___init__) = true)
  (zp1_Drafting_add : PySem.W.findIn K (.ref ADrafting) "add" = some (some (.ref ADrafting_add)))
  (zp2_Drafting_add : PySem.W.isFn K (.ref ADrafting_add) = true)
  (zp3_Drafting_add : PySem.W.keepIn K (.ref ADrafting_add) = true)
  (zp1_Drafting_put : PySem.W.findIn K (.ref ADrafting) "put" = some (some (.ref ADrafting_put)))
  (zp2_Drafting_put : PySem.W.isFn K (.ref ADrafting_put) = true)
  (zp3_Drafting_put : PySem.W.keepIn K (.ref ADrafting_put) = true)
  (zp1_Drafting_enter_value : PySem.W.findIn K (.ref ADrafting) "enter_value" = some (some (.ref ADrafting_enter_value)))
  (zp2_Drafting_enter_value : PySem.W.isFn K (.ref ADrafting_enter_value) = true)
  (zp3_Drafting_enter_value : PySem.W.keepIn K (.ref ADrafting_enter_value) = true)
  (zp1_Drafting_write : PySem.W.findIn K (.ref ADrafting) "write" = some (some (.ref ADrafting_write)))
  (zp2_Drafting_write : PySem.W.isFn K (.ref ADrafting_write) = true)
  (zp3_Drafting_write : PySem.W.keepIn K (.ref ADrafting_write) = true)
  (zp1_Drafting_write_atom : PySem.W.findIn K (.ref ADrafting) "write_atom" = some (some (.ref ADrafting_write_atom)))
  (zp2_Drafting_write_atom : PySem.W.isFn K (.ref ADrafting_write_atom) = true)
  (zp3_Drafting_write_atom : PySem.W.keepIn K (.ref ADrafting_write_atom) = true)
  (zp1_Drafting_write_text : PySem.W.findIn K (.ref ADrafting) "write_text" = some (some (.ref ADrafting_write_text)))
  (zp2_Drafting_write_text : PySem.W.isFn K (.ref ADrafting_write_text) = true)
  (zp3_Drafting_write_text : PySem.W.keepIn K (.ref ADrafting_write_text) = true)
  (zn_Drafting_view : PySem.W.findIn K (.ref ADrafting) "view" = some none)
  (zn_Drafting_edition : PySem.W.findIn K (.ref ADrafting) "edition" = some none)
  (zn_Drafting_given : PySem.W.findIn K (.ref ADrafting) "given" = some none)
  (zn_Drafting_most : PySem.W.findIn K (.ref ADrafting) "most" = some none)
  (zn_Drafting_rows : PySem.W.findIn K (.ref ADrafting) "rows" = some none)
  (zn_Drafting_deep : PySem.W.findIn K (.ref ADrafting) "deep" = some none)
  (zn_Drafting_begun : PySem.W.findIn K (.ref ADrafting) "begun" = some none)
  (za_Jar : PySem.W.nsIn K mainGlobals "Jar" = some (some (.ref AJar)))
  (zc1_Jar : PySem.W.plainGet K AJar Str.empty = true)
  (zc2_Jar : PySem.W.hasDictIn K AJar = true)
  (zc3_Jar : PySem.W.plainOver K AJar = true)
  (zc4_Jar : PySem.W.findIn K (.ref AJar) "__setattr__" = some (some (.builtin "object.__setattr__")))
  (zk_Jar : PySem.W.keepIn K (.ref AJar) = true)
  (ze1_Jar : PySem.W.mroIn K AJar (.type "object") = some true)
  (ze2_Jar : PySem.W.findIn K (.ref AJar) "__eq__" = some (some (.builtin "object.__eq__")))
  (zt_Jar : PySem.W.typeIn K (.ref AJar) = some (.type "type"))
  (zm1_Jar : PySem.W.makesIn K AJar = true)
  (zm2_Jar : PySem.W.findIn K (.ref AJar) "__init__" = some (some (.ref AJar___init__)))
  (zm3_Jar : PySem.W.isFn K (.ref AJar___init__) = true)
  (zp1_Jar_names : PySem.W.findIn K (.ref AJar) "names" = some (some (.ref AJar_names_p)))
  (zp2_Jar_names : PySem.W.specialIn K (.ref AJar_names_p) "__get__" = some (some (.builtin "property.__get__")))
  (zp3_Jar_names : PySem.W.takesIn K (.ref AJar_names_p) = some true)
  (zp4_Jar_names : PySem.W.recIn K AJar_names_p "property" = some (.ref AJar_names :: rest_Jar_names))
  (zp1_Jar_version : PySem.W.findIn K (.ref AJar) "version" = some (some (.ref AJar_version_p)))
  (zp2_Jar_version : PySem.W.specialIn K (.ref AJar_version_p) "__get__" = some (some (.builtin "property.__get__")))
  (zp3_Jar_version : PySem.W.takesIn K (.ref AJar_version_p) = some true)
  (zp4_Jar_version : PySem.W.recIn K AJar_version_p "property" = some (.ref AJar_version :: rest_Jar_version))
  (zp1_Jar_total : PySem.W.findIn K (.ref AJar) "total" = some (some (.ref AJar_total_p)))
  (zp2_Jar_total : PySem.W.specialIn K (.ref AJar_total_p) "__get__" = some (some (.builtin "property.__get__")))
  (zp3_Jar_total : PySem.W.takesIn K (.ref AJar_total_p) = some true)
  (zp4_Jar_total : PySem.W.recIn K AJar_total_p "property" = some (.ref AJar_total :: rest_Jar_total))
  (zp1_Jar_changes : PySem.W.findIn K (.ref AJar) "changes" = some (some (.ref AJar_changes_p)))
  (zp2_Jar_changes : PySem.W.specialIn K (.ref AJar_changes_p) "__get__" = some (some (.builtin "property.__get__")))
  (zp3_Jar_changes : PySem.W.takesIn K (.ref AJar_changes_p) = some true)
  (zp4_Jar_changes : PySem.W.recIn K AJar_changes_p "property" = some (.ref AJar_changes :: rest_Jar_changes))
  (zp1_Jar_change_to : PySem.W.findIn K (.ref AJar) "change_to" = some (some (.ref AJar_change_to)))
  (zp2_Jar_change_to : PySem.W.isFn K (.ref AJar_change_to) = true)
  (zp3_Jar_change_to : PySem.W.keepIn K (.ref AJar_change_to) = true)
  (zp1_Jar_put : PySem.W.findIn K (.ref AJar) "put" = some (some (.ref AJar_put)))
  (zp2_Jar_put : PySem.W.isFn K (.ref AJar_put) = true)
  (zp3_Jar_put : PySem.W.keepIn K (.ref AJar_put) = true)
  (zp1_Jar_stream_of : PySem.W.findIn K (.ref AJar) "stream_of" = some (some (.ref AJar_stream_of)))
  (zp2_Jar_stream_of : PySem.W.isFn K (.ref AJar_stream_of) = true)
  (zp3_Jar_stream_of : PySem.W.keepIn K (.ref AJar_stream_of) = true)
  (zn_Jar_known : PySem.W.findIn K (.ref AJar) "known" = some none)
  (zn_Jar_shelf : PySem.W.findIn K (.ref AJar) "shelf" = some none)
  (zn_Jar_layout : PySem.W.findIn K (.ref AJar) "layout" = some none)
  (zn_Jar_past : PySem.W.findIn K (.ref AJar) "past" = some none)
  (za_WORDS : PySem.W.nsIn K mainGlobals "WORDS" = some (some (.ref AWORDS)))
  (za_NUMBERS : PySem.W.nsIn K mainGlobals "NUMBERS" = some (some (.ref ANUMBERS)))
  (za_ROWS : PySem.W.nsIn K mainGlobals "ROWS" = some (some (.ref AROWS)))
  (za_OCTET_ROWS : PySem.W.nsIn K mainGlobals "OCTET_ROWS" = some (some (.ref AOCTET_ROWS)))
  (za_LINE_TEXTS : PySem.W.nsIn K mainGlobals "LINE_TEXTS" = some (some (.ref ALINE_TEXTS)))
  (zb_ValueError : PySem.W.nsIn K mainGlobals "ValueError" = some none)
  (zb_all : PySem.W.nsIn K mainGlobals "all" = some none)
  (zb_bool : PySem.W.nsIn K mainGlobals "bool" = some none)
  (zb_enumerate : PySem.W.nsIn K mainGlobals "enumerate" = some none)
  (zb_int : PySem.W.nsIn K mainGlobals "int" = some none)
  (zb_isinstance : PySem.W.nsIn K mainGlobals "isinstance" = some none)
  (zb_len : PySem.W.nsIn K mainGlobals "len" = some none)
  (zb_list : PySem.W.nsIn K mainGlobals "list" = some none)
  (zb_min : PySem.W.nsIn K mainGlobals "min" = some none)
  (zb_ord : PySem.W.nsIn K mainGlobals "ord" = some none)
  (zb_property : PySem.W.nsIn K mainGlobals "property" = some none)
  (zb_range : PySem.W.nsIn K mainGlobals "range" = some none)
  (zb_repr : PySem.W.nsIn K mainGlobals "repr" = some none)
  (zb_sorted : PySem.W.nsIn K mainGlobals "sorted" = some none)
  (zb_str : PySem.W.nsIn K mainGlobals "str" = some none)
  (zb_sum : PySem.W.nsIn K mainGlobals "sum" = some none)
  (zb_tuple : PySem.W.nsIn K mainGlobals "tuple" = some none)
  (zb_super : PySem.W.nsIn K mainGlobals "super" = some none)
  (zc_MOST_INTEGER : PySem.W.nsIn K mainGlobals "MOST_INTEGER" = some (some (.int (1000000000000000000000000000000000000000000000000000000000000000000000000000000000000000000000000000000000000000000000000000000000000000000000000000000000000000000000000000000000000000000000000000000000000000000000000000000000000000000000000000000000000000000000000000000000000000000000000000000000000) t_MOST_INTEGER)))
  (zc_MOST_CHARACTERS : PySem.W.nsIn K mainGlobals "MOST_CHARACTERS" = some (some (.int (2000) t_MOST_CHARACTERS)))
  (zc_MOST_OPEN : PySem.W.nsIn K mainGlobals "MOST_OPEN" = some (some (.int (50) t_MOST_OPEN)))
  (zc_LEAST_SHARED : PySem.W.nsIn K mainGlobals "LEAST_SHARED" = some (some (.int (4) t_LEAST_SHARED)))
  (zc_NEWLINE : PySem.W.nsIn K mainGlobals "NEWLINE" = some (some (.int (10) t_NEWLINE)))
  (zc_FIRST : PySem.W.nsIn K mainGlobals "FIRST" = some (some (.int (160) t_FIRST)))
  (zc_MOST_OCTETS : PySem.W.nsIn K mainGlobals "MOST_OCTETS" = some (some (.int (50000) t_MOST_OCTETS)))
  (zc_LEAST_FRAME : PySem.W.nsIn K mainGlobals "LEAST_FRAME" = some (some (.int (64) t_LEAST_FRAME)))
  (zc_MOST_NAMES : PySem.W.nsIn K mainGlobals "MOST_NAMES" = some (some (.int (50) t_MOST_NAMES)))
  (za_is_edit : PySem.W.nsIn K mainGlobals "is_edit" = some (some (.ref Ais_edit)))
  (zl_is_edit : K.lookup Ais_edit = some ⟨oc_is_edit, od_is_edit, .func (PySem.W.fnOf "is_edit" "is_edit" (defArgs s_is_edit) (defBody s_is_edit) (defScope s_is_edit) .none kV_is_edit dc_is_edit pm_is_edit an_is_edit cd_is_edit ct_is_edit), sl_is_edit⟩)
  (zd_is_edit : PySem.W.codeIn K cd_is_edit "is_edit" = true)
  (zk_is_edit : PySem.W.keepIn K (.ref Ais_edit) = true)
  (zl_Batch___init__ : K.lookup ABatch___init__ = some ⟨oc_Batch___init__, od_Batch___init__, .func (PySem.W.fnOf "__init__" "Batch.__init__" (defArgs s_Batch___init__) (defBody s_Batch___init__) (defScope s_Batch___init__) .none kV_Batch___init__ dc_Batch___init__ pm_Batch___init__ an_Batch___init__ cd_Batch___init__ ct_Batch___init__), sl_Batch___init__⟩)
  (zd_Batch___init__ : PySem.W.codeIn K cd_Batch___init__ "Batch.__init__" = true)
  (zk_Batch___init__ : PySem.W.keepIn K (.ref ABatch___init__) = true)
  (zl_Batch___enter__ : K.lookup ABatch___enter__ = some ⟨oc_Batch___enter__, od_Batch___enter__, .func (PySem.W.fnOf "__enter__" "Batch.__enter__" (defArgs s_Batch___enter__) (defBody s_Batch___enter__) (defScope s_Batch___enter__) .none kV_Batch___enter__ dc_Batch___enter__ pm_Batch___enter__ an_Batch___enter__ cd_Batch___enter__ ct_Batch___enter__), sl_Batch___enter__⟩)
  (zd_Batch___enter__ : PySem.W.codeIn K cd_Batch___enter__ "Batch.__enter__" = true)
  (zk_Batch___enter__ : PySem.W.keepIn K (.ref ABatch___enter__) = true)
  (zl_Batch___exit__ : K.lookup ABatch___exit__ = some ⟨oc_Batch___exit__, od_Batch___exit__, .func (PySem.W.fnOf "__exit__" "Batch.__exit__" (defArgs s_Batch___exit__) (defBody s_Batch___exit__) (defScope s_Batch___exit__) .none kV_Batch___exit__ dc_Batch___exit__ pm_Batch___exit__ an_Batch___exit__ cd_Batch___exit__ ct_Batch___exit__), sl_Batch___exit__⟩)
  (zd_Batch___exit__ : PySem.W.codeIn K cd_Batch___exit__ "Batch.__exit__" = true)
  (zk_Batch___exit__ : PySem.W.keepIn K (.ref ABatch___exit__) = true)
  (za_batched_all : PySem.W.nsIn K mainGlobals "batched_all" = some (some (.ref Abatched_all)))
  (zl_batched_all : K.lookup Abatched_all = some ⟨oc_batched_all, od_batched_all, .func (PySem.W.fnOf "batched_all" "batched_all" (defArgs s_batched_all) (defBody s_batched_all) (defScope s_batched_all) .none kV_batched_all dc_batched_all pm_batched_all an_batched_all cd_batched_all ct_batched_all), sl_batched_all⟩)
  (zd_batched_all : PySem.W.codeIn K cd_batched_all "batched_all" = true)
  (zk_batched_all : PySem.W.keepIn K (.ref Abatched_all) = true)
  (za_batched : PySem.W.nsIn K mainGlobals "batched" = some (some (.ref Abatched)))
  (zl_batched : K.lookup Abatched = some ⟨oc_batched, od_batched, .func (PySem.W.fnOf "batched" "batched" (defArgs s_batched) (defBody s_batched) (defScope s_batched) .none kV_batched dc_batched pm_batched an_batched cd_batched ct_batched), sl_batched⟩)
  (zd_batched : PySem.W.codeIn K cd_batched "batched" = true)
  (zk_batched : PySem.W.keepIn K (.ref Abatched) = true)
  (za_is_integer : PySem.W.nsIn K mainGlobals "is_integer" = some (some (.ref Ais_integer)))
  (zl_is_integer : K.lookup Ais_integer = some ⟨oc_is_integer, od_is_integer, .func (PySem.W.fnOf "is_integer" "is_integer" (defArgs s_is_integer) (defBody s_is_integer) (defScope s_is_integer) .none kV_is_integer dc_is_integer pm_is_integer an_is_integer cd_is_integer ct_is_integer), sl_is_integer⟩)
  (zd_is_integer : PySem.W.codeIn K cd_is_integer "is_integer" = true)
  (zk_is_integer : PySem.W.keepIn K (.ref Ais_integer) = true)
  (za_is_whole_atom : PySem.W.nsIn K mainGlobals "is_whole_atom" = some (some (.ref Ais_whole_atom)))
  (zl_is_whole_atom : K.lookup Ais_whole_atom = some ⟨oc_is_whole_atom, od_is_whole_atom, .func (PySem.W.fnOf "is_whole_atom" "is_whole_atom" (defArgs s_is_whole_atom) (defBody s_is_whole_atom) (defScope s_is_whole_atom) .none kV_is_whole_atom dc_is_whole_atom pm_is_whole_atom an_is_whole_atom cd_is_whole_atom ct_is_whole_atom), sl_is_whole_atom⟩)
  (zd_is_whole_atom : PySem.W.codeIn K cd_is_whole_atom "is_whole_atom" = true)
  (zk_is_whole_atom : PySem.W.keepIn K (.ref Ais_whole_atom) = true)
  (za_is_text : PySem.W.nsIn K mainGlobals "is_text" = some (some (.ref Ais_text)))
  (zl_is_text : K.lookup Ais_text = some ⟨oc_is_text, od_is_text, .func (PySem.W.fnOf "is_text" "is_text" (defArgs s_is_text) (defBody s_is_text) (defScope s_is_text) .none kV_is_text dc_is_text pm_is_text an_is_text cd_is_text ct_is_text), sl_is_text⟩)
  (zd_is_text : PySem.W.codeIn K cd_is_text "is_text" = true)
  (zk_is_text : PySem.W.keepIn K (.ref Ais_text) = true)
  (za_is_key : PySem.W.nsIn K mainGlobals "is_key" = some (some (.ref Ais_key)))
  (zl_is_key : K.lookup Ais_key = some ⟨oc_is_key, od_is_key, .func (PySem.W.fnOf "is_key" "is_key" (defArgs s_is_key) (defBody s_is_key) (defScope s_is_key) .none kV_is_key dc_is_key pm_is_key an_is_key cd_is_key ct_is_key), sl_is_key⟩)
  (zd_is_key : PySem.W.codeIn K cd_is_key "is_key" = true)
  (zk_is_key : PySem.W.keepIn K (.ref Ais_key) = true)
  (za_is_atom : PySem.W.nsIn K mainGlobals "is_atom" = some (some (.ref Ais_atom)))
  (zl_is_atom : K.lookup Ais_atom = some ⟨oc_is_atom, od_is_atom, .func (PySem.W.fnOf "is_atom" "is_atom" (defArgs s_is_atom) (defBody s_is_atom) (defScope s_is_atom) .none kV_is_atom dc_is_atom pm_is_atom an_is_atom cd_is_atom ct_is_atom), sl_is_atom⟩)
  (zd_is_atom : PySem.W.codeIn K cd_is_atom "is_atom" = true)
  (zk_is_atom : PySem.W.keepIn K (.ref Ais_atom) = true)
  (za_holds_value : PySem.W.nsIn K mainGlobals "holds_value" = some (some (.ref Aholds_value)))
  (zl_holds_value : K.lookup Aholds_value = some ⟨oc_holds_value, od_holds_value, .func (PySem.W.fnOf "holds_value" "holds_value" (defArgs s_holds_value) (defBody s_holds_value) (defScope s_holds_value) .none kV_holds_value dc_holds_value pm_holds_value an_holds_value cd_holds_value ct_holds_value), sl_holds_value⟩)
  (zd_holds_value : PySem.W.codeIn K cd_holds_value "holds_value" = true)
  (zk_holds_value : PySem.W.keepIn K (.ref Aholds_value) = true)
  (za_rules_of : PySem.W.nsIn K mainGlobals "rules_of" = some (some (.ref Arules_of)))
  (zl_rules_of : K.lookup Arules_of = some ⟨oc_rules_of, od_rules_of, .func (PySem.W.fnOf "rules_of" "rules_of" (defArgs s_rules_of) (defBody s_rules_of) (defScope s_rules_of) .none kV_rules_of dc_rules_of pm_rules_of an_rules_of cd_rules_of ct_rules_of), sl_rules_of⟩)
  (zd_rules_of : PySem.W.codeIn K cd_rules_of "rules_of" = true)
  (zk_rules_of : PySem.W.keepIn K (.ref Arules_of) = true)
  (za_atom_form : PySem.W.nsIn K mainGlobals "atom_form" = some (some (.ref Aatom_form)))
  (zl_atom_form : K.lookup Aatom_form = some ⟨oc_atom_form, od_atom_form, .func (PySem.W.fnOf "atom_form" "atom_form" (defArgs s_atom_form) (defBody s_atom_form) (defScope s_atom_form) .none kV_atom_form dc_atom_form pm_atom_form an_atom_form cd_atom_form ct_atom_form), sl_atom_form⟩)
  (zd_atom_form : PySem.W.codeIn K cd_atom_form "atom_form" = true)
  (zk_atom_form : PySem.W.keepIn K (.ref Aatom_form) = true)
  (zl_NodeView___init__ : K.lookup ANodeView___init__ = some ⟨oc_NodeView___init__, od_NodeView___init__, .func (PySem.W.fnOf "__init__" "NodeView.__init__" (defArgs s_NodeView___init__) (defBody s_NodeView___init__) (defScope s_NodeView___init__) .none kV_NodeView___init__ dc_NodeView___init__ pm_NodeView___init__ an_NodeView___init__ cd_NodeView___init__ ct_NodeView___init__), sl_NodeView___init__⟩)
  (zd_NodeView___init__ : PySem.W.codeIn K cd_NodeView___init__ "NodeView.__init__" = true)
  (zk_NodeView___init__ : PySem.W.keepIn K (.ref ANodeView___init__) = true)
  (zl_NodeView_shape_of : K.lookup ANodeView_shape_of = some ⟨oc_NodeView_shape_of, od_NodeView_shape_of, .func (PySem.W.fnOf "shape_of" "NodeView.shape_of" (defArgs s_NodeView_shape_of) (defBody s_NodeView_shape_of) (defScope s_NodeView_shape_of) .none kV_NodeView_shape_of dc_NodeView_shape_of pm_NodeView_shape_of an_NodeView_shape_of cd_NodeView_shape_of ct_NodeView_shape_of), sl_NodeView_shape_of⟩)
  (zd_NodeView_shape_of : PySem.W.codeIn K cd_NodeView_shape_of "NodeView.shape_of" = true)
  (zk_NodeView_shape_of : PySem.W.keepIn K (.ref ANodeView_shape_of) = true)
  (zl_NodeView_label : K.lookup ANodeView_label = some ⟨oc_NodeView_label, od_NodeView_label, .func (PySem.W.fnOf "label" "NodeView.label" (defArgs s_NodeView_label) (defBody s_NodeView_label) (defScope s_NodeView_label) .none kV_NodeView_label dc_NodeView_label pm_NodeView_label an_NodeView_label cd_NodeView_label ct_NodeView_label), sl_NodeView_label⟩)
  (zd_NodeView_label : PySem.W.codeIn K cd_NodeView_label "NodeView.label" = true)
  (zk_NodeView_label : PySem.W.keepIn K (.ref ANodeView_label) = true)
  (zl_NodeView_plain : K.lookup ANodeView_plain = some ⟨oc_NodeView_plain, od_NodeView_plain, .func (PySem.W.fnOf "plain" "NodeView.plain" (defArgs s_NodeView_plain) (defBody s_NodeView_plain) (defScope s_NodeView_plain) .none kV_NodeView_plain dc_NodeView_plain pm_NodeView_plain an_NodeView_plain cd_NodeView_plain ct_NodeView_plain), sl_NodeView_plain⟩)
  (zd_NodeView_plain : PySem.W.codeIn K cd_NodeView_plain "NodeView.plain" = true)
  (zk_NodeView_plain : PySem.W.keepIn K (.ref ANodeView_plain) = true)
  (zl_Drafting___init__ : K.lookup ADrafting___init__ = some ⟨oc_Drafting___init__, od_Drafting___init__, .func (PySem.W.fnOf "__init__" "Drafting.__init__" (defArgs s_Drafting___init__) (defBody s_Drafting___init__) (defScope s_Drafting___init__) .none kV_Drafting___init__ dc_Drafting___init__ pm_Drafting___init__ an_Drafting___init__ cd_Drafting___init__ ct_Drafting___init__), sl_Drafting___init__⟩)
  (zd_Drafting___init__ : PySem.W.codeIn K cd_Drafting___init__ "Drafting.__init__" = true)
  (zk_Drafting___init__ : PySem.W.keepIn K (.ref ADrafting___init__) = true)
  (zl_Drafting_add : K.lookup ADrafting_add = some ⟨oc_Drafting_add, od_Drafting_add, .func (PySem.W.fnOf "add" "Drafting.add" (defArgs s_Drafting_add) (defBody s_Drafting_add) (defScope s_Drafting_add) (.ref T_Drafting_add) kV_Drafting_add dc_Drafting_add pm_Drafting_add an_Drafting_add cd_Drafting_add ct_Drafting_add), sl_Drafting_add⟩)
  (zd_Drafting_add : PySem.W.codeIn K cd_Drafting_add "Drafting.add" = true)
  (zk_Drafting_add : PySem.W.keepIn K (.ref ADrafting_add) = true)
  (zT_Drafting_add : K.lookup T_Drafting_add = some ⟨clT_Drafting_add, diT_Drafting_add, .seq #[.none] nT_Drafting_add, slT_Drafting_add⟩)
  (zl_Drafting_put : K.lookup ADrafting_put = some ⟨oc_Drafting_put, od_Drafting_put, .func (PySem.W.fnOf "put" "Drafting.put" (defArgs s_Drafting_put) (defBody s_Drafting_put) (defScope s_Drafting_put) .none kV_Drafting_put dc_Drafting_put pm_Drafting_put an_Drafting_put cd_Drafting_put ct_Drafting_put), sl_Drafting_put⟩)
  (zd_Drafting_put : PySem.W.codeIn K cd_Drafting_put "Drafting.put" = true)
  (zk_Drafting_put : PySem.W.keepIn K (.ref ADrafting_put) = true)
  (zl_Drafting_enter_value : K.lookup ADrafting_enter_value = some ⟨oc_Drafting_enter_value, od_Drafting_enter_value, .func (PySem.W.fnOf "enter_value" "Drafting.enter_value" (defArgs s_Drafting_enter_value) (defBody s_Drafting_enter_value) (defScope s_Drafting_enter_value) .none kV_Drafting_enter_value dc_Drafting_enter_value pm_Drafting_enter_value an_Drafting_enter_value cd_Drafting_enter_value ct_Drafting_enter_value), sl_Drafting_enter_value⟩)
  (zd_Drafting_enter_value : PySem.W.codeIn K cd_Drafting_enter_value "Drafting.enter_value" = true)
  (zk_Drafting_enter_value : PySem.W.keepIn K (.ref ADrafting_enter_value) = true)
  (zl_Drafting_write : K.lookup ADrafting_write = some ⟨oc_Drafting_write, od_Drafting_write, .func (PySem.W.fnOf "write" "Drafting.write" (defArgs s_Drafting_write) (defBody s_Drafting_write) (defScope s_Drafting_write) .none kV_Drafting_write dc_Drafting_write pm_Drafting_write an_Drafting_write cd_Drafting_write ct_Drafting_write), sl_Drafting_write⟩)
  (zd_Drafting_write : PySem.W.codeIn K cd_Drafting_write "Drafting.write" = true)
  (zk_Drafting_write : PySem.W.keepIn K (.ref ADrafting_write) = true)
  (zl_Drafting_write_atom : K.lookup ADrafting_write_atom = some ⟨oc_Drafting_write_atom, od_Drafting_write_atom, .func (PySem.W.fnOf "write_atom" "Drafting.write_atom" (defArgs s_Drafting_write_atom) (defBody s_Drafting_write_atom) (defScope s_Drafting_write_atom) .none kV_Drafting_write_atom dc_Drafting_write_atom pm_Drafting_write_atom an_Drafting_write_atom cd_Drafting_write_atom ct_Drafting_write_atom), sl_Drafting_write_atom⟩)
  (zd_Drafting_write_atom : PySem.W.codeIn K cd_Drafting_write_atom "Drafting.write_atom" = true)
  (zk_Drafting_write_atom : PySem.W.keepIn K (.ref ADrafting_write_atom) = true)
  (zl_Drafting_write_text : K.lookup ADrafting_write_text = some ⟨oc_Drafting_write_text, od_Drafting_write_text, .func (PySem.W.fnOf "write_text" "Drafting.write_text" (defArgs s_Drafting_write_text) (defBody s_Drafting_write_text) (defScope s_Drafting_write_text) .none kV_Drafting_write_text dc_Drafting_write_text pm_Drafting_write_text an_Drafting_write_text cd_Drafting_write_text ct_Drafting_write_text), sl_Drafting_write_text⟩)
  (zd_Drafting_write_text : PySem.W.codeIn K cd_Drafting_write_text "Drafting.write_text" = true)
  (zk_Drafting_write_text : PySem.W.keepIn K (.ref ADrafting_write_text) = true)
  (za_integer_name : PySem.W.nsIn K mainGlobals "integer_name" = some (some (.ref Ainteger_name)))
  (zl_integer_name : K.lookup Ainteger_name = some ⟨oc_integer_name, od_integer_name, .func (PySem.W.fnOf "integer_name" "integer_name" (defArgs s_integer_name) (defBody s_integer_name) (defScope s_integer_name) .none kV_integer_name dc_integer_name pm_integer_name an_integer_name cd_integer_name ct_integer_name), sl_integer_name⟩)
  (zd_integer_name : PySem.W.codeIn K cd_integer_name "integer_name" = true)
  (zk_integer_name : PySem.W.keepIn K (.ref Ainteger_name) = true)
  (za_text_name : PySem.W.nsIn K mainGlobals "text_name" = some (some (.ref Atext_name)))
  (zl_text_name : K.lookup Atext_name = some ⟨oc_text_name, od_text_name, .func (PySem.W.fnOf "text_name" "text_name" (defArgs s_text_name) (defBody s_text_name) (defScope s_text_name) .none kV_text_name dc_text_name pm_text_name an_text_name cd_text_name ct_text_name), sl_text_name⟩)
  (zd_text_name : PySem.W.codeIn K cd_text_name "text_name" = true)
  (zk_text_name : PySem.W.keepIn K (.ref Atext_name) = true)
  (za_full_rows : PySem.W.nsIn K mainGlobals "full_rows" = some (some (.ref Afull_rows)))
  (zl_full_rows : K.lookup Afull_rows = some ⟨oc_full_rows, od_full_rows, .func (PySem.W.fnOf "full_rows" "full_rows" (defArgs s_full_rows) (defBody s_full_rows) (defScope s_full_rows) (.ref T_full_rows) kV_full_rows dc_full_rows pm_full_rows an_full_rows cd_full_rows ct_full_rows), sl_full_rows⟩)
  (zd_full_rows : PySem.W.codeIn K cd_full_rows "full_rows" = true)
  (zk_full_rows : PySem.W.keepIn K (.ref Afull_rows) = true)
  (zT_full_rows : K.lookup T_full_rows = some ⟨clT_full_rows, diT_full_rows, .seq #[.none] nT_full_rows, slT_full_rows⟩)
  (za_least_rows : PySem.W.nsIn K mainGlobals "least_rows" = some (some (.ref Aleast_rows)))
  (zl_least_rows : K.lookup Aleast_rows = some ⟨oc_least_rows, od_least_rows, .func (PySem.W.fnOf "least_rows" "least_rows" (defArgs s_least_rows) (defBody s_least_rows) (defScope s_least_rows) .none kV_least_rows dc_least_rows pm_least_rows an_least_rows cd_least_rows ct_least_rows), sl_least_rows⟩)
  (zd_least_rows : PySem.W.codeIn K cd_least_rows "least_rows" = true)
  (zk_least_rows : PySem.W.keepIn K (.ref Aleast_rows) = true)
  (za_named_rows : PySem.W.nsIn K mainGlobals "named_rows" = some (some (.ref Anamed_rows)))
  (zl_named_rows : K.lookup Anamed_rows = some ⟨oc_named_rows, od_named_rows, .func (PySem.W.fnOf "named_rows" "named_rows" (defArgs s_named_rows) (defBody s_named_rows) (defScope s_named_rows) .none kV_named_rows dc_named_rows pm_named_rows an_named_rows cd_named_rows ct_named_rows), sl_named_rows⟩)
  (zd_named_rows : PySem.W.codeIn K cd_named_rows "named_rows" = true)
  (zk_named_rows : PySem.W.keepIn K (.ref Anamed_rows) = true)
  (za_text_octets : PySem.W.nsIn K mainGlobals "text_octets" = some (some (.ref Atext_octets)))
  (zl_text_octets : K.lookup Atext_octets = some ⟨oc_text_octets, od_text_octets, .func (PySem.W.fnOf "text_octets" "text_octets" (defArgs s_text_octets) (defBody s_text_octets) (defScope s_text_octets) .none kV_text_octets dc_text_octets pm_text_octets an_text_octets cd_text_octets ct_text_octets), sl_text_octets⟩)
  (zd_text_octets : PySem.W.codeIn K cd_text_octets "text_octets" = true)
  (zk_text_octets : PySem.W.keepIn K (.ref Atext_octets) = true)
  (za_line_octets : PySem.W.nsIn K mainGlobals "line_octets" = some (some (.ref Aline_octets)))
  (zl_line_octets : K.lookup Aline_octets = some ⟨oc_line_octets, od_line_octets, .func (PySem.W.fnOf "line_octets" "line_octets" (defArgs s_line_octets) (defBody s_line_octets) (defScope s_line_octets) .none kV_line_octets dc_line_octets pm_line_octets an_line_octets cd_line_octets ct_line_octets), sl_line_octets⟩)
  (zd_line_octets : PySem.W.codeIn K cd_line_octets "line_octets" = true)
  (zk_line_octets : PySem.W.keepIn K (.ref Aline_octets) = true)
  (za_wide_octets : PySem.W.nsIn K mainGlobals "wide_octets" = some (some (.ref Awide_octets)))
  (zl_wide_octets : K.lookup Awide_octets = some ⟨oc_wide_octets, od_wide_octets, .func (PySem.W.fnOf "wide_octets" "wide_octets" (defArgs s_wide_octets) (defBody s_wide_octets) (defScope s_wide_octets) .none kV_wide_octets dc_wide_octets pm_wide_octets an_wide_octets cd_wide_octets ct_wide_octets), sl_wide_octets⟩)
  (zd_wide_octets : PySem.W.codeIn K cd_wide_octets "wide_octets" = true)
  (zk_wide_octets : PySem.W.keepIn K (.ref Awide_octets) = true)
  (za_row_of : PySem.W.nsIn K mainGlobals "row_of" = some (some (.ref Arow_of)))
  (zl_row_of : K.lookup Arow_of = some ⟨oc_row_of, od_row_of, .func (PySem.W.fnOf "row_of" "row_of" (defArgs s_row_of) (defBody s_row_of) (defScope s_row_of) .none kV_row_of dc_row_of pm_row_of an_row_of cd_row_of ct_row_of), sl_row_of⟩)
  (zd_row_of : PySem.W.codeIn K cd_row_of "row_of" = true)
  (zk_row_of : PySem.W.keepIn K (.ref Arow_of) = true)
  (za_argument_form : PySem.W.nsIn K mainGlobals "argument_form" = some (some (.ref Aargument_form)))
  (zl_argument_form : K.lookup Aargument_form = some ⟨oc_argument_form, od_argument_form, .func (PySem.W.fnOf "argument_form" "argument_form" (defArgs s_argument_form) (defBody s_argument_form) (defScope s_argument_form) .none kV_argument_form dc_argument_form pm_argument_form an_argument_form cd_argument_form ct_argument_form), sl_argument_form⟩)
  (zd_argument_form : PySem.W.codeIn K cd_argument_form "argument_form" = true)
  (zk_argument_form : PySem.W.keepIn K (.ref Aargument_form) = true)
  (za_is_version : PySem.W.nsIn K mainGlobals "is_version" = some (some (.ref Ais_version)))
  (zl_is_version : K.lookup Ais_version = some ⟨oc_is_version, od_is_version, .func (PySem.W.fnOf "is_version" "is_version" (defArgs s_is_version) (defBody s_is_version) (defScope s_is_version) .none kV_is_version dc_is_version pm_is_version an_is_version cd_is_version ct_is_version), sl_is_version⟩)
  (zd_is_version : PySem.W.codeIn K cd_is_version "is_version" = true)
  (zk_is_version : PySem.W.keepIn K (.ref Ais_version) = true)
  (za_check_version : PySem.W.nsIn K mainGlobals "check_version" = some (some (.ref Acheck_version)))
  (zl_check_version : K.lookup Acheck_version = some ⟨oc_check_version, od_check_version, .func (PySem.W.fnOf "check_version" "check_version" (defArgs s_check_version) (defBody s_check_version) (defScope s_check_version) .none kV_check_version dc_check_version pm_check_version an_check_version cd_check_version ct_check_version), sl_check_version⟩)
  (zd_check_version : PySem.W.codeIn K cd_check_version "check_version" = true)
  (zk_check_version : PySem.W.keepIn K (.ref Acheck_version) = true)
  (za_argument_octets : PySem.W.nsIn K mainGlobals "argument_octets" = some (some (.ref Aargument_octets)))
  (zl_argument_octets : K.lookup Aargument_octets = some ⟨oc_argument_octets, od_argument_octets, .func (PySem.W.fnOf "argument_octets" "argument_octets" (defArgs s_argument_octets) (defBody s_argument_octets) (defScope s_argument_octets) .none kV_argument_octets dc_argument_octets pm_argument_octets an_argument_octets cd_argument_octets ct_argument_octets), sl_argument_octets⟩)
  (zd_argument_octets : PySem.W.codeIn K cd_argument_octets "argument_octets" = true)
  (zk_argument_octets : PySem.W.keepIn K (.ref Aargument_octets) = true)
  (za_encoded : PySem.W.nsIn K mainGlobals "encoded" = some (some (.ref Aencoded)))
  (zl_encoded : K.lookup Aencoded = some ⟨oc_encoded, od_encoded, .func (PySem.W.fnOf "encoded" "encoded" (defArgs s_encoded) (defBody s_encoded) (defScope s_encoded) .none kV_encoded dc_encoded pm_encoded an_encoded cd_encoded ct_encoded), sl_encoded⟩)
  (zd_encoded : PySem.W.codeIn K cd_encoded "encoded" = true)
  (zk_encoded : PySem.W.keepIn K (.ref Aencoded) = true)
  (za_framed : PySem.W.nsIn K mainGlobals "framed" = some (some (.ref Aframed)))
  (zl_framed : K.lookup Aframed = some ⟨oc_framed, od_framed, .func (PySem.W.fnOf "framed" "framed" (defArgs s_framed) (defBody s_framed) (defScope s_framed) .none kV_framed dc_framed pm_framed an_framed cd_framed ct_framed), sl_framed⟩)
  (zd_framed : PySem.W.codeIn K cd_framed "framed" = true)
  (zk_framed : PySem.W.keepIn K (.ref Aframed) = true)
  (za_laid_out : PySem.W.nsIn K mainGlobals "laid_out" = some (some (.ref Alaid_out)))
  (zl_laid_out : K.lookup Alaid_out = some ⟨oc_laid_out, od_laid_out, .func (PySem.W.fnOf "laid_out" "laid_out" (defArgs s_laid_out) (defBody s_laid_out) (defScope s_laid_out) .none kV_laid_out dc_laid_out pm_laid_out an_laid_out cd_laid_out ct_laid_out), sl_laid_out⟩)
  (zd_laid_out : PySem.W.codeIn K cd_laid_out "laid_out" = true)
  (zk_laid_out : PySem.W.keepIn K (.ref Alaid_out) = true)
  (za_sealed : PySem.W.nsIn K mainGlobals "sealed" = some (some (.ref Asealed)))
  (zl_sealed : K.lookup Asealed = some ⟨oc_sealed, od_sealed, .func (PySem.W.fnOf "sealed" "sealed" (defArgs s_sealed) (defBody s_sealed) (defScope s_sealed) .none kV_sealed dc_sealed pm_sealed an_sealed cd_sealed ct_sealed), sl_sealed⟩)
  (zd_sealed : PySem.W.codeIn K cd_sealed "sealed" = true)
  (zk_sealed : PySem.W.keepIn K (.ref Asealed) = true)
  (za_dump : PySem.W.nsIn K mainGlobals "dump" = some (some (.ref Adump)))
  (zl_dump : K.lookup Adump = some ⟨oc_dump, od_dump, .func (PySem.W.fnOf "dump" "dump" (defArgs s_dump) (defBody s_dump) (defScope s_dump) (.ref T_dump) (.ref Dk_dump) dc_dump pm_dump an_dump cd_dump ct_dump), sl_dump⟩)
  (zd_dump : PySem.W.codeIn K cd_dump "dump" = true)
  (zk_dump : PySem.W.keepIn K (.ref Adump) = true)
  (zT_dump : K.lookup T_dump = some ⟨clT_dump, diT_dump, .seq #[.none] nT_dump, slT_dump⟩)
  (zy_dump_version : PySem.W.nsIn K Dk_dump "version" = some (some (.int (4) tk_dump_version)))
  (zy_dump_outside : PySem.W.nsIn K Dk_dump "outside" = some (some (.none)))
  (za_is_jar_name : PySem.W.nsIn K mainGlobals "is_jar_name" = some (some (.ref Ais_jar_name)))
  (zl_is_jar_name : K.lookup Ais_jar_name = some ⟨oc_is_jar_name, od_is_jar_name, .func (PySem.W.fnOf "is_jar_name" "is_jar_name" (defArgs s_is_jar_name) (defBody s_is_jar_name) (defScope s_is_jar_name) .none kV_is_jar_name dc_is_jar_name pm_is_jar_name an_is_jar_name cd_is_jar_name ct_is_jar_name), sl_is_jar_name⟩)
  (zd_is_jar_name : PySem.W.codeIn K cd_is_jar_name "is_jar_name" = true)
  (zk_is_jar_name : PySem.W.keepIn K (.ref Ais_jar_name) = true)
  (za_check_name : PySem.W.nsIn K mainGlobals "check_name" = some (some (.ref Acheck_name)))
  (zl_check_name : K.lookup Acheck_name = some ⟨oc_check_name, od_check_name, .func (PySem.W.fnOf "check_name" "check_name" (defArgs s_check_name) (defBody s_check_name) (defScope s_check_name) .none kV_check_name dc_check_name pm_check_name an_check_name cd_check_name ct_check_name), sl_check_name⟩)
  (zd_check_name : PySem.W.codeIn K cd_check_name "check_name" = true)
  (zk_check_name : PySem.W.keepIn K (.ref Acheck_name) = true)
  (zl_Jar___init__ : K.lookup AJar___init__ = some ⟨oc_Jar___init__, od_Jar___init__, .func (PySem.W.fnOf "__init__" "Jar.__init__" (defArgs s_Jar___init__) (defBody s_Jar___init__) (defScope s_Jar___init__) (.ref T_Jar___init__) (.ref Dk_Jar___init__) dc_Jar___init__ pm_Jar___init__ an_Jar___init__ cd_Jar___init__ ct_Jar___init__), sl_Jar___init__⟩)
  (zd_Jar___init__ : PySem.W.codeIn K cd_Jar___init__ "Jar.__init__" = true)
  (zk_Jar___init__ : PySem.W.keepIn K (.ref AJar___init__) = true)
  (zT_Jar___init__ : K.lookup T_Jar___init__ = some ⟨clT_Jar___init__, diT_Jar___init__, .seq #[.none] nT_Jar___init__, slT_Jar___init__⟩)
  (zy_Jar___init___version : PySem.W.nsIn K Dk_Jar___init__ "version" = some (some (.int (4) tk_Jar___init___version)))
  (zl_Jar_names : K.lookup AJar_names = some ⟨oc_Jar_names, od_Jar_names, .func (PySem.W.fnOf "names" "Jar.names" (defArgs s_Jar_names) (defBody s_Jar_names) (defScope s_Jar_names) .none kV_Jar_names dc_Jar_names pm_Jar_names an_Jar_names cd_Jar_names ct_Jar_names), sl_Jar_names⟩)
  (zd_Jar_names : PySem.W.codeIn K cd_Jar_names "Jar.names" = true)
  (zk_Jar_names : PySem.W.keepIn K (.ref AJar_names) = true)
  (zl_Jar_version : K.lookup AJar_version = some ⟨oc_Jar_version, od_Jar_version, .func (PySem.W.fnOf "version" "Jar.version" (defArgs s_Jar_version) (defBody s_Jar_version) (defScope s_Jar_version) .none kV_Jar_version dc_Jar_version pm_Jar_version an_Jar_version cd_Jar_version ct_Jar_version), sl_Jar_version⟩)
  (zd_Jar_version : PySem.W.codeIn K cd_Jar_version "Jar.version" = true)
  (zk_Jar_version : PySem.W.keepIn K (.ref AJar_version) = true)
  (zl_Jar_total : K.lookup AJar_total = some ⟨oc_Jar_total, od_Jar_total, .func (PySem.W.fnOf "total" "Jar.total" (defArgs s_Jar_total) (defBody s_Jar_total) (defScope s_Jar_total) .none kV_Jar_total dc_Jar_total pm_Jar_total an_Jar_total cd_Jar_total ct_Jar_total), sl_Jar_total⟩)
  (zd_Jar_total : PySem.W.codeIn K cd_Jar_total "Jar.total" = true)
  (zk_Jar_total : PySem.W.keepIn K (.ref AJar_total) = true)
  (zl_Jar_changes : K.lookup AJar_changes = some ⟨oc_Jar_changes, od_Jar_changes, .func (PySem.W.fnOf "changes" "Jar.changes" (defArgs s_Jar_changes) (defBody s_Jar_changes) (defScope s_Jar_changes) .none kV_Jar_changes dc_Jar_changes pm_Jar_changes an_Jar_changes cd_Jar_changes ct_Jar_changes), sl_Jar_changes⟩)
  (zd_Jar_changes : PySem.W.codeIn K cd_Jar_changes "Jar.changes" = true)
  (zk_Jar_changes : PySem.W.keepIn K (.ref AJar_changes) = true)
  (zl_Jar_change_to : K.lookup AJar_change_to = some ⟨oc_Jar_change_to, od_Jar_change_to, .func (PySem.W.fnOf "change_to" "Jar.change_to" (defArgs s_Jar_change_to) (defBody s_Jar_change_to) (defScope s_Jar_change_to) .none kV_Jar_change_to dc_Jar_change_to pm_Jar_change_to an_Jar_change_to cd_Jar_change_to ct_Jar_change_to), sl_Jar_change_to⟩)
  (zd_Jar_change_to : PySem.W.codeIn K cd_Jar_change_to "Jar.change_to" = true)
  (zk_Jar_change_to : PySem.W.keepIn K (.ref AJar_change_to) = true)
  (zl_Jar_put : K.lookup AJar_put = some ⟨oc_Jar_put, od_Jar_put, .func (PySem.W.fnOf "put" "Jar.put" (defArgs s_Jar_put) (defBody s_Jar_put) (defScope s_Jar_put) .none kV_Jar_put dc_Jar_put pm_Jar_put an_Jar_put cd_Jar_put ct_Jar_put), sl_Jar_put⟩)
  (zd_Jar_put : PySem.W.codeIn K cd_Jar_put "Jar.put" = true)
  (zk_Jar_put : PySem.W.keepIn K (.ref AJar_put) = true)
  (zl_Jar_stream_of : K.lookup AJar_stream_of = some ⟨oc_Jar_stream_of, od_Jar_stream_of, .func (PySem.W.fnOf "stream_of" "Jar.stream_of" (defArgs s_Jar_stream_of) (defBody s_Jar_stream_of) (defScope s_Jar_stream_of) .none kV_Jar_stream_of dc_Jar_stream_of pm_Jar_stream_of an_Jar_stream_of cd_Jar_stream_of ct_Jar_stream_of), sl_Jar_stream_of⟩)
  (zd_Jar_stream_of : PySem.W.codeIn K cd_Jar_stream_of "Jar.stream_of" = true)
  (zk_Jar_stream_of : PySem.W.keepIn K (.ref AJar_stream_of) = true)
  (za__law_begin : PySem.W.nsIn K mainGlobals "_law_begin" = some (some (.ref A_law_begin)))
  (zl__law_begin : K.lookup A_law_begin = some ⟨oc__law_begin, od__law_begin, .func (PySem.W.fnOf "_law_begin" "_law_begin" (defArgs s__law_begin) (defBody s__law_begin) (defScope s__law_begin) .none kV__law_begin dc__law_begin pm__law_begin an__law_begin cd__law_begin ct__law_begin), sl__law_begin⟩)
  (zd__law_begin : PySem.W.codeIn K cd__law_begin "_law_begin" = true)
  (zk__law_begin : PySem.W.keepIn K (.ref A_law_begin) = true)
  (za__law_mixed : PySem.W.nsIn K mainGlobals "_law_mixed" = some (some (.ref A_law_mixed)))
  (zl__law_mixed : K.lookup A_law_mixed = some ⟨oc__law_mixed, od__law_mixed, .func (PySem.W.fnOf "_law_mixed" "_law_mixed" (defArgs s__law_mixed) (defBody s__law_mixed) (defScope s__law_mixed) .none kV__law_mixed dc__law_mixed pm__law_mixed an__law_mixed cd__law_mixed ct__law_mixed), sl__law_mixed⟩)
  (zd__law_mixed : PySem.W.codeIn K cd__law_mixed "_law_mixed" = true)
  (zk__law_mixed : PySem.W.keepIn K (.ref A_law_mixed) = true)
  (za__law_next : PySem.W.nsIn K mainGlobals "_law_next" = some (some (.ref A_law_next)))
  (zl__law_next : K.lookup A_law_next = some ⟨oc__law_next, od__law_next, .func (PySem.W.fnOf "_law_next" "_law_next" (defArgs s__law_next) (defBody s__law_next) (defScope s__law_next) .none kV__law_next dc__law_next pm__law_next an__law_next cd__law_next ct__law_next), sl__law_next⟩)
  (zd__law_next : PySem.W.codeIn K cd__law_next "_law_next" = true)
  (zk__law_next : PySem.W.keepIn K (.ref A_law_next) = true)
  (za__law_refusal : PySem.W.nsIn K mainGlobals "_law_refusal" = some (some (.ref A_law_refusal)))
  (zl__law_refusal : K.lookup A_law_refusal = some ⟨oc__law_refusal, od__law_refusal, .func (PySem.W.fnOf "_law_refusal" "_law_refusal" (defArgs s__law_refusal) (defBody s__law_refusal) (defScope s__law_refusal) .none kV__law_refusal dc__law_refusal pm__law_refusal an__law_refusal cd__law_refusal ct__law_refusal), sl__law_refusal⟩)
  (zd__law_refusal : PySem.W.codeIn K cd__law_refusal "_law_refusal" = true)
  (zk__law_refusal : PySem.W.keepIn K (.ref A_law_refusal) = true)
  (za__law_state : PySem.W.nsIn K mainGlobals "_law_state" = some (some (.ref A_law_state)))
  (zl__law_state : K.lookup A_law_state = some ⟨oc__law_state, od__law_state, .func (PySem.W.fnOf "_law_state" "_law_state" (defArgs s__law_state) (defBody s__law_state) (defScope s__law_state) .none kV__law_state dc__law_state pm__law_state an__law_state cd__law_state ct__law_state), sl__law_state⟩)
  (zd__law_state : PySem.W.codeIn K cd__law_state "_law_state" = true)
  (zk__law_state : PySem.W.keepIn K (.ref A_law_state) = true)
  (za__law_no_edit : PySem.W.nsIn K mainGlobals "_law_no_edit" = some (some (.ref A_law_no_edit)))
  (zl__law_no_edit : K.lookup A_law_no_edit = some ⟨oc__law_no_edit, od__law_no_edit, .func (PySem.W.fnOf "_law_no_edit" "_law_no_edit" (defArgs s__law_no_edit) (defBody s__law_no_edit) (defScope s__law_no_edit) .none kV__law_no_edit dc__law_no_edit pm__law_no_edit an__law_no_edit cd__law_no_edit ct__law_no_edit), sl__law_no_edit⟩)
  (zd__law_no_edit : PySem.W.codeIn K cd__law_no_edit "_law_no_edit" = true)
  (zk__law_no_edit : PySem.W.keepIn K (.ref A_law_no_edit) = true)
  (za__law_edit : PySem.W.nsIn K mainGlobals "_law_edit" = some (some (.ref A_law_edit)))
  (zl__law_edit : K.lookup A_law_edit = some ⟨oc__law_edit, od__law_edit, .func (PySem.W.fnOf "_law_edit" "_law_edit" (defArgs s__law_edit) (defBody s__law_edit) (defScope s__law_edit) .none kV__law_edit dc__law_edit pm__law_edit an__law_edit cd__law_edit ct__law_edit), sl__law_edit⟩)
  (zd__law_edit : PySem.W.codeIn K cd__law_edit "_law_edit" = true)
  (zk__law_edit : PySem.W.keepIn K (.ref A_law_edit) = true)
  (za__law_right : PySem.W.nsIn K mainGlobals "_law_right" = some (some (.ref A_law_right)))
  (zl__law_right : K.lookup A_law_right = some ⟨oc__law_right, od__law_right, .func (PySem.W.fnOf "_law_right" "_law_right" (defArgs s__law_right) (defBody s__law_right) (defScope s__law_right) .none kV__law_right dc__law_right pm__law_right an__law_right cd__law_right ct__law_right), sl__law_right⟩)
  (zd__law_right : PySem.W.codeIn K cd__law_right "_law_right" = true)
  (zk__law_right : PySem.W.keepIn K (.ref A_law_right) = true)
  (za_law : PySem.W.nsIn K mainGlobals "law" = some (some (.ref Alaw)))
  (zl_law : K.lookup Alaw = some ⟨oc_law, od_law, .func (PySem.W.fnOf "law" "law" (defArgs s_law) (defBody s_law) (defScope s_law) .none kV_law dc_law pm_law an_law cd_law ct_law), sl_law⟩)
  (zd_law : PySem.W.codeIn K cd_law "law" = true)
  (zk_law : PySem.W.keepIn K (.ref Alaw) = true)
  (za_JarError : PySem.W.nsIn K mainGlobals "JarError" = some (some (.ref AJarError)))
  (zt_JarError : PySem.W.typeIn K (.ref AJarError) = some (.type "type"))
  (zx_JarError : PySem.W.subIn K (.ref AJarError) (.type "BaseException") = some true)
  (zh_JarError : PySem.W.hasDictIn K AJarError = true)
  (za_InvalidEdit : PySem.W.nsIn K mainGlobals "InvalidEdit" = some (some (.ref AInvalidEdit)))
  (zt_InvalidEdit : PySem.W.typeIn K (.ref AInvalidEdit) = some (.type "type"))
  (zx_InvalidEdit : PySem.W.subIn K (.ref AInvalidEdit) (.type "BaseException") = some true)
  (zh_InvalidEdit : PySem.W.hasDictIn K AInvalidEdit = true)
  (zi_InvalidEdit : PySem.W.excInitIn K AInvalidEdit [.type "ValueError", .type "Exception", .type "BaseException", .type "object"] "ValueError.__new__" = true)
  (zo_InvalidEdit : PySem.W.excOver K AInvalidEdit [.type "ValueError", .type "Exception", .type "BaseException", .type "object"] = true)
  (zI_InvalidEdit : PySem.W.findIn K (.ref AInvalidEdit) "__init__" = some (some (.ref AInvalidEdit_i)))
  (zf_InvalidEdit : PySem.W.isFn K (.ref AInvalidEdit_i) = true)
  (zl_InvalidEdit : K.lookup AInvalidEdit_i = some ⟨oc_InvalidEdit, od_InvalidEdit, .func (PySem.W.ksFn "__init__" "InvalidEdit.__init__" (eiA ((["position"] : List Str).zip [⟨59, 23, 59, 31⟩]) ⟨59, 17, 59, 21⟩) (eiSup "invalid edit" ⟨60, 8, 60, 13⟩ ⟨60, 8, 60, 15⟩ ⟨60, 8, 60, 24⟩ ⟨60, 25, 60, 39⟩ ⟨60, 8, 60, 40⟩ :: setsB [("position", ⟨61, 8, 61, 12⟩, ⟨61, 8, 61, 21⟩, ⟨61, 24, 61, 32⟩, ⟨61, 8, 61, 32⟩)]) (eiS ["position"]) .none kV_InvalidEdit dc_InvalidEdit pm_InvalidEdit an_InvalidEdit (.ref AInvalidEdit_d) ct_InvalidEdit AInvalidEdit_c), sl_InvalidEdit⟩)
  (zq_InvalidEdit : PySem.W.codeIn K (.ref AInvalidEdit_d) "InvalidEdit.__init__" = true)
  (zs_InvalidEdit : PySem.W.ks_superIn K AInvalidEdit AInvalidEdit "__init__" = some (some (.builtin "ValueError.__init__")))
  (zB_InvalidEdit : PySem.W.subIn K (.ref AInvalidEdit) (.type "ValueError") = some true)
  (zST_InvalidEdit : PySem.W.nsIn K PySem.cStatics "thirdparty.any" = some none)
  (zA_InvalidEdit : PySem.W.findIn K (.ref AInvalidEdit) "__setattr__" = some (some (.builtin "object.__setattr__")))
  (zT_InvalidEdit_position : PySem.W.takerIn K AInvalidEdit "position" = some none)
  (zn_InvalidEdit_position : PySem.W.findIn K (.ref AInvalidEdit) "position" = some none)
  (zC_InvalidEdit : K.lookup AInvalidEdit_c = some ⟨cl_InvalidEdit, cld_InvalidEdit, .cell (some (.ref AInvalidEdit)), csl_InvalidEdit⟩)
  (zD_InvalidEdit : K.lookup AInvalidEdit_d = some ⟨ccl_InvalidEdit, cdd_InvalidEdit, .fields vs_InvalidEdit, ccs_InvalidEdit⟩)
  (zE_InvalidEdit : vs_InvalidEdit[2]? = some (.str P.main.file tf_InvalidEdit))
  (zM_InvalidEdit : PySem.W.mroIn K AInvalidEdit (.ref AInvalidEdit) = some true)
  (zN_InvalidEdit : (PySem.W.clsIn K AInvalidEdit).isSome = true)
  (zP_InvalidEdit : (P.main.scope.names.lookup ("super" : Str)).isSome = false)
  (zk_InvalidEdit : PySem.W.keepIn K (.ref AInvalidEdit) = true)
  (zga_InvalidEdit : PySem.W.findIn K (.ref AInvalidEdit) "__getattribute__" = some (some (.builtin "BaseException.__getattribute__")))
  (zgg_InvalidEdit : PySem.W.findIn K (.ref AInvalidEdit) "__getattr__" = some none)
  (zcc_InvalidEdit : PySem.W.findIn K (.ref AInvalidEdit) "__class__" = some (some (.builtin "object.__class__")))
  (zcg_InvalidEdit : PySem.W.specialIn K (.builtin "object.__class__") "__get__" = some (some (.builtin "getset_descriptor.__get__")))
  (zct_InvalidEdit : PySem.W.takesIn K (.builtin "object.__class__") = some true)
  (zmo_InvalidEdit : PySem.W.mroIn K AInvalidEdit (.type "object") = some true)
  (za_StateError : PySem.W.nsIn K mainGlobals "StateError" = some (some (.ref AStateError)))
  (zt_StateError : PySem.W.typeIn K (.ref AStateError) = some (.type "type"))
  (zx_StateError : PySem.W.subIn K (.ref AStateError) (.type "BaseException") = some true)
  (zh_StateError : PySem.W.hasDictIn K AStateError = true)
  (za_MissingError : PySem.W.nsIn K mainGlobals "MissingError" = some (some (.ref AMissingError)))
  (zt_MissingError : PySem.W.typeIn K (.ref AMissingError) = some (.type "type"))
  (zx_MissingError : PySem.W.subIn K (.ref AMissingError) (.type "BaseException") = some true)
  (zh_MissingError : PySem.W.hasDictIn K AMissingError = true)
  (zu_InvalidEdit_JarError : PySem.W.kitOne K (.ref AInvalidEdit) (.ref AJarError) = some true)
  (zv_InvalidEdit_JarError : PySem.W.exmOne K (.ref AInvalidEdit) (.ref AJarError) = some true)
  (zu_InvalidEdit_StateError : PySem.W.kitOne K (.ref AInvalidEdit) (.ref AStateError) = some false)
  (zv_InvalidEdit_StateError : PySem.W.exmOne K (.ref AInvalidEdit) (.ref AStateError) = some false)
  (zu_InvalidEdit_MissingError : PySem.W.kitOne K (.ref AInvalidEdit) (.ref AMissingError) = some false)
  (zv_InvalidEdit_MissingError : PySem.W.exmOne K (.ref AInvalidEdit) (.ref AMissingError) = some false)
  (zu_InvalidEdit_InvalidEdit : PySem.W.kitOne K (.ref AInvalidEdit) (.ref AInvalidEdit) = some true)
  (zv_InvalidEdit_InvalidEdit : PySem.W.exmOne K (.ref AInvalidEdit) (.ref AInvalidEdit) = some true)
  (zu_InvalidEdit_ValueError : PySem.W.kitOne K (.ref AInvalidEdit) (.type "ValueError") = some true)
  (zz_rows : rowsIn K AROWS = some rowsL)
  (zz_nums : KDL K par ANUMBERS numL)
  (zz_words : KDL K par AWORDS wordL)
  (zz_octrows : rowN K AOCTET_ROWS = some [.str "octets-line", .str "octets-wide"])
  (zz_linetexts : rowN K ALINE_TEXTS = some [.str "text-line", .str "outer-line"])
  (zz_w_NoneType : PySem.W.kitOne K (.type "NoneType") (.ref ANode) = some false)
  (zz_w_int : PySem.W.kitOne K (.type "int") (.ref ANode) = some false)
  (zz_w_str : PySem.W.kitOne K (.type "str") (.ref ANode) = some false) : Txt P K mg ⟨Ais_edit, ABatch___init__, ABatch___enter__, ABatch___exit__, Abatched_all, Abatched, Ais_integer, Ais_whole_atom, Ais_text, Ais_key, Ais_atom, Aholds_value, Arules_of, Aatom_form, ANodeView___init__, ANodeView_shape_of, ANodeView_label, ANodeView_plain, ADrafting___init__, ADrafting_add, ADrafting_put, ADrafting_enter_value, ADrafting_write, ADrafting_write_atom, ADrafting_write_text, Ainteger_name, Atext_name, Afull_rows, Aleast_rows, Anamed_rows, Atext_octets, Aline_octets, Awide_octets, Arow_of, Aargument_form, Ais_version, Acheck_version, Aargument_octets, Aencoded, Aframed, Alaid_out, Asealed, Adump, Ais_jar_name, Acheck_name, AJar___init__, AJar_names, AJar_version, AJar_total, AJar_changes, AJar_change_to, AJar_put, AJar_stream_of, A_law_begin, A_law_mixed, A_law_next, A_law_refusal, A_law_state, A_law_no_edit, A_law_edit, A_law_right, Alaw, AJarError, AInvalidEdit, AStateError, AMissingError, ABatch, ANode, ANodeView, ADrafting, AJar, AInvalidEdit_i, AInvalidEdit_c, AInvalidEdit_d, AJar_names_p, AJar_version_p, AJar_total_p, AJar_changes_p, AWORDS, ANUMBERS, AROWS, AOCTET_ROWS, ALINE_TEXTS, par⟩ := {
  g_Batch := PySem.W.mg_of X G za_Batch,
  c_Batch := ⟨zc1_Batch, zc2_Batch, zc3_Batch, zc4_Batch⟩,
  k_Batch := zk_Batch,
  e_Batch := ⟨ze1_Batch, ze2_Batch⟩,
  t_Batch := zt_Batch,
  m_Batch := ⟨zm1_Batch, zm2_Batch, zm3_Batch, zk_Batch⟩,
  p_Batch___enter__ := ⟨zp1_Batch___enter__, zp2_Batch___enter__, zp3_Batch___enter__⟩,
  p_Batch___exit__ := ⟨zp1_Batch___exit__, zp2_Batch___exit__, zp3_Batch___exit__⟩,
  n_Batch_target := zn_Batch_target,
  n_Batch_first_shelf := zn_Batch_first_shelf,
  n_Batch_first_layout := zn_Batch_first_layout,
  n_Batch_first_past := zn_Batch_first_past,
  n_Batch_shelf := zn_Batch_shelf,
  n_Batch_layout := zn_Batch_layout,
  n_Batch_past := zn_Batch_past,
  g_Node := PySem.W.mg_of X G za_Node,
  c_Node := ⟨zc1_Node, zc2_Node, zc3_Node, zc4_Node⟩,
  k_Node := zk_Node,
  e_Node := ⟨ze1_Node, ze2_Node⟩,
  t_Node := zt_Node,
  g_NodeView := PySem.W.mg_of X G za_NodeView,
  c_NodeView := ⟨zc1_NodeView, zc2_NodeView, zc3_NodeView, zc4_NodeView⟩,
  k_NodeView := zk_NodeView,
  e_NodeView := ⟨ze1_NodeView, ze2_NodeView⟩,
  t_NodeView := zt_NodeView,
  m_NodeView := ⟨zm1_NodeView, zm2_NodeView, zm3_NodeView, zk_NodeView⟩,
  p_NodeView_shape_of := ⟨zp1_NodeView_shape_of, zp2_NodeView_shape_of, zp3_NodeView_shape_of⟩,
  p_NodeView_label := ⟨zp1_NodeView_label, zp2_NodeView_label, zp3_NodeView_label⟩,
  p_NodeView_plain := ⟨zp1_NodeView_plain, zp2_NodeView_plain, zp3_NodeView_plain⟩,
  n_NodeView_rules := zn_NodeView_rules,
  n_NodeView_outside := zn_NodeView_outside,
  n_NodeView_answers := zn_NodeView_answers,
  g_Drafting := PySem.W.mg_of X G za_Drafting,
  c_Drafting := ⟨zc1_Drafting, zc2_Drafting, zc3_Drafting, zc4_Drafting⟩,
  k_Drafting := zk_Drafting,
  e_Drafting := ⟨ze1_Drafting, ze2_Drafting⟩,
  t_Drafting := zt_Drafting,
  m_Drafting := ⟨zm1_Drafting, zm2_Drafting, zm3_Drafting, zk_Drafting⟩,
  p_Drafting_add := ⟨zp1_Drafting_add, zp2_Drafting_add, zp3_Drafting_add⟩,
  p_Drafting_put := ⟨zp1_Drafting_put, zp2_Drafting_put, zp3_Drafting_put⟩,
  p_Drafting_enter_value := ⟨zp1_Drafting_enter_value, zp2_Drafting_enter_value, zp3_Drafting_enter_value⟩,
  p_Drafting_write := ⟨zp1_Drafting_write, zp2_Drafting_write, zp3_Drafting_write⟩,
  p_Drafting_write_atom := ⟨zp1_Drafting_write_atom, zp2_Drafting_write_atom, zp3_Drafting_write_atom⟩,
  p_Drafting_write_text := ⟨zp1_Drafting_write_text, zp2_Drafting_write_text, zp3_Drafting_write_text⟩,
  n_Drafting_view := zn_Drafting_view,
  n_Drafting_edition := zn_Drafting_edition,
  n_Drafting_given := zn_Drafting_given,
  n_Drafting_most := zn_Drafting_most,
  n_Drafting_rows := zn_Drafting_rows,
  n_Drafting_deep := zn_Drafting_deep,
  n_Drafting_begun := zn_Drafting_begun,
  g_Jar := PySem.W.mg_of X G za_Jar,
  c_Jar := ⟨zc1_Jar, zc2_Jar, zc3_Jar, zc4_Jar⟩,
  k_Jar := zk_Jar,
  e_Jar := ⟨ze1_Jar, ze2_Jar⟩,
  t_Jar := zt_Jar,
  m_Jar := ⟨zm1_Jar, zm2_Jar, zm3_Jar, zk_Jar⟩,
  p_Jar_names := ⟨zp1_Jar_names, zp2_Jar_names, zp3_Jar_names, ⟨_, zp4_Jar_names⟩⟩,
  p_Jar_version := ⟨zp1_Jar_version, zp2_Jar_version, zp3_Jar_version, ⟨_, zp4_Jar_version⟩⟩,
  p_Jar_total := ⟨zp1_Jar_total, zp2_Jar_total, zp3_Jar_total, ⟨_, zp4_Jar_total⟩⟩,
  p_Jar_changes := ⟨zp1_Jar_changes, zp2_Jar_changes, zp3_Jar_changes, ⟨_, zp4_Jar_changes⟩⟩,
  p_Jar_change_to := ⟨zp1_Jar_change_to, zp2_Jar_change_to, zp3_Jar_change_to⟩,
  p_Jar_put := ⟨zp1_Jar_put, zp2_Jar_put, zp3_Jar_put⟩,
  p_Jar_stream_of := ⟨zp1_Jar_stream_of, zp2_Jar_stream_of, zp3_Jar_stream_of⟩,
  n_Jar_known := zn_Jar_known,
  n_Jar_shelf := zn_Jar_shelf,
  n_Jar_layout := zn_Jar_layout,
  n_Jar_past := zn_Jar_past,
  g_WORDS := PySem.W.mg_of X G za_WORDS,
  g_NUMBERS := PySem.W.mg_of X G za_NUMBERS,
  g_ROWS := PySem.W.mg_of X G za_ROWS,
  g_OCTET_ROWS := PySem.W.mg_of X G za_OCTET_ROWS,
  g_LINE_TEXTS := PySem.W.mg_of X G za_LINE_TEXTS,
  b_ValueError := PySem.W.mg_none_of X G zb_ValueError,
  b_all := PySem.W.mg_none_of X G zb_all,
  b_bool := PySem.W.mg_none_of X G zb_bool,
  b_enumerate := PySem.W.mg_none_of X G zb_enumerate,
  b_int := PySem.W.mg_none_of X G zb_int,
  b_isinstance := PySem.W.mg_none_of X G zb_isinstance,
  b_len := PySem.W.mg_none_of X G zb_len,
  b_list := PySem.W.mg_none_of X G zb_list,
  b_min := PySem.W.mg_none_of X G zb_min,
  b_ord := PySem.W.mg_none_of X G zb_ord,
  b_property := PySem.W.mg_none_of X G zb_property,
  b_range := PySem.W.mg_none_of X G zb_range,
  b_repr := PySem.W.mg_none_of X G zb_repr,
  b_sorted := PySem.W.mg_none_of X G zb_sorted,
  b_str := PySem.W.mg_none_of X G zb_str,
  b_sum := PySem.W.mg_none_of X G zb_sum,
  b_tuple := PySem.W.mg_none_of X G zb_tuple,
  b_super := PySem.W.mg_none_of X G zb_super,
  c_MOST_INTEGER := ⟨_, PySem.W.mg_of X G zc_MOST_INTEGER⟩,
  c_MOST_CHARACTERS := ⟨_, PySem.W.mg_of X G zc_MOST_CHARACTERS⟩,
  c_MOST_OPEN := ⟨_, PySem.W.mg_of X G zc_MOST_OPEN⟩,
  c_LEAST_SHARED := ⟨_, PySem.W.mg_of X G zc_LEAST_SHARED⟩,
  c_NEWLINE := ⟨_, PySem.W.mg_of X G zc_NEWLINE⟩,
  c_FIRST := ⟨_, PySem.W.mg_of X G zc_FIRST⟩,
  c_MOST_OCTETS := ⟨_, PySem.W.mg_of X G zc_MOST_OCTETS⟩,
  c_LEAST_FRAME := ⟨_, PySem.W.mg_of X G zc_LEAST_FRAME⟩,
  c_MOST_NAMES := ⟨_, PySem.W.mg_of X G zc_MOST_NAMES⟩,
  g_is_edit := PySem.W.mg_of X G za_is_edit,
  k_is_edit := zk_is_edit,
  d_is_edit := ⟨_, fun_mk (st := s_is_edit) zl_is_edit zd_is_edit zk_is_edit, (fun_mk (st := s_is_edit) zl_is_edit zd_is_edit zk_is_edit).binds (ps := ["thing"]) fun _ _ _ _ _ _ us hl => match us, hl with | [_], _ => rfl⟩,
  k_Batch___init__ := zk_Batch___init__,
  d_Batch___init__ := ⟨_, fun_mk (st := s_Batch___init__) zl_Batch___init__ zd_Batch___init__ zk_Batch___init__, (fun_mk (st := s_Batch___init__) zl_Batch___init__ zd_Batch___init__ zk_Batch___init__).binds (ps := ["self", "jar"]) fun _ _ _ _ _ _ us hl => match us, hl with | [_, _], _ => rfl⟩,
  k_Batch___enter__ := zk_Batch___enter__,
  d_Batch___enter__ := ⟨_, fun_mk (st := s_Batch___enter__) zl_Batch___enter__ zd_Batch___enter__ zk_Batch___enter__, (fun_mk (st := s_Batch___enter__) zl_Batch___enter__ zd_Batch___enter__ zk_Batch___enter__).binds (ps := ["self"]) fun _ _ _ _ _ _ us hl => match us, hl with | [_], _ => rfl⟩,
  k_Batch___exit__ := zk_Batch___exit__,
  d_Batch___exit__ := ⟨_, fun_mk (st := s_Batch___exit__) zl_Batch___exit__ zd_Batch___exit__ zk_Batch___exit__, (fun_mk (st := s_Batch___exit__) zl_Batch___exit__ zd_Batch___exit__ zk_Batch___exit__).binds (ps := ["self", "kind", "value", "trace"]) fun _ _ _ _ _ _ us hl => match us, hl with | [_, _, _, _], _ => rfl⟩,
  g_batched_all := PySem.W.mg_of X G za_batched_all,
  k_batched_all := zk_batched_all,
  d_batched_all := ⟨_, fun_mk (st := s_batched_all) zl_batched_all zd_batched_all zk_batched_all, (fun_mk (st := s_batched_all) zl_batched_all zd_batched_all zk_batched_all).binds (ps := ["jar", "edits"]) fun _ _ _ _ _ _ us hl => match us, hl with | [_, _], _ => rfl⟩,
  g_batched := PySem.W.mg_of X G za_batched,
  k_batched := zk_batched,
  d_batched := ⟨⟨_, _, _, _, _, _, _, _, _, _, zl_batched, zd_batched, StX.bind_star1 (B := fun l => bindArgs _ ⟨l, []⟩) (fun _ => rfl) (fun _ _ _ => rfl)⟩⟩,
  g_is_integer := PySem.W.mg_of X G za_is_integer,
  k_is_integer := zk_is_integer,
  d_is_integer := ⟨_, fun_mk (st := s_is_integer) zl_is_integer zd_is_integer zk_is_integer, (fun_mk (st := s_is_integer) zl_is_integer zd_is_integer zk_is_integer).binds (ps := ["thing"]) fun _ _ _ _ _ _ us hl => match us, hl with | [_], _ => rfl⟩,
  g_is_whole_atom := PySem.W.mg_of X G za_is_whole_atom,
  k_is_whole_atom := zk_is_whole_atom,
  d_is_whole_atom := ⟨_, fun_mk (st := s_is_whole_atom) zl_is_whole_atom zd_is_whole_atom zk_is_whole_atom, (fun_mk (st := s_is_whole_atom) zl_is_whole_atom zd_is_whole_atom zk_is_whole_atom).binds (ps := ["thing"]) fun _ _ _ _ _ _ us hl => match us, hl with | [_], _ => rfl⟩,
  g_is_text := PySem.W.mg_of X G za_is_text,
  k_is_text := zk_is_text,
  d_is_text := ⟨_, fun_mk (st := s_is_text) zl_is_text zd_is_text zk_is_text, (fun_mk (st := s_is_text) zl_is_text zd_is_text zk_is_text).binds (ps := ["thing"]) fun _ _ _ _ _ _ us hl => match us, hl with | [_], _ => rfl⟩,
  g_is_key := PySem.W.mg_of X G za_is_key,
  k_is_key := zk_is_key,
  d_is_key := ⟨_, fun_mk (st := s_is_key) zl_is_key zd_is_key zk_is_key, (fun_mk (st := s_is_key) zl_is_key zd_is_key zk_is_key).binds (ps := ["thing"]) fun _ _ _ _ _ _ us hl => match us, hl with | [_], _ => rfl⟩,
  g_is_atom := PySem.W.mg_of X G za_is_atom,
  k_is_atom := zk_is_atom,
  d_is_atom := ⟨_, fun_mk (st := s_is_atom) zl_is_atom zd_is_atom zk_is_atom, (fun_mk (st := s_is_atom) zl_is_atom zd_is_atom zk_is_atom).binds (ps := ["thing"]) fun _ _ _ _ _ _ us hl => match us, hl with | [_], _ => rfl⟩,
  g_holds_value := PySem.W.mg_of X G za_holds_value,
  k_holds_value := zk_holds_value,
  d_holds_value := ⟨_, fun_mk (st := s_holds_value) zl_holds_value zd_holds_value zk_holds_value, (fun_mk (st := s_holds_value) zl_holds_value zd_holds_value zk_holds_value).binds (ps := ["thing"]) fun _ _ _ _ _ _ us hl => match us, hl with | [_], _ => rfl⟩,
  g_rules_of := PySem.W.mg_of X G za_rules_of,
  k_rules_of := zk_rules_of,
  d_rules_of := ⟨_, fun_mk (st := s_rules_of) zl_rules_of zd_rules_of zk_rules_of, (fun_mk (st := s_rules_of) zl_rules_of zd_rules_of zk_rules_of).binds (ps := ["registry"]) fun _ _ _ _ _ _ us hl => match us, hl with | [_], _ => rfl⟩,
  g_atom_form := PySem.W.mg_of X G za_atom_form,
  k_atom_form := zk_atom_form,
  d_atom_form := ⟨_, fun_mk (st := s_atom_form) zl_atom_form zd_atom_form zk_atom_form, (fun_mk (st := s_atom_form) zl_atom_form zd_atom_form zk_atom_form).binds (ps := ["atom"]) fun _ _ _ _ _ _ us hl => match us, hl with | [_], _ => rfl⟩,
  k_NodeView___init__ := zk_NodeView___init__,
  d_NodeView___init__ := ⟨_, fun_mk (st := s_NodeView___init__) zl_NodeView___init__ zd_NodeView___init__ zk_NodeView___init__, (fun_mk (st := s_NodeView___init__) zl_NodeView___init__ zd_NodeView___init__ zk_NodeView___init__).binds (ps := ["self", "registry", "outside"]) fun _ _ _ _ _ _ us hl => match us, hl with | [_, _, _], _ => rfl⟩,
  k_NodeView_shape_of := zk_NodeView_shape_of,
  d_NodeView_shape_of := ⟨_, fun_mk (st := s_NodeView_shape_of) zl_NodeView_shape_of zd_NodeView_shape_of zk_NodeView_shape_of, (fun_mk (st := s_NodeView_shape_of) zl_NodeView_shape_of zd_NodeView_shape_of zk_NodeView_shape_of).binds (ps := ["self", "value"]) fun _ _ _ _ _ _ us hl => match us, hl with | [_, _], _ => rfl⟩,
  k_NodeView_label := zk_NodeView_label,
  d_NodeView_label := ⟨_, fun_mk (st := s_NodeView_label) zl_NodeView_label zd_NodeView_label zk_NodeView_label, (fun_mk (st := s_NodeView_label) zl_NodeView_label zd_NodeView_label zk_NodeView_label).binds (ps := ["self", "value"]) fun _ _ _ _ _ _ us hl => match us, hl with | [_, _], _ => rfl⟩,
  k_NodeView_plain := zk_NodeView_plain,
  d_NodeView_plain := ⟨_, fun_mk (st := s_NodeView_plain) zl_NodeView_plain zd_NodeView_plain zk_NodeView_plain, (fun_mk (st := s_NodeView_plain) zl_NodeView_plain zd_NodeView_plain zk_NodeView_plain).binds (ps := ["self", "value", "form"]) fun _ _ _ _ _ _ us hl => match us, hl with | [_, _, _], _ => rfl⟩,
  k_Drafting___init__ := zk_Drafting___init__,
  d_Drafting___init__ := ⟨_, fun_mk (st := s_Drafting___init__) zl_Drafting___init__ zd_Drafting___init__ zk_Drafting___init__, (fun_mk (st := s_Drafting___init__) zl_Drafting___init__ zd_Drafting___init__ zk_Drafting___init__).binds (ps := ["self", "view", "version", "numbers", "most"]) fun _ _ _ _ _ _ us hl => match us, hl with | [_, _, _, _, _], _ => rfl⟩,
  k_Drafting_add := zk_Drafting_add,
  d_Drafting_add := ⟨_, ⟨⟨_, _, _, _, _, _, _, _, _, _, rfl, zl_Drafting_add, zd_Drafting_add, (.inr ⟨(fun z => nomatch z), _, _, [.none], _, rfl, zT_Drafting_add, rfl, (.cons rfl .nil)⟩), (.inl rfl)⟩, zk_Drafting_add⟩⟩,
  k_Drafting_put := zk_Drafting_put,
  d_Drafting_put := ⟨_, fun_mk (st := s_Drafting_put) zl_Drafting_put zd_Drafting_put zk_Drafting_put, (fun_mk (st := s_Drafting_put) zl_Drafting_put zd_Drafting_put zk_Drafting_put).binds (ps := ["self", "thing"]) fun _ _ _ _ _ _ us hl => match us, hl with | [_, _], _ => rfl⟩,
  k_Drafting_enter_value := zk_Drafting_enter_value,
  d_Drafting_enter_value := ⟨_, fun_mk (st := s_Drafting_enter_value) zl_Drafting_enter_value zd_Drafting_enter_value zk_Drafting_enter_value, (fun_mk (st := s_Drafting_enter_value) zl_Drafting_enter_value zd_Drafting_enter_value zk_Drafting_enter_value).binds (ps := ["self"]) fun _ _ _ _ _ _ us hl => match us, hl with | [_], _ => rfl⟩,
  k_Drafting_write := zk_Drafting_write,
  d_Drafting_write := ⟨_, fun_mk (st := s_Drafting_write) zl_Drafting_write zd_Drafting_write zk_Drafting_write, (fun_mk (st := s_Drafting_write) zl_Drafting_write zd_Drafting_write zk_Drafting_write).binds (ps := ["self", "value"]) fun _ _ _ _ _ _ us hl => match us, hl with | [_, _], _ => rfl⟩,
  k_Drafting_write_atom := zk_Drafting_write_atom,
  d_Drafting_write_atom := ⟨_, fun_mk (st := s_Drafting_write_atom) zl_Drafting_write_atom zd_Drafting_write_atom zk_Drafting_write_atom, (fun_mk (st := s_Drafting_write_atom) zl_Drafting_write_atom zd_Drafting_write_atom zk_Drafting_write_atom).binds (ps := ["self", "atom", "form"]) fun _ _ _ _ _ _ us hl => match us, hl with | [_, _, _], _ => rfl⟩,
  k_Drafting_write_text := zk_Drafting_write_text,
  d_Drafting_write_text := ⟨_, fun_mk (st := s_Drafting_write_text) zl_Drafting_write_text zd_Drafting_write_text zk_Drafting_write_text, (fun_mk (st := s_Drafting_write_text) zl_Drafting_write_text zd_Drafting_write_text zk_Drafting_write_text).binds (ps := ["self", "text"]) fun _ _ _ _ _ _ us hl => match us, hl with | [_, _], _ => rfl⟩,
  g_integer_name := PySem.W.mg_of X G za_integer_name,
  k_integer_name := zk_integer_name,
  d_integer_name := ⟨_, fun_mk (st := s_integer_name) zl_integer_name zd_integer_name zk_integer_name, (fun_mk (st := s_integer_name) zl_integer_name zd_integer_name zk_integer_name).binds (ps := ["integer", "version"]) fun _ _ _ _ _ _ us hl => match us, hl with | [_, _], _ => rfl⟩,
  g_text_name := PySem.W.mg_of X G za_text_name,
  k_text_name := zk_text_name,
  d_text_name := ⟨_, fun_mk (st := s_text_name) zl_text_name zd_text_name zk_text_name, (fun_mk (st := s_text_name) zl_text_name zd_text_name zk_text_name).binds (ps := ["text", "version"]) fun _ _ _ _ _ _ us hl => match us, hl with | [_, _], _ => rfl⟩,
  g_full_rows := PySem.W.mg_of X G za_full_rows,
  k_full_rows := zk_full_rows,
  d_full_rows := ⟨_, ⟨⟨_, _, _, _, _, _, _, _, _, _, rfl, zl_full_rows, zd_full_rows, (.inr ⟨(fun z => nomatch z), _, _, [.none], _, rfl, zT_full_rows, rfl, (.cons rfl .nil)⟩), (.inl rfl)⟩, zk_full_rows⟩⟩,
  g_least_rows := PySem.W.mg_of X G za_least_rows,
  k_least_rows := zk_least_rows,
  d_least_rows := ⟨_, fun_mk (st := s_least_rows) zl_least_rows zd_least_rows zk_least_rows, (fun_mk (st := s_least_rows) zl_least_rows zd_least_rows zk_least_rows).binds (ps := ["rows"]) fun _ _ _ _ _ _ us hl => match us, hl with | [_], _ => rfl⟩,
  g_named_rows := PySem.W.mg_of X G za_named_rows,
  k_named_rows := zk_named_rows,
  d_named_rows := ⟨_, fun_mk (st := s_named_rows) zl_named_rows zd_named_rows zk_named_rows, (fun_mk (st := s_named_rows) zl_named_rows zd_named_rows zk_named_rows).binds (ps := ["rows", "version"]) fun _ _ _ _ _ _ us hl => match us, hl with | [_, _], _ => rfl⟩,
  g_text_octets := PySem.W.mg_of X G za_text_octets,
  k_text_octets := zk_text_octets,
  d_text_octets := ⟨_, fun_mk (st := s_text_octets) zl_text_octets zd_text_octets zk_text_octets, (fun_mk (st := s_text_octets) zl_text_octets zd_text_octets zk_text_octets).binds (ps := ["text"]) fun _ _ _ _ _ _ us hl => match us, hl with | [_], _ => rfl⟩,
  g_line_octets := PySem.W.mg_of X G za_line_octets,
  k_line_octets := zk_line_octets,
  d_line_octets := ⟨_, fun_mk (st := s_line_octets) zl_line_octets zd_line_octets zk_line_octets, (fun_mk (st := s_line_octets) zl_line_octets zd_line_octets zk_line_octets).binds (ps := ["text"]) fun _ _ _ _ _ _ us hl => match us, hl with | [_], _ => rfl⟩,
  g_wide_octets := PySem.W.mg_of X G za_wide_octets,
  k_wide_octets := zk_wide_octets,
  d_wide_octets := ⟨_, fun_mk (st := s_wide_octets) zl_wide_octets zd_wide_octets zk_wide_octets, (fun_mk (st := s_wide_octets) zl_wide_octets zd_wide_octets zk_wide_octets).binds (ps := ["number"]) fun _ _ _ _ _ _ us hl => match us, hl with | [_], _ => rfl⟩,
  g_row_of := PySem.W.mg_of X G za_row_of,
  k_row_of := zk_row_of,
  d_row_of := ⟨_, fun_mk (st := s_row_of) zl_row_of zd_row_of zk_row_of, (fun_mk (st := s_row_of) zl_row_of zd_row_of zk_row_of).binds (ps := ["name"]) fun _ _ _ _ _ _ us hl => match us, hl with | [_], _ => rfl⟩,
  g_argument_form := PySem.W.mg_of X G za_argument_form,
  k_argument_form := zk_argument_form,
  d_argument_form := ⟨_, fun_mk (st := s_argument_form) zl_argument_form zd_argument_form zk_argument_form, (fun_mk (st := s_argument_form) zl_argument_form zd_argument_form zk_argument_form).binds (ps := ["name"]) fun _ _ _ _ _ _ us hl => match us, hl with | [_], _ => rfl⟩,
  g_is_version := PySem.W.mg_of X G za_is_version,
  k_is_version := zk_is_version,
  d_is_version := ⟨_, fun_mk (st := s_is_version) zl_is_version zd_is_version zk_is_version, (fun_mk (st := s_is_version) zl_is_version zd_is_version zk_is_version).binds (ps := ["thing"]) fun _ _ _ _ _ _ us hl => match us, hl with | [_], _ => rfl⟩,
  g_check_version := PySem.W.mg_of X G za_check_version,
  k_check_version := zk_check_version,
  d_check_version := ⟨_, fun_mk (st := s_check_version) zl_check_version zd_check_version zk_check_version, (fun_mk (st := s_check_version) zl_check_version zd_check_version zk_check_version).binds (ps := ["version"]) fun _ _ _ _ _ _ us hl => match us, hl with | [_], _ => rfl⟩,
  g_argument_octets := PySem.W.mg_of X G za_argument_octets,
  k_argument_octets := zk_argument_octets,
  d_argument_octets := ⟨_, fun_mk (st := s_argument_octets) zl_argument_octets zd_argument_octets zk_argument_octets, (fun_mk (st := s_argument_octets) zl_argument_octets zd_argument_octets zk_argument_octets).binds (ps := ["name", "argument"]) fun _ _ _ _ _ _ us hl => match us, hl with | [_, _], _ => rfl⟩,
  g_encoded := PySem.W.mg_of X G za_encoded,
  k_encoded := zk_encoded,
  d_encoded := ⟨_, fun_mk (st := s_encoded) zl_encoded zd_encoded zk_encoded, (fun_mk (st := s_encoded) zl_encoded zd_encoded zk_encoded).binds (ps := ["name", "argument"]) fun _ _ _ _ _ _ us hl => match us, hl with | [_, _], _ => rfl⟩,
  g_framed := PySem.W.mg_of X G za_framed,
  k_framed := zk_framed,
  d_framed := ⟨_, fun_mk (st := s_framed) zl_framed zd_framed zk_framed, (fun_mk (st := s_framed) zl_framed zd_framed zk_framed).binds (ps := ["pieces"]) fun _ _ _ _ _ _ us hl => match us, hl with | [_], _ => rfl⟩,
  g_laid_out := PySem.W.mg_of X G za_laid_out,
  k_laid_out := zk_laid_out,
  d_laid_out := ⟨_, fun_mk (st := s_laid_out) zl_laid_out zd_laid_out zk_laid_out, (fun_mk (st := s_laid_out) zl_laid_out zd_laid_out zk_laid_out).binds (ps := ["rows", "version"]) fun _ _ _ _ _ _ us hl => match us, hl with | [_, _], _ => rfl⟩,
  g_sealed := PySem.W.mg_of X G za_sealed,
  k_sealed := zk_sealed,
  d_sealed := ⟨_, fun_mk (st := s_sealed) zl_sealed zd_sealed zk_sealed, (fun_mk (st := s_sealed) zl_sealed zd_sealed zk_sealed).binds (ps := ["rows", "version"]) fun _ _ _ _ _ _ us hl => match us, hl with | [_, _], _ => rfl⟩,
  g_dump := PySem.W.mg_of X G za_dump,
  k_dump := zk_dump,
  d_dump := ⟨_, ⟨⟨_, _, _, _, _, _, _, _, _, _, rfl, zl_dump, zd_dump, (.inr ⟨(fun z => nomatch z), _, _, [.none], _, rfl, zT_dump, rfl, (.cons rfl .nil)⟩), (.inr ⟨_, rfl, (List.forall_mem_cons.mpr ⟨⟨_, zy_dump_version, ⟨_, rfl⟩⟩, (List.forall_mem_cons.mpr ⟨⟨_, zy_dump_outside, rfl⟩, (fun _ z => nomatch z)⟩)⟩)⟩)⟩, zk_dump⟩⟩,
  g_is_jar_name := PySem.W.mg_of X G za_is_jar_name,
  k_is_jar_name := zk_is_jar_name,
  d_is_jar_name := ⟨_, fun_mk (st := s_is_jar_name) zl_is_jar_name zd_is_jar_name zk_is_jar_name, (fun_mk (st := s_is_jar_name) zl_is_jar_name zd_is_jar_name zk_is_jar_name).binds (ps := ["thing"]) fun _ _ _ _ _ _ us hl => match us, hl with | [_], _ => rfl⟩,
  g_check_name := PySem.W.mg_of X G za_check_name,
  k_check_name := zk_check_name,
  d_check_name := ⟨_, fun_mk (st := s_check_name) zl_check_name zd_check_name zk_check_name, (fun_mk (st := s_check_name) zl_check_name zd_check_name zk_check_name).binds (ps := ["name"]) fun _ _ _ _ _ _ us hl => match us, hl with | [_], _ => rfl⟩,
  k_Jar___init__ := zk_Jar___init__,
  d_Jar___init__ := ⟨_, ⟨⟨_, _, _, _, _, _, _, _, _, _, rfl, zl_Jar___init__, zd_Jar___init__, (.inr ⟨(fun z => nomatch z), _, _, [.none], _, rfl, zT_Jar___init__, rfl, (.cons rfl .nil)⟩), (.inr ⟨_, rfl, (List.forall_mem_cons.mpr ⟨⟨_, zy_Jar___init___version, ⟨_, rfl⟩⟩, (fun _ z => nomatch z)⟩)⟩)⟩, zk_Jar___init__⟩⟩,
  k_Jar_names := zk_Jar_names,
  d_Jar_names := ⟨_, fun_mk (st := s_Jar_names) zl_Jar_names zd_Jar_names zk_Jar_names, (fun_mk (st := s_Jar_names) zl_Jar_names zd_Jar_names zk_Jar_names).binds (ps := ["self"]) fun _ _ _ _ _ _ us hl => match us, hl with | [_], _ => rfl⟩,
  k_Jar_version := zk_Jar_version,
  d_Jar_version := ⟨_, fun_mk (st := s_Jar_version) zl_Jar_version zd_Jar_version zk_Jar_version, (fun_mk (st := s_Jar_version) zl_Jar_version zd_Jar_version zk_Jar_version).binds (ps := ["self"]) fun _ _ _ _ _ _ us hl => match us, hl with | [_], _ => rfl⟩,
  k_Jar_total := zk_Jar_total,
  d_Jar_total := ⟨_, fun_mk (st := s_Jar_total) zl_Jar_total zd_Jar_total zk_Jar_total, (fun_mk (st := s_Jar_total) zl_Jar_total zd_Jar_total zk_Jar_total).binds (ps := ["self"]) fun _ _ _ _ _ _ us hl => match us, hl with | [_], _ => rfl⟩,
  k_Jar_changes := zk_Jar_changes,
  d_Jar_changes := ⟨_, fun_mk (st := s_Jar_changes) zl_Jar_changes zd_Jar_changes zk_Jar_changes, (fun_mk (st := s_Jar_changes) zl_Jar_changes zd_Jar_changes zk_Jar_changes).binds (ps := ["self"]) fun _ _ _ _ _ _ us hl => match us, hl with | [_], _ => rfl⟩,
  k_Jar_change_to := zk_Jar_change_to,
  d_Jar_change_to := ⟨_, fun_mk (st := s_Jar_change_to) zl_Jar_change_to zd_Jar_change_to zk_Jar_change_to, (fun_mk (st := s_Jar_change_to) zl_Jar_change_to zd_Jar_change_to zk_Jar_change_to).binds (ps := ["self", "shelf", "version"]) fun _ _ _ _ _ _ us hl => match us, hl with | [_, _, _], _ => rfl⟩,
  k_Jar_put := zk_Jar_put,
  d_Jar_put := ⟨_, fun_mk (st := s_Jar_put) zl_Jar_put zd_Jar_put zk_Jar_put, (fun_mk (st := s_Jar_put) zl_Jar_put zd_Jar_put zk_Jar_put).binds (ps := ["self", "name", "value"]) fun _ _ _ _ _ _ us hl => match us, hl with | [_, _, _], _ => rfl⟩,
  k_Jar_stream_of := zk_Jar_stream_of,
  d_Jar_stream_of := ⟨_, fun_mk (st := s_Jar_stream_of) zl_Jar_stream_of zd_Jar_stream_of zk_Jar_stream_of, (fun_mk (st := s_Jar_stream_of) zl_Jar_stream_of zd_Jar_stream_of zk_Jar_stream_of).binds (ps := ["self", "name"]) fun _ _ _ _ _ _ us hl => match us, hl with | [_, _], _ => rfl⟩,
  g__law_begin := PySem.W.mg_of X G za__law_begin,
  k__law_begin := zk__law_begin,
  d__law_begin := ⟨_, fun_mk (st := s__law_begin) zl__law_begin zd__law_begin zk__law_begin, (fun_mk (st := s__law_begin) zl__law_begin zd__law_begin zk__law_begin).binds (ps := ["script"]) fun _ _ _ _ _ _ us hl => match us, hl with | [_], _ => rfl⟩,
  g__law_mixed := PySem.W.mg_of X G za__law_mixed,
  k__law_mixed := zk__law_mixed,
  d__law_mixed := ⟨_, fun_mk (st := s__law_mixed) zl__law_mixed zd__law_mixed zk__law_mixed, (fun_mk (st := s__law_mixed) zl__law_mixed zd__law_mixed zk__law_mixed).binds (ps := ["cell", "k"]) fun _ _ _ _ _ _ us hl => match us, hl with | [_, _], _ => rfl⟩,
  g__law_next := PySem.W.mg_of X G za__law_next,
  k__law_next := zk__law_next,
  d__law_next := ⟨_, fun_mk (st := s__law_next) zl__law_next zd__law_next zk__law_next, (fun_mk (st := s__law_next) zl__law_next zd__law_next zk__law_next).binds (ps := ["draw", "bound"]) fun _ _ _ _ _ _ us hl => match us, hl with | [_, _], _ => rfl⟩,
  g__law_refusal := PySem.W.mg_of X G za__law_refusal,
  k__law_refusal := zk__law_refusal,
  d__law_refusal := ⟨_, fun_mk (st := s__law_refusal) zl__law_refusal zd__law_refusal zk__law_refusal, (fun_mk (st := s__law_refusal) zl__law_refusal zd__law_refusal zk__law_refusal).binds (ps := ["jar", "edits", "is_one"]) fun _ _ _ _ _ _ us hl => match us, hl with | [_, _, _], _ => rfl⟩,
  g__law_state := PySem.W.mg_of X G za__law_state,
  k__law_state := zk__law_state,
  d__law_state := ⟨_, fun_mk (st := s__law_state) zl__law_state zd__law_state zk__law_state, (fun_mk (st := s__law_state) zl__law_state zd__law_state zk__law_state).binds (ps := ["jar"]) fun _ _ _ _ _ _ us hl => match us, hl with | [_], _ => rfl⟩,
  g__law_no_edit := PySem.W.mg_of X G za__law_no_edit,
  k__law_no_edit := zk__law_no_edit,
  d__law_no_edit := ⟨_, fun_mk (st := s__law_no_edit) zl__law_no_edit zd__law_no_edit zk__law_no_edit, (fun_mk (st := s__law_no_edit) zl__law_no_edit zd__law_no_edit zk__law_no_edit).binds (ps := ["draw"]) fun _ _ _ _ _ _ us hl => match us, hl with | [_], _ => rfl⟩,
  g__law_edit := PySem.W.mg_of X G za__law_edit,
  k__law_edit := zk__law_edit,
  d__law_edit := ⟨_, fun_mk (st := s__law_edit) zl__law_edit zd__law_edit zk__law_edit, (fun_mk (st := s__law_edit) zl__law_edit zd__law_edit zk__law_edit).binds (ps := ["draw"]) fun _ _ _ _ _ _ us hl => match us, hl with | [_], _ => rfl⟩,
  g__law_right := PySem.W.mg_of X G za__law_right,
  k__law_right := zk__law_right,
  d__law_right := ⟨_, fun_mk (st := s__law_right) zl__law_right zd__law_right zk__law_right, (fun_mk (st := s__law_right) zl__law_right zd__law_right zk__law_right).binds (ps := ["draw", "jar"]) fun _ _ _ _ _ _ us hl => match us, hl with | [_, _], _ => rfl⟩,
  g_law := PySem.W.mg_of X G za_law,
  k_law := zk_law,
  d_law := ⟨_, fun_mk (st := s_law) zl_law zd_law zk_law, (fun_mk (st := s_law) zl_law zd_law zk_law).binds (ps := ["script"]) fun _ _ _ _ _ _ us hl => match us, hl with | [_], _ => rfl⟩,
  g_JarError := PySem.W.mg_of X G za_JarError,
  x_JarError := zx_JarError,
  t_JarError := zt_JarError,
  h_JarError := zh_JarError,
  g_InvalidEdit := PySem.W.mg_of X G za_InvalidEdit,
  x_InvalidEdit := zx_InvalidEdit,
  t_InvalidEdit := zt_InvalidEdit,
  h_InvalidEdit := zh_InvalidEdit,
  n_InvalidEdit_position := zn_InvalidEdit_position,
  k_InvalidEdit := zk_InvalidEdit,
  e_InvalidEdit := ⟨famV, PySem.W.mg_of X G za_InvalidEdit, zi_InvalidEdit, zo_InvalidEdit, zh_InvalidEdit, zI_InvalidEdit, zf_InvalidEdit, zs_InvalidEdit, zB_InvalidEdit, zST_InvalidEdit, PySem.W.mg_none_of X G zb_super, zA_InvalidEdit, (by intro f hf; rcases List.mem_cons.mp hf with rfl | hf; exact zT_InvalidEdit_position; cases hf), ⟨_, _, _, zC_InvalidEdit⟩, ⟨_, _, _, _, _, zD_InvalidEdit, zE_InvalidEdit⟩, zM_InvalidEdit, Option.isSome_iff_exists.mp zN_InvalidEdit, zP_InvalidEdit⟩,
  i_InvalidEdit := ⟨⟨_, _, _, _, _, _, _, _, _, ⟨59, 17, 59, 21⟩, [⟨59, 23, 59, 31⟩], _, _, _, _, _, [("position", ⟨61, 8, 61, 12⟩, ⟨61, 8, 61, 21⟩, ⟨61, 24, 61, 32⟩, ⟨61, 8, 61, 32⟩)], zl_InvalidEdit, rfl, rfl, rfl⟩, zq_InvalidEdit, (by decide +kernel), by decide +kernel, ⟨(fun z => nomatch z), by decide⟩, (by rintro fd ⟨oc, od, osl, h⟩ u us hl; have q := h.symm.trans zl_InvalidEdit; cases q; exact match us, hl with | [_], _ => rfl)⟩,
  R_InvalidEdit := ⟨zN_InvalidEdit, zga_InvalidEdit, zgg_InvalidEdit, zx_InvalidEdit, zcc_InvalidEdit, zcg_InvalidEdit, zct_InvalidEdit, zmo_InvalidEdit, zh_InvalidEdit⟩,
  g_StateError := PySem.W.mg_of X G za_StateError,
  x_StateError := zx_StateError,
  t_StateError := zt_StateError,
  h_StateError := zh_StateError,
  g_MissingError := PySem.W.mg_of X G za_MissingError,
  x_MissingError := zx_MissingError,
  t_MissingError := zt_MissingError,
  h_MissingError := zh_MissingError,
  u_InvalidEdit_JarError := zu_InvalidEdit_JarError,
  v_InvalidEdit_JarError := zv_InvalidEdit_JarError,
  u_InvalidEdit_StateError := zu_InvalidEdit_StateError,
  v_InvalidEdit_StateError := zv_InvalidEdit_StateError,
  u_InvalidEdit_MissingError := zu_InvalidEdit_MissingError,
  v_InvalidEdit_MissingError := zv_InvalidEdit_MissingError,
  u_InvalidEdit_InvalidEdit := zu_InvalidEdit_InvalidEdit,
  v_InvalidEdit_InvalidEdit := zv_InvalidEdit_InvalidEdit,
  u_InvalidEdit_ValueError := zu_InvalidEdit_ValueError,
  rows := zz_rows,
  nums := zz_nums,
  words := zz_words,
  octrows := zz_octrows,
  linetexts := zz_linetexts,
  w_NoneType := zz_w_NoneType,
  w_int := zz_w_int,
  w_str := zz_w_str }
end BJL
open PySem PySem.W PyProof.Rows
namespace BJL
open PySem PySem.W PySem.Calls PyProof.Rows HandSHeadRun BJ
set_option maxHeartbeats 0
abbrev R0 : OpenRow := OpenLaw.row PySem.Challenge.rw_brinejar_k55_batches_refuse
abbrev PP : Program := PySem.Challenge.pw_brinejar_k55_batches_refuse
def E0 : Env := envTop PP 13 14
def C0 : Code := .body PP.main.body E0
def p1 : Program := { PP with main := { PP.main with body := PP.main.body.take 53 } }
def rw1 : OpenLaw := { PySem.Challenge.rw_brinejar_k55_batches_refuse with prog := p1 }
local macro_rules | `(tactic| o_headL $H) => `(tactic| (have hH := $H; contradiction))
theorem mk1 : False → OpenRow.Holds (OpenLaw.row rw1) := by
  intro hF; k_headL
def ex1 : List (Nat × Obj) := [(11, { cls := Value.type "tuple", data := Data.seq #[] }), (12, { cls := Value.none, data := Data.fields #[Value.int 1 0, Value.int 0 0, Value.ref 20, Value.int 5 0, Value.int 0 0, Value.ref 27, Value.int 7 0, Value.int 0 0, Value.ref 41, Value.int 12 0, Value.int 0 0, Value.ref 62, Value.int 17 0, Value.int 0 0, Value.ref 83, Value.int 22 0, Value.int 0 0, Value.ref 104, Value.int 27 0, Value.int 0 0, Value.ref 125, Value.int 32 0, Value.int 0 0, Value.ref 146, Value.int 37 0, Value.int 0 0, Value.ref 167, Value.int 42 0, Value.int 0 0, Value.ref 188, Value.int 47 0, Value.int 0 0, Value.ref 209, Value.int 52 0, Value.int 0 0, Value.ref 230, Value.int 57 0, Value.int 0 0, Value.ref 251, Value.int 62 0, Value.int 0 0, Value.ref 272, Value.int 68 0, Value.int 0 0, Value.ref 293, Value.int 73 0, Value.int 0 0, Value.ref 313, Value.int 75 0, Value.int 0 0, Value.ref 327, Value.int 80 0, Value.int 0 0, Value.ref 348, Value.int 85 0, Value.int 0 0, Value.ref 369, Value.int 90 0, Value.int 0 0, Value.ref 390, Value.int 95 0, Value.int 0 0, Value.ref 411, Value.int 100 0, Value.int 0 0, Value.ref 431, Value.int 102 0, Value.int 0 0, Value.ref 445, Value.int 107 0, Value.int 0 0, Value.ref 466, Value.int 112 0, Value.int 0 0, Value.ref 487, Value.int 117 0, Value.int 0 0, Value.ref 508, Value.int 124 0, Value.int 0 0, Value.ref 529, Value.int 128 0, Value.int 0 0, Value.ref 536, Value.int 144 0, Value.int 0 0, Value.ref 569, Value.int 155 0, Value.int 0 0, Value.ref 576, Value.int 164 0, Value.int 0 0, Value.ref 583, Value.int 167 0, Value.int 0 0, Value.ref 590, Value.int 176 0, Value.int 0 0, Value.ref 614, Value.int 178 0, Value.int 0 0, Value.ref 621, Value.int 180 0, Value.int 0 0, Value.ref 628, Value.int 182 0, Value.int 0 0, Value.ref 633, Value.int 194 0, Value.int 0 0, Value.ref 640, Value.int 196 0, Value.int 0 0, Value.ref 647, Value.int 198 0, Value.int 0 0, Value.ref 654, Value.int 200 0, Value.int 0 0, Value.ref 661] }), (13, { cls := Value.type "code", data := Data.fields #[Value.str (Str.ofString "<module>") 182, Value.str (Str.ofString "<module>") 183, Value.str (Str.ofString "/claim/cut.py") 184, Value.int 1 0, Value.int 0 0, Value.int 0 0, Value.int 0 0, Value.int 0 0, Value.ref 11, Value.bool false, Value.int 181 0, Value.ref 12, Value.none, Value.none, Value.none, Value.none, Value.int 185 0, Value.int 1 0, Value.str (Str.ofString "/claim/cut.py") 186] }), (14, { cls := Value.type "frame", slots := #[some (Value.ref 13), some (Value.ref 3), some (Value.ref 3), none, some (Value.str (Str.ofString "__main__") 164), none, some (Value.ref 0)] })]
def posK : Pos := { line := 200, col := 0, endLine := 201, endCol := 49 }
def q0 : Program := view R0.prog [172]
noncomputable def tK : Thread := restQ (PP.main.body.drop 53) E0 C0 posK default
theorem half_f : ∀ (w : World) (os : OsState), HalfAt R0.prog 7444 mk1.heap_1 ex1 663 1061 tK (w.withFollow "special-get-raises" false) os := by
  intro w os
  refine ⟨objOf (bootS (stepQ (denQ tabQ) R0.prog (w.withFollow "special-get-raises" false)) 7444 R0.prog (w.withFollow "special-get-raises" false) os), ?_⟩
  kernel_rfl
theorem half_t : ∀ (w : World) (os : OsState), HalfAt R0.prog 7444 mk1.heap_1 ex1 663 1061 tK (w.withFollow "special-get-raises" true) os := by
  intro w os
  refine ⟨objOf (bootS (stepQ (denQ tabQ) R0.prog (w.withFollow "special-get-raises" true)) 7444 R0.prog (w.withFollow "special-get-raises" true) os), ?_⟩
  kernel_rfl
theorem half : Half R0.prog 7444 mk1.heap_1 ex1 663 1061 tK := half_row "special-get-raises" half_f half_t
def p2 : Program := { PP with main := { PP.main with body := PP.main.body.take 110 } }
def rw2 : OpenLaw := { PySem.Challenge.rw_brinejar_k55_batches_refuse with prog := p2 }
theorem mk2 : False → OpenRow.Holds (OpenLaw.row rw2) := by
  intro hF; k_headL
def ex2 : List (Nat × Obj) := [(11, { cls := Value.type "tuple", data := Data.seq #[] }), (12, { cls := Value.none, data := Data.fields #[Value.int 1 0, Value.int 0 0, Value.ref 20, Value.int 5 0, Value.int 0 0, Value.ref 27, Value.int 7 0, Value.int 0 0, Value.ref 41, Value.int 12 0, Value.int 0 0, Value.ref 62, Value.int 17 0, Value.int 0 0, Value.ref 83, Value.int 22 0, Value.int 0 0, Value.ref 104, Value.int 27 0, Value.int 0 0, Value.ref 125, Value.int 32 0, Value.int 0 0, Value.ref 146, Value.int 37 0, Value.int 0 0, Value.ref 167, Value.int 42 0, Value.int 0 0, Value.ref 188, Value.int 47 0, Value.int 0 0, Value.ref 209, Value.int 52 0, Value.int 0 0, Value.ref 230, Value.int 57 0, Value.int 0 0, Value.ref 251, Value.int 62 0, Value.int 0 0, Value.ref 272, Value.int 68 0, Value.int 0 0, Value.ref 293, Value.int 73 0, Value.int 0 0, Value.ref 313, Value.int 75 0, Value.int 0 0, Value.ref 327, Value.int 80 0, Value.int 0 0, Value.ref 348, Value.int 85 0, Value.int 0 0, Value.ref 369, Value.int 90 0, Value.int 0 0, Value.ref 390, Value.int 95 0, Value.int 0 0, Value.ref 411, Value.int 100 0, Value.int 0 0, Value.ref 431, Value.int 102 0, Value.int 0 0, Value.ref 445, Value.int 107 0, Value.int 0 0, Value.ref 466, Value.int 112 0, Value.int 0 0, Value.ref 487, Value.int 117 0, Value.int 0 0, Value.ref 508, Value.int 124 0, Value.int 0 0, Value.ref 529, Value.int 128 0, Value.int 0 0, Value.ref 536, Value.int 144 0, Value.int 0 0, Value.ref 569, Value.int 155 0, Value.int 0 0, Value.ref 576, Value.int 164 0, Value.int 0 0, Value.ref 583, Value.int 167 0, Value.int 0 0, Value.ref 590, Value.int 176 0, Value.int 0 0, Value.ref 614, Value.int 178 0, Value.int 0 0, Value.ref 621, Value.int 180 0, Value.int 0 0, Value.ref 628, Value.int 182 0, Value.int 0 0, Value.ref 633, Value.int 194 0, Value.int 0 0, Value.ref 640, Value.int 196 0, Value.int 0 0, Value.ref 647, Value.int 198 0, Value.int 0 0, Value.ref 654, Value.int 200 0, Value.int 0 0, Value.ref 661, Value.int 202 0, Value.int 0 0, Value.ref 668, Value.int 204 0, Value.int 0 0, Value.ref 673, Value.int 208 0, Value.int 0 0, Value.ref 680, Value.int 210 0, Value.int 0 0, Value.ref 687, Value.int 212 0, Value.int 0 0, Value.ref 694, Value.int 215 0, Value.int 0 0, Value.ref 701, Value.int 218 0, Value.int 0 0, Value.ref 708, Value.int 221 0, Value.int 0 0, Value.ref 715, Value.int 229 0, Value.int 0 0, Value.ref 744, Value.int 245 0, Value.int 0 0, Value.ref 779, Value.int 258 0, Value.int 0 0, Value.ref 813, Value.int 269 0, Value.int 0 0, Value.ref 843, Value.int 287 0, Value.int 0 0, Value.ref 887, Value.int 331 0, Value.int 0 0, Value.ref 961, Value.int 333 0, Value.int 0 0, Value.ref 968, Value.int 360 0, Value.int 0 0, Value.ref 1020, Value.int 394 0, Value.int 0 0, Value.ref 1082, Value.int 399 0, Value.int 0 0, Value.ref 1089, Value.int 405 0, Value.int 0 0, Value.ref 1096, Value.int 450 0, Value.int 0 0, Value.ref 1152, Value.int 478 0, Value.int 0 0, Value.ref 1206, Value.int 629 0, Value.int 0 0, Value.ref 1308, Value.int 633 0, Value.int 0 0, Value.ref 1315, Value.int 637 0, Value.int 0 0, Value.ref 1322, Value.int 643 0, Value.int 0 0, Value.ref 1329, Value.int 647 0, Value.int 0 0, Value.ref 1337, Value.int 651 0, Value.int 0 0, Value.ref 1342, Value.int 663 0, Value.int 0 0, Value.ref 1349, Value.int 681 0, Value.int 0 0, Value.ref 1356, Value.int 683 0, Value.int 0 0, Value.ref 1363, Value.int 685 0, Value.int 0 0, Value.ref 1368, Value.int 687 0, Value.int 0 0, Value.ref 1373, Value.int 691 0, Value.int 0 0, Value.ref 1380, Value.int 693 0, Value.int 0 0, Value.ref 1387, Value.int 709 0, Value.int 0 0, Value.ref 1392, Value.int 717 0, Value.int 0 0, Value.ref 1397, Value.int 719 0, Value.int 0 0, Value.ref 1402, Value.int 725 0, Value.int 0 0, Value.ref 1409, Value.int 727 0, Value.int 0 0, Value.ref 1416, Value.int 732 0, Value.int 0 0, Value.ref 1423, Value.int 739 0, Value.int 0 0, Value.ref 1430] }), (13, { cls := Value.type "code", data := Data.fields #[Value.str (Str.ofString "<module>") 182, Value.str (Str.ofString "<module>") 183, Value.str (Str.ofString "/claim/cut.py") 184, Value.int 1 0, Value.int 0 0, Value.int 0 0, Value.int 0 0, Value.int 0 0, Value.ref 11, Value.bool false, Value.int 181 0, Value.ref 12, Value.none, Value.none, Value.none, Value.none, Value.int 185 0, Value.int 1 0, Value.str (Str.ofString "/claim/cut.py") 186] }), (14, { cls := Value.type "frame", slots := #[some (Value.ref 13), some (Value.ref 3), some (Value.ref 3), none, some (Value.str (Str.ofString "__main__") 164), none, some (Value.ref 0)] })]
def pos2 : Pos := { line := 749, col := 0, endLine := 749, endCol := 7 }
noncomputable def tK2 : Thread := restQ (PP.main.body.drop 110) E0 C0 pos2 default
theorem step_f : ∀ (w : World) (os : OsState), StepAt R0 7530 mk1.heap_1 ex1 663 1061 tK mk2.heap_1 ex2 1479 2331 tK2 (w.withFollow "special-get-raises" false) os := by
  intro w os x
  refine ⟨objOf2 (goS (stepQ (denQ tabQ) R0.prog (w.withFollow "special-get-raises" false)) 11 (bootAnn (w.withFollow "special-get-raises" false)) 7530 (midS mk1.heap_1 ex1 663 1061 (w.withFollow "special-get-raises" false) os x) tK), ?_⟩
  kernel_rfl
theorem step_t : ∀ (w : World) (os : OsState), StepAt R0 7530 mk1.heap_1 ex1 663 1061 tK mk2.heap_1 ex2 1479 2331 tK2 (w.withFollow "special-get-raises" true) os := by
  intro w os x
  refine ⟨objOf2 (goS (stepQ (denQ tabQ) R0.prog (w.withFollow "special-get-raises" true)) 11 (bootAnn (w.withFollow "special-get-raises" true)) 7530 (midS mk1.heap_1 ex1 663 1061 (w.withFollow "special-get-raises" true) os x) tK), ?_⟩
  kernel_rfl
theorem mk0 : False → OpenRow.Holds R0 := by
  intro hF; k_headL
def names0 : List PySem.Str := ["_wall", "__name__", "JarError", "InvalidValue", "InvalidNumbers", "InvalidKey", "InvalidBrand", "InvalidVersion", "InvalidStream", "InvalidLabel", "InvalidReduction", "InvalidMade", "InvalidName", "InvalidEdit", "Refused", "NotCanonical", "StateError", "TooDeep", "TooLong", "SelfArgument", "KeyTaken", "Full", "MissingError", "UnknownBrand", "NoEntry", "NoName", "NothingToUndo", "WORDS", "is_edit", "Batch"]
def names1 : List PySem.Str := ["make_edit", "batched_all", "batched", "Draft", "FORMS", "is_value_form", "can_be_put", "is_key_form", "keys_of", "MOST_INTEGER", "MOST_CHARACTERS", "MOST_NUMBERS", "MOST_BRAND", "BAG", "LETTERS", "OTHERS", "is_integer", "is_whole_atom", "is_text", "is_key", "is_atom", "is_brand", "is_octet", "holds_value", "check_value", "check_key", "check_label", "Node", "Octets", "Sequence"]
def names2 : List PySem.Str := ["Pack", "Row", "Book", "ascending", "Bag", "Thing", "rules_of", "MOST_OPEN", "LEAST_SHARED", "atom_form", "NodeView", "DraftView", "Drafting", "integer_name", "text_name", "put_row", "get_row", "full_rows", "least_rows", "named_rows", "NEWLINE", "BACKSLASH", "PERCENT", "LETTER_N", "CHARACTERS", "DIGITS", "HEX_DIGITS", "is_character", "sign_of", "text_octets"]
def names3 : List PySem.Str := ["text_in", "line_octets", "line_text_in", "decimal_in", "hex_octets", "hex_in", "wide_octets", "wide_in", "signed_octets", "signed_in", "FIRST", "ROWS", "NUMBERS", "row_of", "argument_form", "is_opcode_name", "is_opcode_number", "name_of", "since", "MOST_OCTETS", "MOST_NUMBER_instructions", "MOST_SHORT", "LEAST_FRAME", "VERSIONS", "MEMO", "OCTET_ROWS", "LINE_TEXTS", "TEXTS", "check_stream", "is_version"]
def names4 : List PySem.Str := ["check_version", "version_in", "line_argument", "argument_in", "is_argument", "argument_span", "is_opcode", "opcode_rows", "argument_octets", "encoded", "framed", "laid_out", "sealed", "dump", "FIXED", "EMPTY", "MOST_NUMBER_machine", "empty_node", "Machine", "run_all", "dry_result", "draft_rows", "canonical_octets", "first_change", "converted", "load", "MOST_NAMES", "is_jar_name", "check_name", "Jar"]
def names5 : List PySem.Str := ["_law_begin", "_law_mixed", "_law_next", "_law_refusal", "_law_state", "_law_no_edit", "_law_edit", "_law_right"]
def names0s : List PySem.Str := names0 ++ names1 ++ names2 ++ names3 ++ names4 ++ names5
noncomputable def as0 : List Addr := (mk0.heap_1 BJ.anyP).map (·.1)
theorem part1f : ∀ (w : World) (os : OsState), Part1 R0 3600 mk2.heap_1 ex2 1479 2331 tK2 (w.withFollow "special-get-raises" false) os := by
  intro w os x
  kernel_rfl
theorem part1t : ∀ (w : World) (os : OsState), Part1 R0 3600 mk2.heap_1 ex2 1479 2331 tK2 (w.withFollow "special-get-raises" true) os := by
  intro w os x
  kernel_rfl
theorem run1 : Run1 R0 (3600 + 7530 + 7444) := run1_cut (r := R0) (N := 7444) (j := 3600 + 7530) (K := mk1.heap_1) (ex := ex1) (n := 663) (toks := 1061) (t := tK) "special-get-raises" half (fun w os => part1_app (step_f w os) (part1f w os)) (fun w os => part1_app (step_t w os) (part1t w os))
theorem part2f : ∀ (w : World) (os : OsState), Part2 R0 q0 names0s 3600 mk2.heap_1 ex2 1479 2331 tK2 (w.withFollow "special-get-raises" false) os := by
  intro w os x
  kernel_rfl
theorem part2t : ∀ (w : World) (os : OsState), Part2 R0 q0 names0s 3600 mk2.heap_1 ex2 1479 2331 tK2 (w.withFollow "special-get-raises" true) os := by
  intro w os x
  kernel_rfl
theorem run2 : Run2 R0 (3600 + 7530 + 7444) q0 names0s := run2_cut (r := R0) (N := 7444) (j := 3600 + 7530) (K := mk1.heap_1) (ex := ex1) (n := 663) (toks := 1061) (t := tK) "special-get-raises" half (fun w os => part2_app (step_f w os) (part2f w os)) (fun w os => part2_app (step_t w os) (part2t w os))
theorem part3f : ∀ (w : World) (os : OsState), Part3 R0 as0 mk0.heap_1 3600 mk2.heap_1 ex2 1479 2331 tK2 (w.withFollow "special-get-raises" false) os := by
  intro w os x
  kernel_rfl
theorem part3t : ∀ (w : World) (os : OsState), Part3 R0 as0 mk0.heap_1 3600 mk2.heap_1 ex2 1479 2331 tK2 (w.withFollow "special-get-raises" true) os := by
  intro w os x
  kernel_rfl
theorem run3 : Run3 R0 (3600 + 7530 + 7444) as0 mk0.heap_1 := run3_cut (r := R0) (N := 7444) (j := 3600 + 7530) (K := mk1.heap_1) (ex := ex1) (n := 663) (toks := 1061) (t := tK) "special-get-raises" half (fun w os => part3_app (step_f w os) (part3f w os)) (fun w os => part3_app (step_t w os) (part3t w os))
theorem as0_eq : ∀ P, as0 = (mk0.heap_1 P).map (·.1) := fun P => by kernel_rfl
set_option maxHeartbeats 4000000
end BJL
local macro_rules | `(tactic| walk_at "fact") => `(tactic| first | k_is | ks_is | (first | rfl | kernel_rfl | decide +kernel))
set_option maxHeartbeats 0 in
theorem BJL.facts0 (w : World) (mg : Str → Option Value) (h : Heap) (KX : (BJL.mk0.heap_1 w.params).In h) (G : h.Ns mainGlobals mg) : ∃ a : BJL.Adr, a.par = w.params ∧ BJL.Txt PySem.Challenge.rw_brinejar_k55_batches_refuse.prog (BJL.mk0.heap_1 w.params) mg a := by
    refine ⟨?adr, ?hpar, ?txt⟩
    (case txt =>
    refine' BJL.all_mk KX G ?za_Batch ?zc1_Batch ?zc2_Batch ?zc3_Batch ?zc4_Batch ?zk_Batch ?ze1_Batch ?ze2_Batch ?zt_Batch ?zm1_Batch ?zm2_Batch ?zm3_Batch ?zp1_Batch___enter__ ?zp2_Batch___enter__ ?zp3_Batch___enter__ ?zp1_Batch___exit__ ?zp2_Batch___exit__ ?zp3_Batch___exit__ ?zn_Batch_target ?zn_Batch_first_shelf ?zn_Batch_first_layout ?zn_Batch_first_past ?zn_Batch_shelf ?zn_Batch_layout ?zn_Batch_past ?za_Node ?zc1_Node ?zc2_Node ?zc3_Node ?zc4_Node ?zk_Node ?ze1_Node ?ze2_Node ?zt_Node ?za_NodeView ?zc1_NodeView ?zc2_NodeView ?zc3_NodeView ?zc4_NodeView ?zk_NodeView ?ze1_NodeView ?ze2_NodeView ?zt_NodeView ?zm1_NodeView ?zm2_NodeView ?zm3_NodeView ?zp1_NodeView_shape_of ?zp2_NodeView_shape_of ?zp3_NodeView_shape_of ?zp1_NodeView_label ?zp2_NodeView_label ?zp3_NodeView_label ?zp1_NodeView_plain ?zp2_NodeView_plain ?zp3_NodeView_plain ?zn_NodeView_rules ?zn_NodeView_outside ?zn_NodeView_answers ?za_Drafting ?zc1_Drafting ?zc2_Drafting ?zc3_Drafting ?zc4_Drafting ?zk_Drafting ?ze1_Drafting ?ze2_Drafting ?zt_Drafting ?zm1_Drafting ?zm2_Drafting ?zm3_Drafting ?zp1_Drafting_add ?zp2_Drafting_add ?zp3_Drafting_add ?zp1_Drafting_put ?zp2_Drafting_put ?zp3_Drafting_put ?zp1_Drafting_enter_value ?zp2_Drafting_enter_value ?zp3_Drafting_enter_value ?zp1_Drafting_write ?zp2_Drafting_write ?zp3_Drafting_write ?zp1_Drafting_write_atom ?zp2_Drafting_write_atom ?zp3_Drafting_write_atom ?zp1_Drafting_write_text ?zp2_Drafting_write_text ?zp3_Drafting_write_text ?zn_Drafting_view ?zn_Drafting_edition ?zn_Drafting_given ?zn_Drafting_most ?zn_Drafting_rows ?zn_Drafting_deep ?zn_Drafting_begun ?za_Jar ?zc1_Jar ?zc2_Jar ?zc3_Jar ?zc4_Jar ?zk_Jar ?ze1_Jar ?ze2_Jar ?zt_Jar ?zm1_Jar ?zm2_Jar ?zm3_Jar ?zp1_Jar_names ?zp2_Jar_names ?zp3_Jar_names ?zp4_Jar_names ?zp1_Jar_version ?zp2_Jar_version ?zp3_Jar_version ?zp4_Jar_version ?zp1_Jar_total ?zp2_Jar_total ?zp3_Jar_total ?zp4_Jar_total ?zp1_Jar_changes ?zp2_Jar_changes ?zp3_Jar_changes ?zp4_Jar_changes ?zp1_Jar_change_to ?zp2_Jar_change_to ?zp3_Jar_change_to ?zp1_Jar_put ?zp2_Jar_put ?zp3_Jar_put ?zp1_Jar_stream_of ?zp2_Jar_stream_of ?zp3_Jar_stream_of ?zn_Jar_known ?zn_Jar_shelf ?zn_Jar_layout ?zn_Jar_past ?za_WORDS ?za_NUMBERS ?za_ROWS ?za_OCTET_ROWS ?za_LINE_TEXTS ?zb_ValueError ?zb_all ?zb_bool ?zb_enumerate ?zb_int ?zb_isinstance ?zb_len ?zb_list ?zb_min ?zb_ord ?zb_property ?zb_range ?zb_repr ?zb_sorted ?zb_str ?zb_sum ?zb_tuple ?zb_super ?zc_MOST_INTEGER ?zc_MOST_CHARACTERS ?zc_MOST_OPEN ?zc_LEAST_SHARED ?zc_NEWLINE ?zc_FIRST ?zc_MOST_OCTETS ?zc_LEAST_FRAME ?zc_MOST_NAMES ?za_is_edit ?zl_is_edit ?zd_is_edit ?zk_is_edit ?zl_Batch___init__ ?zd_Batch___init__ ?zk_Batch___init__ ?zl_Batch___enter__ ?zd_Batch___enter__ ?zk_Batch___enter__ ?zl_Batch___exit__ ?zd_Batch___exit__ ?zk_Batch___exit__ ?za_batched_all ?zl_batched_all ?zd_batched_all ?zk_batched_all ?za_batched ?zl_batched ?zd_batched ?zk_batched ?za_is_integer ?zl_is_integer ?zd_is_integer ?zk_is_integer ?za_is_whole_atom ?zl_is_whole_atom ?zd_is_whole_atom ?zk_is_whole_atom ?za_is_text ?zl_is_text ?zd_is_text ?zk_is_text ?za_is_key ?zl_is_key ?zd_is_key ?zk_is_key ?za_is_atom ?zl_is_atom ?zd_is_atom ?zk_is_atom ?za_holds_value ?zl_holds_value ?zd_holds_value ?zk_holds_value ?za_rules_of ?zl_rules_of ?zd_rules_of ?zk_rules_of ?za_atom_form ?zl_atom_form ?zd_atom_form ?zk_atom_form ?zl_NodeView___init__ ?zd_NodeView___init__ ?zk_NodeView___init__ ?zl_NodeView_shape_of ?zd_NodeView_shape_of ?zk_NodeView_shape_of ?zl_NodeView_label ?zd_NodeView_label ?zk_NodeView_label ?zl_NodeView_plain ?zd_NodeView_plain ?zk_NodeView_plain ?zl_Drafting___init__ ?zd_Drafting___init__ ?zk_Drafting___init__ ?zl_Drafting_add ?zd_Drafting_add ?zk_Drafting_add ?zT_Drafting_add ?zl_Drafting_put ?zd_Drafting_put ?zk_Drafting_put ?zl_Drafting_enter_value ?zd_Drafting_enter_value ?zk_Drafting_enter_value ?zl_Drafting_write ?zd_Drafting_write ?zk_Drafting_write ?zl_Drafting_write_atom ?zd_Drafting_write_atom ?zk_Drafting_write_atom ?zl_Drafting_write_text ?zd_Drafting_write_text ?zk_Drafting_write_text ?za_integer_name ?zl_integer_name ?zd_integer_name ?zk_integer_name ?za_text_name ?zl_text_name ?zd_text_name ?zk_text_name ?za_full_rows ?zl_full_rows ?zd_full_rows ?zk_full_rows ?zT_full_rows ?za_least_rows ?zl_least_rows ?zd_least_rows ?zk_least_rows ?za_named_rows ?zl_named_rows ?zd_named_rows ?zk_named_rows ?za_text_octets ?zl_text_octets ?zd_text_octets ?zk_text_octets ?za_line_octets ?zl_line_octets ?zd_line_octets ?zk_line_octets ?za_wide_octets ?zl_wide_octets ?zd_wide_octets ?zk_wide_octets ?za_row_of ?zl_row_of ?zd_row_of ?zk_row_of ?za_argument_form ?zl_argument_form ?zd_argument_form ?zk_argument_form ?za_is_version ?zl_is_version ?zd_is_version ?zk_is_version ?za_check_version ?zl_check_version ?zd_check_version ?zk_check_version ?za_argument_octets ?zl_argument_octets ?zd_argument_octets ?zk_argument_octets ?za_encoded ?zl_encoded ?zd_encoded ?zk_encoded ?za_framed ?zl_framed ?zd_framed ?zk_framed ?za_laid_out ?zl_laid_out ?zd_laid_out ?zk_laid_out ?za_sealed ?zl_sealed ?zd_sealed ?zk_sealed ?za_dump ?zl_dump ?zd_dump ?zk_dump ?zT_dump ?zy_dump_version ?zy_dump_outside ?za_is_jar_name ?zl_is_jar_name ?zd_is_jar_name ?zk_is_jar_name ?za_check_name ?zl_check_name ?zd_check_name ?zk_check_name ?zl_Jar___init__ ?zd_Jar___init__ ?zk_Jar___init__ ?zT_Jar___init__ ?zy_Jar___init___version ?zl_Jar_names ?zd_Jar_names ?zk_Jar_names ?zl_Jar_version ?zd_Jar_version ?zk_Jar_version ?zl_Jar_total ?zd_Jar_total ?zk_Jar_total ?zl_Jar_changes ?zd_Jar_changes ?zk_Jar_changes ?zl_Jar_change_to ?zd_Jar_change_to ?zk_Jar_change_to ?zl_Jar_put ?zd_Jar_put ?zk_Jar_put ?zl_Jar_stream_of ?zd_Jar_stream_of ?zk_Jar_stream_of ?za__law_begin ?zl__law_begin ?zd__law_begin ?zk__law_begin ?za__law_mixed ?zl__law_mixed ?zd__law_mixed ?zk__law_mixed ?za__law_next ?zl__law_next ?zd__law_next ?zk__law_next ?za__law_refusal ?zl__law_refusal ?zd__law_refusal ?zk__law_refusal ?za__law_state ?zl__law_state ?zd__law_state ?zk__law_state ?za__law_no_edit ?zl__law_no_edit ?zd__law_no_edit ?zk__law_no_edit ?za__law_edit ?zl__law_edit ?zd__law_edit ?zk__law_edit ?za__law_right ?zl__law_right ?zd__law_right ?zk__law_right ?za_law ?zl_law ?zd_law ?zk_law ?za_JarError ?zt_JarError ?zx_JarError ?zh_JarError ?za_InvalidEdit ?zt_InvalidEdit ?zx_InvalidEdit ?zh_InvalidEdit ?zi_InvalidEdit ?zo_InvalidEdit ?zI_InvalidEdit ?zf_InvalidEdit ?zl_InvalidEdit ?zq_InvalidEdit ?zs_InvalidEdit ?zB_InvalidEdit ?zST_InvalidEdit ?zA_InvalidEdit ?zT_InvalidEdit_position ?zn_InvalidEdit_position ?zC_InvalidEdit ?zD_InvalidEdit ?zE_InvalidEdit ?zM_InvalidEdit ?zN_InvalidEdit ?zP_InvalidEdit ?zk_InvalidEdit ?zga_InvalidEdit ?zgg_InvalidEdit ?zcc_InvalidEdit ?zcg_InvalidEdit ?zct_InvalidEdit ?zmo_InvalidEdit ?za_StateError ?zt_StateError ?zx_StateError ?zh_StateError ?za_MissingError ?zt_MissingError ?zx_MissingError ?zh_MissingError ?zu_InvalidEdit_JarError ?zv_InvalidEdit_JarError ?zu_InvalidEdit_StateError ?zv_InvalidEdit_StateError ?zu_InvalidEdit_MissingError ?zv_InvalidEdit_MissingError ?zu_InvalidEdit_InvalidEdit ?zv_InvalidEdit_InvalidEdit ?zu_InvalidEdit_ValueError ?zz_rows ?zz_nums ?zz_words ?zz_octrows ?zz_linetexts ?zz_w_NoneType ?zz_w_int ?zz_w_str
    (case za_Batch => walk_at "fact")
    (case zc1_Batch => walk_at "fact")
    (case zc2_Batch => walk_at "fact")
    (case zc3_Batch => walk_at "fact")
    (case zc4_Batch => walk_at "fact")
    (case zk_Batch => walk_at "fact")
    (case ze1_Batch => walk_at "fact")
    (case ze2_Batch => walk_at "fact")
    (case zt_Batch => walk_at "fact")
    (case zm1_Batch => walk_at "fact")
    (case zm2_Batch => walk_at "fact")
    (case zm3_Batch => walk_at "fact")
    (case zp1_Batch___enter__ => walk_at "fact")
    (case zp2_Batch___enter__ => walk_at "fact")
    (case zp3_Batch___enter__ => walk_at "fact")
    (case zp1_Batch___exit__ => walk_at "fact")
    (case zp2_Batch___exit__ => walk_at "fact")
    (case zp3_Batch___exit__ => walk_at "fact")
    (case zn_Batch_target => walk_at "fact")
    (case zn_Batch_first_shelf => walk_at "fact")
    (case zn_Batch_first_layout => walk_at "fact")
    (case zn_Batch_first_past => walk_at "fact")
    (case zn_Batch_shelf => walk_at "fact")
    (case zn_Batch_layout => walk_at "fact")
    (case zn_Batch_past => walk_at "fact")
    (case za_Node => walk_at "fact")
    (case zc1_Node => walk_at "fact")
    (case zc2_Node => walk_at "fact")
    (case zc3_Node => walk_at "fact")
    (case zc4_Node => walk_at "fact")
    (case zk_Node => walk_at "fact")
    (case ze1_Node => walk_at "fact")
    (case ze2_Node => walk_at "fact")
    (case zt_Node => walk_at "fact")
    (case za_NodeView => walk_at "fact")
    (case zc1_NodeView => walk_at "fact")
    (case zc2_NodeView => walk_at "fact")
    (case zc3_NodeView => walk_at "fact")
    (case zc4_NodeView => walk_at "fact")
    (case zk_NodeView => walk_at "fact")
    (case ze1_NodeView => walk_at "fact")
    (case ze2_NodeView => walk_at "fact")
    (case zt_NodeView => walk_at "fact")
    (case zm1_NodeView => walk_at "fact")
    (case zm2_NodeView => walk_at "fact")
    (case zm3_NodeView => walk_at "fact")
    (case zp1_NodeView_shape_of => walk_at "fact")
    (case zp2_NodeView_shape_of => walk_at "fact")
    (case zp3_NodeView_shape_of => walk_at "fact")
    (case zp1_NodeView_label => walk_at "fact")
    (case zp2_NodeView_label => walk_at "fact")
    (case zp3_NodeView_label => walk_at "fact")
    (case zp1_NodeView_plain => walk_at "fact")
    (case zp2_NodeView_plain => walk_at "fact")
    (case zp3_NodeView_plain => walk_at "fact")
    (case zn_NodeView_rules => walk_at "fact")
    (case zn_NodeView_outside => walk_at "fact")
    (case zn_NodeView_answers => walk_at "fact")
    (case za_Drafting => walk_at "fact")
    (case zc1_Drafting => walk_at "fact")
    (case zc2_Drafting => walk_at "fact")
    (case zc3_Drafting => walk_at "fact")
    (case zc4_Drafting => walk_at "fact")
    (case zk_Drafting => walk_at "fact")
    (case ze1_Drafting => walk_at "fact")
    (case ze2_Drafting => walk_at "fact")
    (case zt_Drafting => walk_at "fact")
    (case zm1_Drafting => walk_at "fact")
    (case zm2_Drafting => walk_at "fact")
    (case zm3_Drafting => walk_at "fact")
    (case zp1_Drafting_add => walk_at "fact")
    (case zp2_Drafting_add => walk_at "fact")
    (case zp3_Drafting_add => walk_at "fact")
    (case zp1_Drafting_put => walk_at "fact")
    (case zp2_Drafting_put => walk_at "fact")
    (case zp3_Drafting_put => walk_at "fact")
    (case zp1_Drafting_enter_value => walk_at "fact")
    (case zp2_Drafting_enter_value => walk_at "fact")
    (case zp3_Drafting_enter_value => walk_at "fact")
    (case zp1_Drafting_write => walk_at "fact")
    (case zp2_Drafting_write => walk_at "fact")
    (case zp3_Drafting_write => walk_at "fact")
    (case zp1_Drafting_write_atom => walk_at "fact")
    (case zp2_Drafting_write_atom => walk_at "fact")
    (case zp3_Drafting_write_atom => walk_at "fact")
    (case zp1_Drafting_write_text => walk_at "fact")
    (case zp2_Drafting_write_text => walk_at "fact")
    (case zp3_Drafting_write_text => walk_at "fact")
    (case zn_Drafting_view => walk_at "fact")
    (case zn_Drafting_edition => walk_at "fact")
    (case zn_Drafting_given => walk_at "fact")
    (case zn_Drafting_most => walk_at "fact")
    (case zn_Drafting_rows => walk_at "fact")
    (case zn_Drafting_deep => walk_at "fact")
    (case zn_Drafting_begun => walk_at "fact")
    (case za_Jar => walk_at "fact")
    (case zc1_Jar => walk_at "fact")
    (case zc2_Jar => walk_at "fact")
    (case zc3_Jar => walk_at "fact")
    (case zc4_Jar => walk_at "fact")
    (case zk_Jar => walk_at "fact")
    (case ze1_Jar => walk_at "fact")
    (case ze2_Jar => walk_at "fact")
    (case zt_Jar => walk_at "fact")
    (case zm1_Jar => walk_at "fact")
    (case zm2_Jar => walk_at "fact")
    (case zm3_Jar => walk_at "fact")
    (case zp1_Jar_names => walk_at "fact")
    (case zp2_Jar_names => walk_at "fact")
    (case zp3_Jar_names => walk_at "fact")
    (case zp4_Jar_names => walk_at "fact")
    (case zp1_Jar_version => walk_at "fact")
    (case zp2_Jar_version => walk_at "fact")
    (case zp3_Jar_version => walk_at "fact")
    (case zp4_Jar_version => walk_at "fact")
    (case zp1_Jar_total => walk_at "fact")
    (case zp2_Jar_total => walk_at "fact")
    (case zp3_Jar_total => walk_at "fact")
    (case zp4_Jar_total => walk_at "fact")
    (case zp1_Jar_changes => walk_at "fact")
    (case zp2_Jar_changes => walk_at "fact")
    (case zp3_Jar_changes => walk_at "fact")
    (case zp4_Jar_changes => walk_at "fact")
    (case zp1_Jar_change_to => walk_at "fact")
    (case zp2_Jar_change_to => walk_at "fact")
    (case zp3_Jar_change_to => walk_at "fact")
    (case zp1_Jar_put => walk_at "fact")
    (case zp2_Jar_put => walk_at "fact")
    (case zp3_Jar_put => walk_at "fact")
    (case zp1_Jar_stream_of => walk_at "fact")
    (case zp2_Jar_stream_of => walk_at "fact")
    (case zp3_Jar_stream_of => walk_at "fact")
    (case zn_Jar_known => walk_at "fact")
    (case zn_Jar_shelf => walk_at "fact")
    (case zn_Jar_layout => walk_at "fact")
    (case zn_Jar_past => walk_at "fact")
    (case za_WORDS => walk_at "fact")
    (case za_NUMBERS => walk_at "fact")
    (case za_ROWS => walk_at "fact")
    (case za_OCTET_ROWS => walk_at "fact")
    (case za_LINE_TEXTS => walk_at "fact")
    (case zb_ValueError => walk_at "fact")
    (case zb_all => walk_at "fact")
    (case zb_bool => walk_at "fact")
    (case zb_enumerate => walk_at "fact")
    (case zb_int => walk_at "fact")
    (case zb_isinstance => walk_at "fact")
    (case zb_len => walk_at "fact")
    (case zb_list => walk_at "fact")
    (case zb_min => walk_at "fact")
    (case zb_ord => walk_at "fact")
    (case zb_property => walk_at "fact")
    (case zb_range => walk_at "fact")
    (case zb_repr => walk_at "fact")
    (case zb_sorted => walk_at "fact")
    (case zb_str => walk_at "fact")
    (case zb_sum => walk_at "fact")
    (case zb_tuple => walk_at "fact")
    (case zb_super => walk_at "fact")
    (case zc_MOST_INTEGER => walk_at "fact")
    (case zc_MOST_CHARACTERS => walk_at "fact")
    (case zc_MOST_OPEN => walk_at "fact")
    (case zc_LEAST_SHARED => walk_at "fact")
    (case zc_NEWLINE => walk_at "fact")
    (case zc_FIRST => walk_at "fact")
    (case zc_MOST_OCTETS => walk_at "fact")
    (case zc_LEAST_FRAME => walk_at "fact")
    (case zc_MOST_NAMES => walk_at "fact")
    (case za_is_edit => walk_at "fact")
    (case zl_is_edit => walk_at "fact")
    (case zd_is_edit => walk_at "fact")
    (case zk_is_edit => walk_at "fact")
    (case zl_Batch___init__ => walk_at "fact")
    (case zd_Batch___init__ => walk_at "fact")
    (case zk_Batch___init__ => walk_at "fact")
    (case zl_Batch___enter__ => walk_at "fact")
    (case zd_Batch___enter__ => walk_at "fact")
    (case zk_Batch___enter__ => walk_at "fact")
    (case zl_Batch___exit__ => walk_at "fact")
    (case zd_Batch___exit__ => walk_at "fact")
    (case zk_Batch___exit__ => walk_at "fact")
    (case za_batched_all => walk_at "fact")
    (case zl_batched_all => walk_at "fact")
    (case zd_batched_all => walk_at "fact")
    (case zk_batched_all => walk_at "fact")
    (case za_batched => walk_at "fact")
    (case zl_batched => walk_at "fact")
    (case zd_batched => walk_at "fact")
    (case zk_batched => walk_at "fact")
    (case za_is_integer => walk_at "fact")
    (case zl_is_integer => walk_at "fact")
    (case zd_is_integer => walk_at "fact")
    (case zk_is_integer => walk_at "fact")
    (case za_is_whole_atom => walk_at "fact")
    (case zl_is_whole_atom => walk_at "fact")
    (case zd_is_whole_atom => walk_at "fact")
    (case zk_is_whole_atom => walk_at "fact")
    (case za_is_text => walk_at "fact")
    (case zl_is_text => walk_at "fact")
    (case zd_is_text => walk_at "fact")
    (case zk_is_text => walk_at "fact")
    (case za_is_key => walk_at "fact")
    (case zl_is_key => walk_at "fact")
    (case zd_is_key => walk_at "fact")
    (case zk_is_key => walk_at "fact")
    (case za_is_atom => walk_at "fact")
    (case zl_is_atom => walk_at "fact")
    (case zd_is_atom => walk_at "fact")
    (case zk_is_atom => walk_at "fact")
    (case za_holds_value => walk_at "fact")
    (case zl_holds_value => walk_at "fact")
    (case zd_holds_value => walk_at "fact")
    (case zk_holds_value => walk_at "fact")
    (case za_rules_of => walk_at "fact")
    (case zl_rules_of => walk_at "fact")
    (case zd_rules_of => walk_at "fact")
    (case zk_rules_of => walk_at "fact")
    (case za_atom_form => walk_at "fact")
    (case zl_atom_form => walk_at "fact")
    (case zd_atom_form => walk_at "fact")
    (case zk_atom_form => walk_at "fact")
    (case zl_NodeView___init__ => walk_at "fact")
    (case zd_NodeView___init__ => walk_at "fact")
    (case zk_NodeView___init__ => walk_at "fact")
    (case zl_NodeView_shape_of => walk_at "fact")
    (case zd_NodeView_shape_of => walk_at "fact")
    (case zk_NodeView_shape_of => walk_at "fact")
    (case zl_NodeView_label => walk_at "fact")
    (case zd_NodeView_label => walk_at "fact")
    (case zk_NodeView_label => walk_at "fact")
    (case zl_NodeView_plain => walk_at "fact")
    (case zd_NodeView_plain => walk_at "fact")
    (case zk_NodeView_plain => walk_at "fact")
    (case zl_Drafting___init__ => walk_at "fact")
    (case zd_Drafting___init__ => walk_at "fact")
    (case zk_Drafting___init__ => walk_at "fact")
    (case zl_Drafting_add => walk_at "fact")
    (case zd_Drafting_add => walk_at "fact")
    (case zk_Drafting_add => walk_at "fact")
    (case zT_Drafting_add => walk_at "fact")
    (case zl_Drafting_put => walk_at "fact")
    (case zd_Drafting_put => walk_at "fact")
    (case zk_Drafting_put => walk_at "fact")
    (case zl_Drafting_enter_value => walk_at "fact")
    (case zd_Drafting_enter_value => walk_at "fact")
    (case zk_Drafting_enter_value => walk_at "fact")
    (case zl_Drafting_write => walk_at "fact")
    (case zd_Drafting_write => walk_at "fact")
    (case zk_Drafting_write => walk_at "fact")
    (case zl_Drafting_write_atom => walk_at "fact")
    (case zd_Drafting_write_atom => walk_at "fact")
    (case zk_Drafting_write_atom => walk_at "fact")
    (case zl_Drafting_write_text => walk_at "fact")
    (case zd_Drafting_write_text => walk_at "fact")
    (case zk_Drafting_write_text => walk_at "fact")
    (case za_integer_name => walk_at "fact")
    (case zl_integer_name => walk_at "fact")
    (case zd_integer_name => walk_at "fact")
    (case zk_integer_name => walk_at "fact")
    (case za_text_name => walk_at "fact")
    (case zl_text_name => walk_at "fact")
    (case zd_text_name => walk_at "fact")
    (case zk_text_name => walk_at "fact")
    (case za_full_rows => walk_at "fact")
    (case zl_full_rows => walk_at "fact")
    (case zd_full_rows => walk_at "fact")
    (case zk_full_rows => walk_at "fact")
    (case zT_full_rows => walk_at "fact")
    (case za_least_rows => walk_at "fact")
    (case zl_least_rows => walk_at "fact")
    (case zd_least_rows => walk_at "fact")
    (case zk_least_rows => walk_at "fact")
    (case za_named_rows => walk_at "fact")
    (case zl_named_rows => walk_at "fact")
    (case zd_named_rows => walk_at "fact")
    (case zk_named_rows => walk_at "fact")
    (case za_text_octets => walk_at "fact")
    (case zl_text_octets => walk_at "fact")
    (case zd_text_octets => walk_at "fact")
    (case zk_text_octets => walk_at "fact")
    (case za_line_octets => walk_at "fact")
    (case zl_line_octets => walk_at "fact")
    (case zd_line_octets => walk_at "fact")
    (case zk_line_octets => walk_at "fact")
    (case za_wide_octets => walk_at "fact")
    (case zl_wide_octets => walk_at "fact")
    (case zd_wide_octets => walk_at "fact")
    (case zk_wide_octets => walk_at "fact")
    (case za_row_of => walk_at "fact")
    (case zl_row_of => walk_at "fact")
    (case zd_row_of => walk_at "fact")
    (case zk_row_of => walk_at "fact")
    (case za_argument_form => walk_at "fact")
    (case zl_argument_form => walk_at "fact")
    (case zd_argument_form => walk_at "fact")
    (case zk_argument_form => walk_at "fact")
    (case za_is_version => walk_at "fact")
    (case zl_is_version => walk_at "fact")
    (case zd_is_version => walk_at "fact")
    (case zk_is_version => walk_at "fact")
    (case za_check_version => walk_at "fact")
    (case zl_check_version => walk_at "fact")
    (case zd_check_version => walk_at "fact")
    (case zk_check_version => walk_at "fact")
    (case za_argument_octets => walk_at "fact")
    (case zl_argument_octets => walk_at "fact")
    (case zd_argument_octets => walk_at "fact")
    (case zk_argument_octets => walk_at "fact")
    (case za_encoded => walk_at "fact")
    (case zl_encoded => walk_at "fact")
    (case zd_encoded => walk_at "fact")
    (case zk_encoded => walk_at "fact")
    (case za_framed => walk_at "fact")
    (case zl_framed => walk_at "fact")
    (case zd_framed => walk_at "fact")
    (case zk_framed => walk_at "fact")
    (case za_laid_out => walk_at "fact")
    (case zl_laid_out => walk_at "fact")
    (case zd_laid_out => walk_at "fact")
    (case zk_laid_out => walk_at "fact")
    (case za_sealed => walk_at "fact")
    (case zl_sealed => walk_at "fact")
    (case zd_sealed => walk_at "fact")
    (case zk_sealed => walk_at "fact")
    (case za_dump => walk_at "fact")
    (case zl_dump => walk_at "fact")
    (case zd_dump => walk_at "fact")
    (case zk_dump => walk_at "fact")
    (case zT_dump => walk_at "fact")
    (case zy_dump_version => walk_at "fact")
    (case zy_dump_outside => walk_at "fact")
    (case za_is_jar_name => walk_at "fact")
    (case zl_is_jar_name => walk_at "fact")
    (case zd_is_jar_name => walk_at "fact")
    (case zk_is_jar_name => walk_at "fact")
    (case za_check_name => walk_at "fact")
    (case zl_check_name => walk_at "fact")
    (case zd_check_name => walk_at "fact")
    (case zk_check_name => walk_at "fact")
    (case zl_Jar___init__ => walk_at "fact")
    (case zd_Jar___init__ => walk_at "fact")
    (case zk_Jar___init__ => walk_at "fact")
    (case zT_Jar___init__ => walk_at "fact")
    (case zy_Jar___init___version => walk_at "fact")
    (case zl_Jar_names => walk_at "fact")
    (case zd_Jar_names => walk_at "fact")
    (case zk_Jar_names => walk_at "fact")
    (case zl_Jar_version => walk_at "fact")
    (case zd_Jar_version => walk_at "fact")
    (case zk_Jar_version => walk_at "fact")
    (case zl_Jar_total => walk_at "fact")
    (case zd_Jar_total => walk_at "fact")
    (case zk_Jar_total => walk_at "fact")
    (case zl_Jar_changes => walk_at "fact")
    (case zd_Jar_changes => walk_at "fact")
    (case zk_Jar_changes => walk_at "fact")
    (case zl_Jar_change_to => walk_at "fact")
    (case zd_Jar_change_to => walk_at "fact")
    (case zk_Jar_change_to => walk_at "fact")
    (case zl_Jar_put => walk_at "fact")
    (case zd_Jar_put => walk_at "fact")
    (case zk_Jar_put => walk_at "fact")
    (case zl_Jar_stream_of => walk_at "fact")
    (case zd_Jar_stream_of => walk_at "fact")
    (case zk_Jar_stream_of => walk_at "fact")
    (case za__law_begin => walk_at "fact")
    (case zl__law_begin => walk_at "fact")
    (case zd__law_begin => walk_at "fact")
    (case zk__law_begin => walk_at "fact")
    (case za__law_mixed => walk_at "fact")
    (case zl__law_mixed => walk_at "fact")
    (case zd__law_mixed => walk_at "fact")
    (case zk__law_mixed => walk_at "fact")
    (case za__law_next => walk_at "fact")
    (case zl__law_next => walk_at "fact")
    (case zd__law_next => walk_at "fact")
    (case zk__law_next => walk_at "fact")
    (case za__law_refusal => walk_at "fact")
    (case zl__law_refusal => walk_at "fact")
    (case zd__law_refusal => walk_at "fact")
    (case zk__law_refusal => walk_at "fact")
    (case za__law_state => walk_at "fact")
    (case zl__law_state => walk_at "fact")
    (case zd__law_state => walk_at "fact")
    (case zk__law_state => walk_at "fact")
    (case za__law_no_edit => walk_at "fact")
    (case zl__law_no_edit => walk_at "fact")
    (case zd__law_no_edit => walk_at "fact")
    (case zk__law_no_edit => walk_at "fact")
    (case za__law_edit => walk_at "fact")
    (case zl__law_edit => walk_at "fact")
    (case zd__law_edit => walk_at "fact")
    (case zk__law_edit => walk_at "fact")
    (case za__law_right => walk_at "fact")
    (case zl__law_right => walk_at "fact")
    (case zd__law_right => walk_at "fact")
    (case zk__law_right => walk_at "fact")
    (case za_law => walk_at "fact")
    (case zl_law => walk_at "fact")
    (case zd_law => walk_at "fact")
    (case zk_law => walk_at "fact")
    (case za_JarError => walk_at "fact")
    (case zt_JarError => walk_at "fact")
    (case zx_JarError => walk_at "fact")
    (case zh_JarError => walk_at "fact")
    (case za_InvalidEdit => walk_at "fact")
    (case zt_InvalidEdit => walk_at "fact")
    (case zx_InvalidEdit => walk_at "fact")
    (case zh_InvalidEdit => walk_at "fact")
    (case zi_InvalidEdit => walk_at "fact")
    (case zo_InvalidEdit => walk_at "fact")
    (case zI_InvalidEdit => walk_at "fact")
    (case zf_InvalidEdit => walk_at "fact")
    (case zl_InvalidEdit => walk_at "fact")
    (case zq_InvalidEdit => walk_at "fact")
    (case zs_InvalidEdit => walk_at "fact")
    (case zB_InvalidEdit => walk_at "fact")
    (case zST_InvalidEdit => walk_at "fact")
    (case zA_InvalidEdit => walk_at "fact")
    (case zT_InvalidEdit_position => walk_at "fact")
    (case zn_InvalidEdit_position => walk_at "fact")
    (case zC_InvalidEdit => walk_at "fact")
    (case zD_InvalidEdit => walk_at "fact")
    (case zE_InvalidEdit => walk_at "fact")
    (case zM_InvalidEdit => walk_at "fact")
    (case zN_InvalidEdit => walk_at "fact")
    (case zP_InvalidEdit => walk_at "fact")
    (case zk_InvalidEdit => walk_at "fact")
    (case zga_InvalidEdit => walk_at "fact")
    (case zgg_InvalidEdit => walk_at "fact")
    (case zcc_InvalidEdit => walk_at "fact")
    (case zcg_InvalidEdit => walk_at "fact")
    (case zct_InvalidEdit => walk_at "fact")
    (case zmo_InvalidEdit => walk_at "fact")
    (case za_StateError => walk_at "fact")
    (case zt_StateError => walk_at "fact")
    (case zx_StateError => walk_at "fact")
    (case zh_StateError => walk_at "fact")
    (case za_MissingError => walk_at "fact")
    (case zt_MissingError => walk_at "fact")
    (case zx_MissingError => walk_at "fact")
    (case zh_MissingError => walk_at "fact")
    (case zu_InvalidEdit_JarError => walk_at "fact")
    (case zv_InvalidEdit_JarError => walk_at "fact")
    (case zu_InvalidEdit_StateError => walk_at "fact")
    (case zv_InvalidEdit_StateError => walk_at "fact")
    (case zu_InvalidEdit_MissingError => walk_at "fact")
    (case zv_InvalidEdit_MissingError => walk_at "fact")
    (case zu_InvalidEdit_InvalidEdit => walk_at "fact")
    (case zv_InvalidEdit_InvalidEdit => walk_at "fact")
    (case zu_InvalidEdit_ValueError => walk_at "fact")
    (case zz_rows => first | rfl | kernel_rfl | decide +kernel)
    (case zz_nums => exact ⟨⟨_, _, rfl, ⟨⟨_, _, rfl, rfl⟩, ⟨⟨_, _, rfl, rfl⟩, ⟨⟨_, _, rfl, rfl⟩, ⟨⟨_, _, rfl, rfl⟩, ⟨⟨_, _, rfl, rfl⟩, ⟨⟨_, _, rfl, rfl⟩, ⟨⟨_, _, rfl, rfl⟩, ⟨⟨_, _, rfl, rfl⟩, ⟨⟨_, _, rfl, rfl⟩, ⟨⟨_, _, rfl, rfl⟩, ⟨⟨_, _, rfl, rfl⟩, ⟨⟨_, _, rfl, rfl⟩, ⟨⟨_, _, rfl, rfl⟩, ⟨⟨_, _, rfl, rfl⟩, ⟨⟨_, _, rfl, rfl⟩, ⟨⟨_, _, rfl, rfl⟩, ⟨⟨_, _, rfl, rfl⟩, ⟨⟨_, _, rfl, rfl⟩, ⟨⟨_, _, rfl, rfl⟩, ⟨⟨_, _, rfl, rfl⟩, ⟨⟨_, _, rfl, rfl⟩, ⟨⟨_, _, rfl, rfl⟩, ⟨⟨_, _, rfl, rfl⟩, ⟨⟨_, _, rfl, rfl⟩, ⟨⟨_, _, rfl, rfl⟩, ⟨⟨_, _, rfl, rfl⟩, ⟨⟨_, _, rfl, rfl⟩, ⟨⟨_, _, rfl, rfl⟩, ⟨⟨_, _, rfl, rfl⟩, ⟨⟨_, _, rfl, rfl⟩, ⟨⟨_, _, rfl, rfl⟩, ⟨⟨_, _, rfl, rfl⟩, ⟨⟨_, _, rfl, rfl⟩, ⟨⟨_, _, rfl, rfl⟩, ⟨⟨_, _, rfl, rfl⟩, ⟨⟨_, _, rfl, rfl⟩, ⟨⟨_, _, rfl, rfl⟩, ⟨⟨_, _, rfl, rfl⟩, ⟨⟨_, _, rfl, rfl⟩, ⟨⟨_, _, rfl, rfl⟩, ⟨⟨_, _, rfl, rfl⟩, ⟨⟨_, _, rfl, rfl⟩, ⟨⟨_, _, rfl, rfl⟩, trivial⟩⟩⟩⟩⟩⟩⟩⟩⟩⟩⟩⟩⟩⟩⟩⟩⟩⟩⟩⟩⟩⟩⟩⟩⟩⟩⟩⟩⟩⟩⟩⟩⟩⟩⟩⟩⟩⟩⟩⟩⟩⟩⟩, rfl, rfl⟩, by decide⟩)
    (case zz_words => exact ⟨⟨_, _, rfl, ⟨⟨_, _, rfl, rfl⟩, ⟨⟨_, _, rfl, rfl⟩, ⟨⟨_, _, rfl, rfl⟩, ⟨⟨_, _, rfl, rfl⟩, trivial⟩⟩⟩⟩, rfl, rfl⟩, by decide⟩)
    (case zz_octrows => first | rfl | kernel_rfl | decide +kernel)
    (case zz_linetexts => first | rfl | kernel_rfl | decide +kernel)
    (case zz_w_NoneType => walk_at "fact")
    (case zz_w_int => walk_at "fact")
    (case zz_w_str => walk_at "fact"))
    (case hpar => rfl)
set_option maxHeartbeats 0 in
theorem PySem.Challenge.cw_brinejar_k55_batches_refuse_holds : PySem.Challenge.rw_brinejar_k55_batches_refuse.Holds := by
  w_on; o_law
  refine BJ.head_k (r := OpenLaw.row PySem.Challenge.rw_brinejar_k55_batches_refuse) (q := BJL.q0) (loose := BJL.names0s) (K := BJL.mk0.heap_1) (as := BJL.as0) (M := 3600 + 7530 + 7444) (kwd := []) BJL.as0_eq (by kernel_rfl) (fun s => by kernel_rfl) BJL.run1 BJL.run2 BJL.run3 (by rfl) (by rfl) (by rfl) (by rfl) (by first | assumption | decide +kernel) (by decide +kernel) ⟨rfl, rfl, rfl, rfl, rfl, by decide +kernel⟩ ?hw ?hc
  case hw => w_witness2
  case hc =>
  refine BJ.walkG (l := PySem.Challenge.rw_brinejar_k55_batches_refuse) (n := 63) (k := 30) (sp := fun w => BJL.sp_law _) rfl (by decide) rfl ⟨rfl, by decide, by decide⟩ (fun w h Y => Y) ?F BJL.law_start
  case F =>
    intro w mg fa h KX G hmg base KB GB
    obtain ⟨a, hp, T⟩ := BJL.facts0 w mg h KX G
    exact BJL.law_use (a := a) T hp hmg

