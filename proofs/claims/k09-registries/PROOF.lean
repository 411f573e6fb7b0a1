import PyProof.Rows.All
import Wide.All
import OpenK.AllK
import Wide.FinOn
import HandS.ForMost
import HandS.Exc
import HandS.ExcOwn
import KE.KExcSuper
import HandS.ExcInit
import KE.KTryMore
import KE.KExcHand
import HandS.TryOnly
import KE.KExcIs
import HandS.IsInst
import PyProof.ReprRoads
import PyProof.CallFns
import HandS.TupMul
import KE.GoesMore
import KE.GoesEnum
import HandS.AnyAll
import HandS.EndBits
import HandS.Evl
import HandS.Walk
import HandS.Zip
import PyProof.ReprBulk
import HandS.Replace
import HandS.ExcValue
import HandS.SetFor
import HandS.Style
import HandS.Lambda
import HandS.EndTab
import HandS.WordsExc
import HandS.WrittenGet
import HandS.ReplaceLit
import HandS.ReplaceDef
import HandS.Conv
import HandS.Star
import HandS.ClsMeth
import HandS.Property
import HandS.Defaults
import HandS.MethStar
import HandS.GenList
import HandS.GenYield
import HandS.OwnEq
import HandS.SortInts
import HandS.TupAny
import HandS.DictComp
import HandS.DeepEq
import HandS.GenCall
import HandS.ListItems
import KE.KDictMeth
import HandS.Strs
import KE.OsRunLaw
import HandS.Head2
import KE.KNestM
import KE.OsRunLaw
import PySem.Challenge.RW_brinejar_k09_registries
set_option Elab.async false
set_option linter.all false
set_option maxRecDepth 100000
set_option maxHeartbeats 4000000
/-! calls whose Around has no guards (no repr is running): promises, the rule for a def, the rules for calls -/
namespace BJ
open PySem PySem.Spec PyProof.Rows L2

/-- the promise of a def, for callers that no repr surrounds -/
structure FnG (P : Program) (w : World) (K : PySem.W.Frag) (mg : Str → Option Value) (base : Heap)
    (k : Nat) (f : Addr) (fd : FuncData) (ps : List Str) (sp : Sp) : Prop where
  len : ∀ vs H Q E, sp vs H Q E → vs.length = ps.length
  run : ∀ (A : Around) (outer : List Env) (s : Shared) (H : Hp) (args : Args) (us : List Value) (vs : List V) (Q : VK) (E : XK),
    Room k A → A.guards = some [] → Env0 P w K mg base A outer s H → BindsTo s fd args (ps.zip us) → Vals vs us →
    sp vs H Q E → codeAny (model P w) A (.call (.ref f) args) (CR (L2.CX P w) outer P w H s Q E) s

section
variable {P : Program} {w : World} {K : PySem.W.Frag} {mg : Str → Option Value} {base : Heap}
theorem FnG.mono {j k : Nat} {f : Addr} {fd : FuncData} {ps : List Str} {sp : Sp}
    (F : FnG P w K mg base j f fd ps sp) (h : j ≤ k) : FnG P w K mg base k f fd ps sp :=
  ⟨F.len, fun A o s H a us vs Q E hr => F.run A o s H a us vs Q E (hr.mono h)⟩

/-- the rule for a def -/
theorem fnG_of {k : Nat} {f : Addr} {name qual : Str} {params : Arguments} {body : List Stmt} {scope : Scope}
    {dV kV doc pm cdv ct oc : Value} {an od : Option Addr} {osl : Array (Option Value)} {N ps : List Str} {sp : Sp}
    (lk : K.lookup f = some ⟨oc, od, .func (PySem.W.fnOf name qual params body scope dV kV doc pm an cdv ct), osl⟩)
    (hcd : PySem.W.codeIn K cdv qual = true) (S : FnScope N ps scope)
    (len : ∀ vs H Q E, sp vs H Q E → vs.length = ps.length)
    (hbody : ∀ (A : Around) (outer : List Env) (s : Shared) (H : Hp) (vs : List V) (Q : VK) (E : XK),
      Room k (A.deeper (envOfC qual scope s.heap.objs.size f cdv)) → A.guards = some [] → sp vs H Q E →
      ∃ t, PSs (cxOf (L2.CX P w) P w K mg base N qual scope f cdv A outer s H E) body t ∧
        t { nx := fun _ H' => Q .non H', rt := Q } (start N vs) H) :
    FnG P w K mg base (k + 1) f (PySem.W.fnOf name qual params body scope dV kV doc pm an cdv ct) ps sp where
  len := len
  run := by
    intro A outer s H args us vs Q E room hg e0 bnd rel prom
    have KX : K.In s.heap := e0.mod.kin.keeps fun b o e => (e0.bs b o e).1
    have nl : s.heap.NoLimit := e0.mod.nolimit.keeps fun b o e => (e0.bs b o e).1
    have kinds : ∀ y ∈ ps.zip us, scope.names.lookup y.1 = some .local ∨
        (scope.names.lookup y.1 = some .cell ∧ ((cellsFrom (s.heap.objs.size + 1) scope.names []).lookup y.1).isSome = true) := by
      rintro ⟨n, v⟩ hy
      rcases S.par n (List.of_mem_zip hy).1 with q | q
      · exact .inl q
      · exact .inr ⟨q, PySem.W.cellsFrom_some _ _ _ (.inl q)⟩
    refine codeAny_call_function room.depth (KX _ _ lk) rfl S.co S.gen rfl (PySem.W.codeRec_of KX hcd) (bnd _ _ _ _ ?_)
    refine wpAny_newFunctionEnv_cells S.kind kinds fun env he s1 x => ?_
    subst he
    obtain ⟨t, ht, hq⟩ := hbody A outer s H vs Q E (room.deeper _) hg prom
    have I := inv_start (CX := L2.CX P w) (E := E) (cd := cdv) (f := f) (qual := qual) S room.hd e0 (len _ _ _ _ prom) rel x
    refine ⟨nl.keeps x.toInCall.keep, codeAny_func (wpAny_mono (ht.run [] s1 _ H _ I hq) (fun fl s' hs => ?_) fun e s' hs => hs)⟩
    match fl, hs with
    | .ret u, ⟨v, σ', H', J, rv, q⟩ => exact ⟨v, H', J.os, J.bare, J.base, J.hok, rv, q⟩
    | .next, ⟨σ', H', J, q⟩ => exact ⟨V.non, H', J.os, J.bare, J.base, J.hok, rfl, q⟩
    | .brk, ⟨_, _, _, q⟩ => exact q.elim
    | .cont, ⟨_, _, _, q⟩ => exact q.elim
end

/-- a value that may be called with positional values and the keywords ks: u (a def, a class) -/
def CallG (P : Program) (w : World) (K : PySem.W.Frag) (mg : Str → Option Value) (base : Heap) (k : Nat) (u : Value)
    (ks : List Str) (sp : List V → List V → Hp → VK → XK → Prop) : Prop :=
  ∀ (A : Around) (outer : List Env) (s : Shared) (H : Hp) (us ws : List Value) (vs zs : List V) (Q : VK) (E : XK),
    Room k A → A.guards = some [] → Env0 P w K mg base A outer s H → Vals vs us → Vals zs ws → sp vs zs H Q E →
    codeAny (model P w) A (.call u ⟨us, ks.zip ws⟩) (CR (L2.CX P w) outer P w H s Q E) s
/-- .. no keywords -/
abbrev CallP (P : Program) (w : World) (K : PySem.W.Frag) (mg : Str → Option Value) (base : Heap) (k : Nat) (u : Value) (sp : Sp) : Prop :=
  CallG P w K mg base k u [] fun vs zs H Q E => zs = [] ∧ sp vs H Q E

section
variable {P : Program} {w : World} {K : PySem.W.Frag} {mg : Str → Option Value} {base : Heap}
theorem CallG.mono {j k : Nat} {u : Value} {ks : List Str} {sp : List V → List V → Hp → VK → XK → Prop}
    (F : CallG P w K mg base j u ks sp) (h : j ≤ k) : CallG P w K mg base k u ks sp :=
  fun A o s H us ws vs zs Q E hr => F A o s H us ws vs zs Q E (hr.mono h)
/-- a def, positional values (the defaults ds behind them) -/
theorem FnG.callP {k : Nat} {f : Addr} {fd : FuncData} {ps : List Str} {sp : Sp} {ds : List Value} {dvs : List V}
    (F : FnG P w K mg base k f fd ps sp) (hb : Binds K fd ps ds) (hd : Vals dvs ds) :
    CallP P w K mg base k (.ref f) fun vs H Q E => sp (vs ++ dvs) H Q E := by
  rintro A outer s H us ws vs zs Q E room hg e0 rel relz ⟨rfl, prom⟩
  cases relz
  have r2 : Vals (vs ++ dvs) (us ++ ds) := rel.append hd
  have hl : (us ++ ds).length = ps.length := r2.length.symm.trans (F.len _ _ _ _ prom)
  have KX : K.In s.heap := e0.mod.kin.keeps fun b o e => (e0.bs b o e).1
  exact F.run A outer s H ⟨us, []⟩ (us ++ ds) (vs ++ dvs) Q E room hg e0 (hb s us KX hl) r2 prom
/-- .. with keywords -/
theorem FnG.callK {k : Nat} {f : Addr} {fd : FuncData} {ps ks : List Str} {sp : Sp}
    {g : List Value → List Value → List Value} {gV : List V → List V → List V} (F : FnG P w K mg base k f fd ps sp)
    (hb : KBinds K fd ps ks g gV) : CallG P w K mg base k (.ref f) ks fun vs zs H Q E => sp (gV vs zs) H Q E := by
  intro A outer s H us ws vs zs Q E room hg e0 rel relz prom
  have r2 := hb.rel rel relz
  have hl : (g us ws).length = ps.length := r2.length.symm.trans (F.len _ _ _ _ prom)
  have KX : K.In s.heap := e0.mod.kin.keeps fun b o e => (e0.bs b o e).1
  exact F.run A outer s H ⟨us, ks.zip ws⟩ (g us ws) (gV vs zs) Q E room hg e0 (hb.to s us ws KX hl) r2 prom
end

/-! ### the rules -/
section
variable {X : Cx} {k : Nat} {u : Value} {ks : List Str} {sp : Sp} {spk : List V → List V → Hp → VK → XK → Prop} {W : WX}
  {x m : Str} {p pos apos : Pos} {e o : Expr} {es : List Expr} {kws : List Keyword} {ta : TE} {t tk : TA}
/-- nothing that is raised is taken -/
theorem tkN : Takes X (fun _ _ _ _ => False) := fun _ _ ⟨_, _, _, _, _, _, _, _, _, _, _, _, _, _, _, _, q⟩ => q.elim

theorem run_callG {pins : List (Addr × Obj)} {σ : L2.St} {H : Hp} {s : Shared} {Q : VK} {us ws : List Value} {vs zs : List V}
    (F : CallG X.prog X.w X.K X.mg X.base k u ks spk) (hr : Room k X.A) (hG : X.A.guards = some []) (tkW : Takes X W)
    (I : Inv X pins σ H s) (r : Vals vs us) (rz : Vals zs ws) (h : spk vs zs H Q fun cls d H' => W cls d σ H') :
    wpAny (model X.prog X.w) X.A (call u us (ks.zip ws)) (EP X pins σ Q) X.xe s := by
  refine wpAny_call (codeAny_mono (F X.A X.stack s H us ws vs zs Q _ hr hG I.env0 r rz h) ?_)
  intro res s' hq
  match res, hq with
  | .error e, hq => exact tkW e s' (XE.of_call I (fun _ _ _ z => z) hq)
  | .ok (.ret u), hq => exact I.after hq

/-- f(e, ..) -/
def tCa (sp : Sp) (W : WX) (t : TA) : TE := fun σ H Q => t σ H fun vs H1 => sp vs H1 Q fun cls d H' => W cls d σ H'
theorem pe_ca (F : CallP X.prog X.w X.K X.mg X.base k u sp) (hr : Room k X.A) (hG : X.A.guards = some []) (hg : Gl X x) (hm : X.mg x = some u)
    (hk : PySem.W.keepIn X.K u = true) (tkW : Takes X W) (ha : PA X (e :: es) t) (hdb : (x == ("__debug__" : Str)) = false := by decide)
    (he : starEach (e :: es) X.env = (false, eval e X.env) :: starEach es X.env := by rfl)
    (hpl : (backTo pos (starEach es X.env)).any (·.1) = false := by rfl) : PE X (.Call (.Name x p) (e :: es) [] pos) (tCa sp W t) where
  run := by
    intro pins s σ H Q I h
    refine wpAny_Call_Name_kw (ld_glob I hg hm ?_ hdb)
    refine PySem.W.callWith_K (h₀ := X.base) I.ok.mod.kin hk (thn (ha.run pos pins s σ H _ I h) ?_) he hpl
    rintro us s1 ⟨vs, H1, I1, r, q⟩
    exact ⟨I1.kIn, run_callG (ws := []) (zs := []) F hr hG tkW I1 r .nil ⟨rfl, q⟩⟩
theorem pe_ca0 (F : CallP X.prog X.w X.K X.mg X.base k u sp) (hr : Room k X.A) (hG : X.A.guards = some []) (hg : Gl X x) (hm : X.mg x = some u)
    (hk : PySem.W.keepIn X.K u = true) (tkW : Takes X W) (hdb : (x == ("__debug__" : Str)) = false := by decide) :
    PE X (.Call (.Name x p) [] [] pos) (tCa sp W tNil) where
  run := by
    intro pins s σ H Q I h
    refine wpAny_Call_Name_kw (ld_glob I hg hm ?_ hdb)
    exact PySem.W.callWith_K0 I.kIn hk (run_callG (us := []) (vs := []) (ws := []) (zs := []) F hr hG tkW I .nil .nil ⟨rfl, h⟩)
/-- f(e, .., k = v, ..) -/
def tCaK (sp : List V → List V → Hp → VK → XK → Prop) (W : WX) (t tk : TA) : TE := fun σ H Q =>
  t σ H fun vs H1 => tk σ H1 fun zs H2 => sp vs zs H2 Q fun cls d H' => W cls d σ H'
theorem pe_caK (F : CallG X.prog X.w X.K X.mg X.base k u ks spk) (hr : Room k X.A) (hG : X.A.guards = some []) (hg : Gl X x) (hm : X.mg x = some u)
    (hk : PySem.W.keepIn X.K u = true) (tkW : Takes X W) (ha : PA X (e :: es) t) (hkw : PK X kws tk)
    (hall : (backToKw pos (keywordEach kws X.env)).all (·.1.isSome) = true := by rfl) (hks : (backToKw pos (keywordEach kws X.env)).filterMap (·.1) = ks := by rfl)
    (hdb : (x == ("__debug__" : Str)) = false := by decide) (he : starEach (e :: es) X.env = (false, eval e X.env) :: starEach es X.env := by rfl)
    (hpl : ((backTo pos (starEach (e :: es) X.env)).any (·.1) || (backToKw pos (keywordEach kws X.env)).any (·.1.isNone)) = false := by rfl) :
    PE X (.Call (.Name x p) (e :: es) kws pos) (tCaK spk W t tk) where
  run := by
    intro pins s σ H Q I h
    refine wpAny_Call_Name_kw (ld_glob I hg hm ?_ hdb)
    refine PySem.W.callWith_KW (h₀ := X.base) I.ok.mod.kin hk hall (thn (ha.run pos pins s σ H _ I h) ?_) hpl he
    rintro us s1 ⟨vs, H1, I1, r, q⟩
    refine thn (hkw.run pos pins s1 σ H1 _ I1 q) ?_
    rintro ws s2 ⟨zs, H2, I2, rz, q2⟩
    rw [hks]
    exact ⟨I2.kIn, run_callG F hr hG tkW I2 r rz q2⟩
/-- f(k = v, ..) -/
theorem pe_caK0 (F : CallG X.prog X.w X.K X.mg X.base k u ks spk) (hr : Room k X.A) (hG : X.A.guards = some []) (hg : Gl X x) (hm : X.mg x = some u)
    (hk : PySem.W.keepIn X.K u = true) (tkW : Takes X W) (hkw : PK X kws tk)
    (hall : (backToKw pos (keywordEach kws X.env)).all (·.1.isSome) = true := by rfl) (hks : (backToKw pos (keywordEach kws X.env)).filterMap (·.1) = ks := by rfl)
    (hdb : (x == ("__debug__" : Str)) = false := by decide)
    (hpl : ((backTo pos (starEach [] X.env)).any (·.1) || (backToKw pos (keywordEach kws X.env)).any (·.1.isNone)) = false := by rfl) :
    PE X (.Call (.Name x p) [] kws pos) (tCaK spk W tNil tk) where
  run := by
    intro pins s σ H Q I h
    refine wpAny_Call_Name_kw (ld_glob I hg hm ?_ hdb)
    refine PySem.W.callWith_KW0 (h₀ := X.base) I.ok.mod.kin hk hall (thn (hkw.run pos pins s σ H _ I h) ?_) hpl
    rintro ws s2 ⟨zs, H2, I2, rz, q2⟩
    rw [hks]
    exact ⟨I2.kIn, run_callG (us := []) (vs := []) F hr hG tkW I2 .nil rz q2⟩
end
end BJ

/-! own exception classes over a family over a built-in class; __init__(self, f, ..): super().__init__(text); self.f = f; .. -/
namespace BJ
open PySem PySem.Spec PyProof.Rows L2 Builtin Builtin.ObjectAttr
open PySem.W (Looks Frag findIn subIn nsIn typeIn keepIn codeIn hasDictIn clsIn takerIn excInitIn excOver excObj KxsFacts ksFn ksEnv ks_superIn isFn looks_findIn looks_clsIn InstAt kxs_mw)

/-- the built-in class at the end -/
structure Fam (B initId newId : String) (bm : List Value) : Prop where
  FB : ExcBaseFacts B newId initId bm
  SF : StoreFacts B bm "object.__setattr__" "object"
  KF : KxsFacts B initId
theorem famV : Fam "ValueError" "ValueError.__init__" "ValueError.__new__" [.type "ValueError", .type "Exception", .type "BaseException", .type "object"] := ⟨F.excBase_ValueError, F.store_ValueError, PySem.W.kxs_ValueError⟩
theorem famR : Fam "RuntimeError" "RuntimeError.__init__" "RuntimeError.__new__" [.type "RuntimeError", .type "Exception", .type "BaseException", .type "object"] :=
  ⟨F.excBase_RuntimeError, F.store_RuntimeError, PySem.W.kxs_RuntimeError⟩
theorem famL : Fam "LookupError" "LookupError.__init__" "LookupError.__new__" [.type "LookupError", .type "Exception", .type "BaseException", .type "object"] :=
  ⟨F.excBase_LookupError, F.store_LookupError, PySem.W.kxs_LookupError⟩

section
variable {prog : Program} {w : World} {M : Model} {A : Around} {E : Value → Shared → Prop} {R : Result → Shared → Prop} {hp : Heap} {g : Array GenState} {d : Drawn} {t : Nat} {os : OsState}
  {B initId newId : String} {bm : List Value} {K : Frag} {C x : Addr} {name : Str} {v : Value}
/-- the first field of a fresh exception: its dict is made -/
theorem errset_new {t0 : Addr} {Q : Unit → Shared → Prop} (FA : Fam B initId newId bm) (X : K.In hp) (hx : hp.get? x = some (excObj C t0 none .none))
    (ov : excOver K C bm = true) (hd : hasDictIn K C = true) (tk : takerIn K C name = some none)
    (sa : findIn K (.ref C) "__setattr__" = some (some (.builtin "object.__setattr__")))
    (hq : ∀ h' tk' dx, (∀ b o, b ≠ x → hp.get? b = some o → h'.get? b = some o) → hp.objs.size ≤ dx → dx ≠ x →
      h'.get? x = some (excObj C t0 (some dx) .none) → h'.Ns1 dx (fun y => if y = name then some v else none) → Q () ⟨h', g, d, tk', os⟩) :
    wpAny (model prog w) A (setAttr (.ref x) name v) Q E ⟨hp, g, d, t, os⟩ := by
  have I : InstAt hp x (excObj C t0 none .none) C none := ⟨hx, rfl, rfl, trivial⟩
  have hxs : x ≠ hp.objs.size := Nat.ne_of_lt (Heap.lt_size hx)
  obtain ⟨cd, hcd, hh⟩ : ∃ cd, clsIn K C = some cd ∧ cd.hasDict = true := by
    have z : (clsIn K C).any (·.hasDict) = true := hd
    cases e : clsIn K C with
    | none => rw [e] at z; cases z
    | some cd => rw [e] at z; exact ⟨cd, rfl, z⟩
  have hcls : Looks (model prog w) hp (classData C) cd := looks_clsIn X hcd
  obtain ⟨nm, bs, mro, ns, qn, hdd, sn, sb, ab, col, del⟩ := cd
  dsimp only at hh
  subst hh
  refine PySem.W.set_plain X I sa (PySem.W.osa_openX FA.SF X I ov tk fun b => ?_)
  show wpAny _ _ (storeInOwnDict (.ref x) (.ref C) (.str name t) name v b) _ _ _
  unfold storeInOwnDict ownDictForStores
  repeat (first
    | with_reducible refine HandSPX.store_in_new ?_ ?_
    | with_reducible refine wpAny_loadPart_at hx ?_
    | with_reducible refine hcls.at ?_
    | wp_step)
  · exact ⟨_, #[], _, (Heap.get?_update_ne _ _ _ _ hxs.symm).trans (Heap.get?_push_at rfl rfl), rfl, fun e he => absurd he (by simp), fun _ => rfl⟩
  · intro h' tk' hn' hs
    have hx₁ : (hp.push { cls := .type "dict", data := .dict #[] }).get? x = some (excObj C t0 none .none) := Heap.get?_push_of_some _ hx
    refine hq h' tk' hp.objs.size (fun b o hb ho => ?_) (Nat.le_refl _) hxs.symm ?_ hn'
    · exact (hs.2 b (Nat.ne_of_lt (Heap.lt_size ho))).trans ((Heap.get?_update_ne _ _ _ _ hb).trans (Heap.get?_push_of_some _ ho))
    · exact (hs.2 x hxs).trans (Heap.get?_update_self _ hx₁ rfl)
/-- a further field -/
theorem errset_old {t0 dx : Addr} {m0 : Str → Option Value} {nl : List Str} {Q : Unit → Shared → Prop} (FA : Fam B initId newId bm) (X : K.In hp)
    (hx : hp.get? x = some (excObj C t0 (some dx) .none)) (hns : hp.Ns1 dx m0) (hw : Within m0 nl) (hz : nl.length ≤ 1000)
    (ov : excOver K C bm = true) (hd : hasDictIn K C = true) (tk : takerIn K C name = some none)
    (sa : findIn K (.ref C) "__setattr__" = some (some (.builtin "object.__setattr__")))
    (hq : ∀ h' tk', (∀ b o, b ≠ dx → hp.get? b = some o → h'.get? b = some o) → h'.Ns1 dx (fun y => if y = name then some v else m0 y) → Q () ⟨h', g, d, tk', os⟩) :
    wpAny (model prog w) A (setAttr (.ref x) name v) Q E ⟨hp, g, d, t, os⟩ := by
  obtain ⟨oD, esD, epD, hoD, hdD, _⟩ := hns.count hw
  have I : InstAt hp x (excObj C t0 (some dx) .none) C (some oD) := ⟨hx, rfl, rfl, hoD⟩
  obtain ⟨cd, hcd, hh⟩ : ∃ cd, clsIn K C = some cd ∧ cd.hasDict = true := by
    have z : (clsIn K C).any (·.hasDict) = true := hd
    cases e : clsIn K C with
    | none => rw [e] at z; cases z
    | some cd => rw [e] at z; exact ⟨cd, rfl, z⟩
  have hcls : Looks (model prog w) hp (classData C) cd := looks_clsIn X hcd
  obtain ⟨nm, bs, mro, ns, qn, hdd, sn, sb, ab, col, del⟩ := cd
  dsimp only at hh
  subst hh
  refine PySem.W.set_plain X I sa (PySem.W.osa_openX FA.SF X I ov tk fun b => ?_)
  show wpAny _ _ (storeInOwnDict (.ref x) (.ref C) (.str name t) name v b) _ _ _
  unfold storeInOwnDict ownDictForStores
  repeat (first
    | with_reducible refine OEX.store_in_old hns hw hz ?_
    | with_reducible refine wpAny_loadPart_at hx ?_
    | with_reducible refine hcls.at ?_
    | wp_step)
  intro h' tk' hn' hs
  exact hq h' tk' (fun b o hb ho => (hs.2 b hb).trans ho) hn'

/-- super().__init__(text) in an own exception's __init__, called: the bound wrapper is called -/
theorem errcall {u e t0 : Addr} {rest : List Value} {Q : Value → Shared → Prop} (FA : Fam B initId newId bm) (X : K.In hp) (q : excInitIn K C bm newId = true)
    (he : hp.get? e = some (excObj C t0 none .none)) (hu : hp.get? u = some (kxs_mw initId e)) (hz : rest.length ≤ sizeLine)
    (hq : ∀ h' t1, (∀ b o, b ≠ e → hp.get? b = some o → h'.get? b = some o) → h'.get? e = some (excObj C t1 none .none) → Q .none ⟨h', g, d, t, os⟩) :
    wpAny (model prog w) A (call (.ref u) rest) Q E ⟨hp, g, d, t, os⟩ := by
  obtain ⟨nm, N', qn, bs, bm', hdct, sn, sub, ab, col, dd, k0, k1, k2, k3, k5, hC, hT⟩ := PySem.W.excInit_of X q
  refine wpAny_call (codeAny_of_tree ?_)
  show wpAny _ A.in1 (callAny (.ref u) ⟨rest, []⟩) _ _ _
  simp only [callAny]
  refine wpAny_bind (wpAny_load hu ?_)
  simp only [kxs_mw, show (Value.type "method-wrapper" == Value.type "method" || Value.type "method-wrapper" == Value.type "builtin_function_or_method" ||
    Value.type "method-wrapper" == Value.type "method-wrapper") = true by decide, if_true]
  refine PySem.W.KFB.if_so (by decide) (wpAny_bind (PySem.W.check_bound_init FA.FB.toExcCallFacts hC he rfl ?_))
  refine wpAny_bind (wpAny_pure (wpAny_pure ⟨plainId_quiet FA.FB.init.plain _, codeAny_builtin FA.FB.initEntry ?_⟩))
  exact PySem.W.exc_init_tree (cls := .ref C) (t0 := t0) (dv := none) (c2 := .none) (c3 := .none) (b4 := .bool false) he hz fun h' k e' _ => hq h' _ k e'
end
end BJ

/-! the run of such an __init__; the class called -/
namespace BJ
open PySem PySem.Spec PyProof.Rows L2 Builtin Builtin.ObjectAttr
open PySem.W (Looks Frag findIn subIn nsIn typeIn keepIn codeIn hasDictIn clsIn takerIn excInitIn excOver excObj KxsFacts ksFn ksEnv ks_superIn isFn looks_findIn looks_clsIn InstAt kxs_mw)

/-! ### the text -/
def eiA (fs : List (Str × Pos)) (p : Pos) : Arguments :=
  { posonlyargs := [], args := { arg := "self", annotation := none, pos := p } :: fs.map fun f => { arg := f.1, annotation := none, pos := f.2 },
    vararg := none, kwonlyargs := [], kw_defaults := [], kwarg := none, defaults := [] }
def eiSup (t : Str) (p0 p1 p2 p3 p4 : Pos) : Stmt :=
  .Expr (.Call (.Attribute (.Call (.Name "super" p0) [] [] p1) "__init__" p2) [.Constant (.str t) 0 p3] [] p4) p4
def eiSet (f : Str) (q1 q2 q3 q4 : Pos) : Stmt := .Assign [.Attribute (.Name "self" q1) f q2] (.Name f q3) q4
def eiS (fs : List Str) : Scope := { kind := .function, names := (("self" : Str), NameKind.local) :: (fs.map (fun f => (f, NameKind.local)) ++ [(("__class__" : Str), NameKind.free), (("super" : Str), NameKind.globalImplicit)]), isGenerator := false, isCoroutine := false, more := [] }

/-- what the written part says of the class at C, its __init__ at fI, the class cell at cc, the code object at cda -/
structure ErrK (prog : Program) (K : Frag) (mg : Str → Option Value) (C fI cc cda : Addr) (B initId newId : String) (bm : List Value) (x : Str) (fs : List Str) : Prop where
  fam : Fam B initId newId bm
  gC : mg x = some (.ref C)
  ini : excInitIn K C bm newId = true
  ov : excOver K C bm = true
  hd : hasDictIn K C = true
  iC : findIn K (.ref C) "__init__" = some (some (.ref fI))
  isf : isFn K (.ref fI) = true
  sup : ks_superIn K C C "__init__" = some (some (.builtin initId))
  subB : subIn K (.ref C) (.type B) = some true
  stat : nsIn K PySem.cStatics "thirdparty.any" = some none
  super : mg "super" = none
  sa : findIn K (.ref C) "__setattr__" = some (some (.builtin "object.__setattr__"))
  tk : ∀ f ∈ fs, takerIn K C f = some none
  cell : ∃ cl cld csl, K.lookup cc = some ⟨cl, cld, .cell (some (.ref C)), csl⟩
  code : ∃ ccl cdd vs ccs tf, K.lookup cda = some ⟨ccl, cdd, .fields vs, ccs⟩ ∧ vs[2]? = some (.str prog.main.file tf)
  mro : PySem.W.mroIn K C (.ref C) = some true
  cls : ∃ cd, clsIn K C = some cd
  top : (prog.main.scope.names.lookup ("super" : Str)).isSome = false

section
variable {prog : Program} {w : World} {A : Around} {E : Value → Shared → Prop} {R : Result → Shared → Prop} {s : Shared} {K : Frag} {mg : Str → Option Value} {base : Heap}
  {B initId newId : String} {bm : List Value} {C fI cc cda x : Addr} {cn qual t : Str} {fs : List Str}

theorem eval_sup {o : Expr} {name : Str} {p2 p4 p3 : Pos} {env : Env} (hl : (p2.endLine == p4.line) = true) : eval (.Call (.Attribute o name p2) [.Constant (.str t) 0 p3] [] p4) env = (do
      let ov ← attributeBase o name env (eval o env)
      standAt p2.atName
      let (f, first) ← holding [ov] (getMethod ov name (do return (← importBound o env).getD true))
      callWith p4 f first (backTo p4 (starEach [.Constant (.str t) 0 p3] env)) []) := by
  show (do
    let ov ← attributeBase o name env (eval o env)
    standAt p2.atName
    methodCall o name p2 p4 env ov 1 (backTo p4 (starEach [.Constant (.str t) 0 p3] env)) []) = _
  have e : ∀ ov, methodCall o name p2 p4 env ov 1 (backTo p4 (starEach [.Constant (.str t) 0 p3] env)) [] = (do
      let (f, first) ← holding [ov] (getMethod ov name (do return (← importBound o env).getD true))
      callWith p4 f first (backTo p4 (starEach [.Constant (.str t) 0 p3] env)) []) := fun ov => by
    unfold methodCall methodCallPos
    rw [hl, Bool.or_true, if_pos rfl]
    rfl
  simp only [e]
/-- the first statement -/
theorem err_sup (T : ErrK prog K mg C fI cc cda B initId newId bm cn fs) (M0 : Mod K mg base) {scope : Scope} {body : List Stmt} {L : Addr} {m : Str → Option Value} {oI : Obj} {fd : FuncData} {ar : Arg}
    (kb : ∀ b o, base.get? b = some o → s.heap.get? b = some o) {t0 : Addr} (hx : s.heap.get? x = some (excObj C t0 none .none)) (hns : s.heap.Ns L m) (hm : m "self" = some (.ref x)) (xL : L ≠ x)
    (lk : K.lookup fI = some oI) (hfd : oI.data = .func fd) (hp : (fd.params.posonlyargs ++ fd.params.args).head? = some ar) (har : ar.arg = "self")
    (hk : scope.kind = .function) (hka : scope.names.lookup ("self" : Str) = some .local) (hkc : scope.names.lookup ("__class__" : Str) = some .free) (hks : scope.names.lookup ("super" : Str) = some .globalImplicit)
    {p0 p1 p2 p3 p4 : Pos} {Q : Flow → Shared → Prop} (hl : (p2.endLine == p4.line) = true)
    (hq : ∀ h' tk' t1, (∀ b o, b ≠ x → s.heap.get? b = some o → h'.get? b = some o) → h'.get? x = some (excObj C t1 none .none) → h'.Ns L m → Q .next { s with heap := h', toks := tk' }) :
    _root_.PySem.wpAt (model prog w) A (.func body (ksEnv qual scope L fI (.ref cda) cc)) (exec (eiSup t p0 p1 p2 p3 p4) (ksEnv qual scope L fI (.ref cda) cc)) Q E s := by
  have X : K.In s.heap := M0.kin.keeps kb
  obtain ⟨ccl, cdd, vs, ccs, tf, hcode, hvs⟩ := T.code
  obtain ⟨cl, cld, csl, hcell⟩ := T.cell
  obtain ⟨cd, hcd⟩ := T.cls
  obtain ⟨mb, hb1, hb2⟩ := M0.blt
  obtain ⟨oD, hD1, hD2⟩ : ∃ oD, s.heap.get? C = some oD ∧ oD.data = .cls cd := by
    have hcd' := hcd
    unfold PySem.W.clsIn at hcd'
    split at hcd'
    · rename_i c d cd' sl ho
      cases hcd'
      exact ⟨_, X _ _ ho, rfl⟩
    · cases hcd'
  have I : InstAt s.heap x (excObj C t0 none .none) C none := ⟨hx, rfl, rfl, trivial⟩
  obtain ⟨hh, g, d, tk, os⟩ := s
  refine ks_wpAt_Expr_any (ks_wpAt_MethodCall (ks_wpAt_super_base (of := oI) (fd := fd) (ar := ar) (vs := vs) (file := prog.main.file) (tf := tf) hks hkc (by decide) rfl (X _ _ lk) hfd hp rfl (X _ _ hcode) rfl hvs (by simp) T.top ?_) (eval_sup hl)) (by simp [interactive, hk])
  refine PySem.W.ks_loadName_global hk hks (Calls.loadGlobal_builtin (M0.glob.keeps kb) T.super (hb1.keeps kb) ((hb2 _ (by decide)).trans (show bootBuiltins "super" = some (.type "super") by decide +kernel)) ⟨rfl, ?_⟩)
  refine wpAny_loadName_free hk hkc rfl ⟨_, X _ _ hcell, rfl⟩ ?_
  refine wpAny_loadName_local hk (by rw [har]; exact hka) hns (by rw [har]; exact hm) ?_
  refine ks_wpAny_isType_cls hD1 hD2 ⟨rfl, ?_⟩
  refine ks_wpAny_call_super hD1 hD2 hx rfl (fun c e => nomatch e) (PySem.W.looks_mroIn X T.mro) fun h1 e1 k1 => ?_
  have X1 : K.In h1 := X.keeps k1
  have hm1 : Looks (model prog w) h1 (mroOf (.ref C)) cd.mro := (looks_clsIn X1 hcd).andThen .now
  have sup := T.sup
  unfold PySem.W.ks_superIn at sup
  rw [hcd, Option.bind_some] at sup
  have xC : x ≠ C := PySem.W.ks_ne X I hcd
  refine PySem.W.kxs_getMethod T.fam.KF e1 (PySem.W.looks_opaque X1 T.stat) hm1 rfl X1 sup ((InstAt.type (od := none) ⟨k1 _ _ hx, rfl, rfl, trivial⟩ : Looks _ h1 (typeOf (.ref x)) (.ref C)).andThen (PySem.W.looks_subIn X1 T.subB)) xC (by decide) ?_
  have hpu : (h1.push (kxs_mw initId x)).get? h1.objs.size = some (kxs_mw initId x) := Heap.get?_push_at rfl rfl
  refine PySem.W.kxs_callWith (i := initId) (x := x) rfl ?_
  refine Calls.evalArgs_plain (Calls.spliced_cons (Calls.Constant_str (k := 0) (pos := p3) ?_))
  refine Calls.spliced_nil ⟨hpu, ?_⟩
  refine errcall T.fam (X1.keeps fun b o e => Heap.get?_push_of_some _ e) T.ini (Heap.get?_push_of_some _ (k1 _ _ hx)) hpu (by rw [sizeLine_eq]; show 1 ≤ 16777216; decide) fun h' t1 k' hx' => ?_
  have ka : ∀ b o, b ≠ x → hh.get? b = some o → h'.get? b = some o := fun b o hb e => k' b o hb (Heap.get?_push_of_some _ (k1 _ _ e))
  refine hq h' _ t1 ka hx' ?_
  obtain ⟨o, es, ep, ho, r⟩ := hns
  exact ⟨o, es, ep, ka _ _ xL ho, r⟩

/-- a name of the frame -/
theorem ldF {M : Model} {m : Str → Option Value} {env : Env} {y : Str} {pos : Pos} {v : Value} {Q : Value → Shared → Prop} (hk : env.scope.kind = .function)
    (hl : env.kindOf y = some .local) (hn : s.heap.Ns env.locals m) (hv : m y = some v) (h : Q v s) (hd : (y == ("__debug__" : Str)) = false) : wpAny M A (eval (.Name y pos) env) Q E s :=
  wpAny_Name (wpAny_loadName_local hk hl hn hv h) hd
theorem err_fn (T : ErrK prog K mg C fI cc cda B initId newId bm cn fs) (X : K.In s.heap) : ∃ o, s.heap.get? fI = some o ∧ o.cls = .type "function" := by
  obtain ⟨o, ho, hc⟩ := Option.map_eq_some_iff.mp (show (K.lookup fI).map (·.cls) = some (.type "function") from beq_iff_eq.mp T.isf)
  exact ⟨o, X _ _ ho, hc⟩

/-- the stores -/
def setsB (l : List (Str × Pos × Pos × Pos × Pos)) : List Stmt := l.map fun y => eiSet y.1 y.2.1 y.2.2.1 y.2.2.2.1 y.2.2.2.2
/-- what a frame must know for a store -/
structure SetOk (K : Frag) (C x L : Addr) (env : Env) (m : Str → Option Value) (val : Str → Value) (f : Str) : Prop where
  tk : takerIn K C f = some none
  loc : env.kindOf f = some .local
  at_ : m f = some (val f)
  dbg : (f == ("__debug__" : Str)) = false
def putM (l : List Str) (val : Str → Value) (m0 : Str → Option Value) : Str → Option Value := fun y => if y ∈ l then some (val y) else m0 y
theorem putM_nil {val : Str → Value} {m0 : Str → Option Value} : putM [] val m0 = m0 := by
  funext y
  simp [putM]
theorem putM_cons {f : Str} {l : List Str} {val : Str → Value} {m0 : Str → Option Value} : putM l val (fun y => if y = f then some (val f) else m0 y) = putM (f :: l) val m0 := by
  funext y
  unfold putM
  by_cases h : y ∈ l
  · simp [h]
  · by_cases e : y = f
    · subst e; simp [h]
    · simp [h, e]
theorem sets_old {env : Env} {m : Str → Option Value} {val : Str → Value} {dx t0 : Addr} (FA : Fam B initId newId bm) (ov : excOver K C bm = true) (hd : hasDictIn K C = true)
    (sa : findIn K (.ref C) "__setattr__" = some (some (.builtin "object.__setattr__"))) (hk : env.scope.kind = .function) (hself : env.kindOf "self" = some .local) (hms : m "self" = some (.ref x)) (Ld : env.locals ≠ dx) (xd : x ≠ dx) (nK : K.lookup dx = none) :
    ∀ (l : List (Str × Pos × Pos × Pos × Pos)) (s : Shared) (m0 : Str → Option Value) (nl : List Str) (Q : Flow → Shared → Prop), K.In s.heap → s.heap.get? x = some (excObj C t0 (some dx) .none) → s.heap.Ns1 dx m0 → Within m0 nl → nl.length + l.length ≤ 1000 →
      s.heap.Ns env.locals m → (∀ y ∈ l, SetOk K C x env.locals env m val y.1) →
      (∀ h' tk', (∀ b o, b ≠ dx → s.heap.get? b = some o → h'.get? b = some o) → h'.Ns1 dx (putM (l.map (·.1)) val m0) → Q .next { s with heap := h', toks := tk' }) →
      wpAny (model prog w) A (execs (setsB l) env) Q E s
  | [], s, m0, nl, Q, X, hx, hns, hw, hz, hF, hy, hq => by
    refine wpAny_execs_nil (hq s.heap s.toks (fun _ _ _ e => e) ?_)
    rw [List.map_nil, putM_nil]
    exact hns
  | y :: r, s, m0, nl, Q, X, hx, hns, hw, hz, hF, hy, hq => by
    have S := hy y List.mem_cons_self
    rw [List.length_cons] at hz
    refine wpAny_execs_cons (plainObj_wpAny_Assign_Attribute (ldF hk S.loc hF S.at_ (ldF hk hself hF hms ?_ (by decide)) S.dbg))
    obtain ⟨hp, g, d, t, os⟩ := s
    refine errset_old FA X hx hns hw (by omega) ov hd S.tk sa fun h' tk' k' n' => ?_
    have X' : K.In h' := fun a o e => k' a o (fun z => by rw [z, nK] at e; cases e) (X a o e)
    have hF' : h'.Ns env.locals m := by
      obtain ⟨o, es, ep, ho, r⟩ := hF
      exact ⟨o, es, ep, k' _ _ Ld ho, r⟩
    refine sets_old FA ov hd sa hk hself hms Ld xd nK r ⟨h', g, d, tk', os⟩ _ (y.1 :: nl) Q X' (k' _ _ xd hx) n' (Within.cons _ _ hw) (by rw [List.length_cons]; omega) hF' (fun z hz => hy z (List.mem_cons_of_mem _ hz)) fun h2 tk2 k2 n2 => ?_
    refine hq h2 tk2 (fun b o hb e => k2 b o hb (k' b o hb e)) ?_
    rw [List.map_cons, ← putM_cons]
    exact n2

/-- what is left of a made exception: its object at e, its dict at d -/
structure ErrMade (h h' : Heap) (e C d : Addr) (mA : Str → Option Value) : Prop where
  keep : ∀ b o, h.get? b = some o → h'.get? b = some o
  new : h.objs.size ≤ e
  obj : ∃ t0, h'.get? e = some (excObj C t0 (some d) .none)
  dnew : h.objs.size ≤ d
  dne : d ≠ e
  ns : h'.Ns1 d mA

/-- the text of __init__ with the fields fs; the function object -/
structure IniK (K : Frag) (fI cc cda : Addr) (qual t : Str) (fs : List Str) : Prop where
  lk : ∃ (oc : Value) (od : Option Addr) (dV kV doc pm : Value) (an : Option Addr) (ct : Value) (osl : Array (Option Value)) (p : Pos) (qs : List Pos) (p0 p1 p2 p3 p4 : Pos) (l : List (Str × Pos × Pos × Pos × Pos)),
    K.lookup fI = some ⟨oc, od, .func (ksFn "__init__" qual (eiA (fs.zip qs) p) (eiSup t p0 p1 p2 p3 p4 :: setsB l) (eiS fs) dV kV doc pm an (.ref cda) ct cc), osl⟩ ∧
      (p2.endLine == p4.line) = true ∧ l.map (·.1) = fs ∧ qs.length = fs.length
  code : codeIn K (.ref cda) qual = true
  ne : ∀ f ∈ fs, ¬ f = "self" ∧ ¬ f = "__class__" ∧ ¬ f = "super" ∧ (f == ("__debug__" : Str)) = false
  nd : fs.Nodup
  some_ : fs ≠ [] ∧ fs.length ≤ 10
  bind : ∀ fd, (∃ oc od osl, K.lookup fI = some ⟨oc, od, .func fd, osl⟩) → ∀ (u : Value) (us : List Value), us.length = fs.length → bindArgs fd ⟨u :: us, []⟩ = pure ((("self" : Str), u) :: fs.zip us)

theorem lookup_cons_if {β : Type} (a : Str) (b : β) (l : List (Str × β)) (y : Str) : List.lookup y ((a, b) :: l) = if y = a then some b else l.lookup y := by
  rw [List.lookup_cons]
  by_cases h : y = a
  · subst h; simp
  · have z : (y == a) = false := by simpa using h
    rw [z, if_neg h]
theorem lookup_append_ {β : Type} (l r : List (Str × β)) (y : Str) : List.lookup y (l ++ r) = (l.lookup y).or (r.lookup y) := by
  induction l with
  | nil => simp
  | cons p l ih =>
    obtain ⟨a, b⟩ := p
    rw [List.cons_append, lookup_cons_if, lookup_cons_if, ih]
    split <;> simp
theorem lookup_rev {β : Type} : ∀ (l : List (Str × β)), (l.map (·.1)).Nodup → ∀ k v, (k, v) ∈ l → l.reverse.lookup k = some v
  | [], _, _, _, h => nomatch h
  | (a, b) :: l, nd, k, v, h => by
    rw [List.map_cons, List.nodup_cons] at nd
    rw [List.reverse_cons, lookup_append_]
    rcases List.mem_cons.mp h with e | h
    · injection e with e1 e2
      subst e1
      subst e2
      have z : l.reverse.lookup k = none := by
        rw [List.lookup_eq_none_iff]
        intro p hp
        have hp' : p ∈ l := by simpa using hp
        have : ¬ k = p.1 := fun e => nd.1 (by rw [e]; exact List.mem_map_of_mem (f := (·.1)) hp')
        simpa using this
      rw [z, Option.none_or, lookup_cons_if, if_pos rfl]
    · rw [lookup_rev l nd.2 k v h]
      rfl
theorem eiS_loc {fs : List Str} {y : Str} (h : y = "self" ∨ y ∈ fs) : (eiS fs).names.lookup y = some .local := by
  unfold eiS
  show List.lookup y ((("self" : Str), NameKind.local) :: _) = _
  rw [lookup_cons_if]
  by_cases e : y = "self"
  · rw [if_pos e]
  · rw [if_neg e, lookup_append_]
    have hy : y ∈ fs := h.resolve_left e
    have : (fs.map fun f => (f, NameKind.local)).lookup y = some .local := by
      clear h e
      induction fs with
      | nil => cases hy
      | cons a l ih =>
        rw [List.map_cons, lookup_cons_if]
        by_cases e : y = a
        · rw [if_pos e]
        · rw [if_neg e]
          exact ih ((List.mem_cons.mp hy).resolve_left e)
    rw [this]
    rfl
theorem eiS_out {fs : List Str} {y : Str} (h : ¬ y = "self") (hy : y ∉ fs) : (eiS fs).names.lookup y = List.lookup y [(("__class__" : Str), NameKind.free), (("super" : Str), NameKind.globalImplicit)] := by
  unfold eiS
  show List.lookup y ((("self" : Str), NameKind.local) :: _) = _
  rw [lookup_cons_if, if_neg h, lookup_append_]
  have : (fs.map fun f => (f, NameKind.local)).lookup y = none := by
    rw [List.lookup_eq_none_iff]
    intro p hp
    obtain ⟨f, hf, rfl⟩ := List.mem_map.mp hp
    have : ¬ y = f := fun e => hy (e ▸ hf)
    simpa using this
  rw [this]
  rfl
theorem eiS_cell {fs : List Str} : ∀ z ∈ (eiS fs).names, z.2 ≠ .cell := by
  intro z hz
  unfold eiS at hz
  rcases List.mem_cons.mp hz with rfl | hz
  · exact fun e => nomatch e
  rcases List.mem_append.mp hz with hz | hz
  · obtain ⟨f, _, rfl⟩ := List.mem_map.mp hz
    exact fun e => nomatch e
  · rcases List.mem_cons.mp hz with rfl | hz
    · exact fun e => nomatch e
    · rcases List.mem_cons.mp hz with rfl | hz
      · exact fun e => nomatch e
      · cases hz

/-- THE RUN of __init__ -/
theorem err_init (T : ErrK prog K mg C fI cc cda B initId newId bm cn fs) (N : IniK K fI cc cda qual t fs) (M0 : Mod K mg base) {us : List Value} {args : Args} {t0 : Addr} (hul : us.length = fs.length)
    (kb : ∀ b o, base.get? b = some o → s.heap.get? b = some o) (hx : s.heap.get? x = some (excObj C t0 none .none)) (nK : K.lookup x = none) (hroom : A.depth < recursionLimit)
    (hb : ∀ fd, (∃ oc od osl, K.lookup fI = some ⟨oc, od, .func fd, osl⟩) → BindsTo s fd args ((("self" : Str), Value.ref x) :: fs.zip us))
    (hq : ∀ h' tk' d t1, (∀ b o, b ≠ x → s.heap.get? b = some o → h'.get? b = some o) → s.heap.objs.size ≤ d → h'.get? x = some (excObj C t1 (some d) .none) →
      h'.Ns1 d (putM fs (fun f => ((fs.zip us).lookup f).getD .none) fun _ => none) → R (.ok (.ret .none)) { s with heap := h', toks := tk' }) :
    codeAny (model prog w) A (.call (.ref fI) args) R s := by
  obtain ⟨oc, od, dV, kV, doc, pm, an, ct, osl, p, qs, p0, p1, p2, p3, p4, l, lk, hl, hlf, hqs⟩ := N.lk
  have X : K.In s.heap := M0.kin.keeps kb
  have nl : s.heap.NoLimit := M0.nolimit.keeps kb
  have zf : (fs.zip us).map (·.1) = fs := by rw [List.map_fst_zip (by omega)]
  have nself : ("self" : Str) ∉ fs := fun h => (N.ne _ h).1 rfl
  have nd' : (((("self" : Str), Value.ref x) :: fs.zip us).map (·.1)).Nodup := by
    rw [List.map_cons, zf]
    exact List.nodup_cons.mpr ⟨nself, N.nd⟩
  refine PySem.ks_codeAny_call_defAt (binds := (("self" : Str), Value.ref x) :: fs.zip us) hroom (X _ _ lk) rfl nl (PySem.W.codeRec_of X N.code) rfl (hb _ ⟨_, _, _, lk⟩) eiS_cell (fun y hy => eiS_loc ?_) (fun h₁ hns k₁ => ?_) rfl rfl rfl
  · rcases List.mem_cons.mp hy with rfl | hy
    · exact .inl rfl
    · exact .inr (List.of_mem_zip hy).1
  have hm : ((("self" : Str), Value.ref x) :: fs.zip us).reverse.lookup ("self" : Str) = some (Value.ref x) := lookup_rev _ nd' _ _ List.mem_cons_self
  have hmf : ∀ f ∈ fs, ((("self" : Str), Value.ref x) :: fs.zip us).reverse.lookup f = some (((fs.zip us).lookup f).getD .none) := fun f hf => by
    have : f ∈ (fs.zip us).map (·.1) := by rw [zf]; exact hf
    obtain ⟨⟨f', u⟩, hm', rfl⟩ := List.mem_map.mp this
    have ndz : ((fs.zip us).map (·.1)).Nodup := by rw [zf]; exact N.nd
    have e1 : (fs.zip us).lookup f' = some u := by
      have z := lookup_rev ((fs.zip us).reverse) (by rw [List.map_reverse]; exact (List.reverse_perm _).nodup_iff.mpr ndz) f' u (by simpa using hm')
      rw [List.reverse_reverse] at z
      exact z
    show _ = some (((fs.zip us).lookup f').getD .none)
    rw [e1]
    exact lookup_rev _ nd' _ _ (List.mem_cons_of_mem _ hm')
  have hxL : s.heap.objs.size ≠ x := Nat.ne_of_gt (Heap.lt_size hx)
  have ncl : ("__class__" : Str) ∉ fs := fun h => (N.ne _ h).2.1 rfl
  have nsu : ("super" : Str) ∉ fs := fun h => (N.ne _ h).2.2.1 rfl
  refine ks_wpAt_execs_cons (err_sup (scope := eiS fs) T M0 (fun b o e => k₁ b o (kb b o e)) (k₁ _ _ hx) hns hm hxL lk rfl rfl rfl rfl (eiS_loc (.inl rfl)) ?_ ?_ hl fun h2 tk2 t2 k2 hx2 hns2 => ?_)
  · rw [eiS_out (by decide) ncl]; rfl
  · rw [eiS_out (by decide) nsu]; rfl
  show _root_.PySem.wpAt _ _ _ (execs (setsB l) _) _ _ _
  refine wpAt_of_wpAny ?_
  have X2 : K.In h2 := fun a o e => k2 a o (fun z => by rw [z, nK] at e; cases e) (k₁ a o (X a o e))
  obtain ⟨hne, hlen⟩ := N.some_
  cases l with
  | nil => exact absurd hlf.symm hne
  | cons y r =>
    have setok : ∀ z ∈ y :: r, SetOk K C x s.heap.objs.size (ksEnv qual (eiS fs) s.heap.objs.size fI (.ref cda) cc) (fun y => ((("self" : Str), Value.ref x) :: fs.zip us).reverse.lookup y)
        (fun f => ((fs.zip us).lookup f).getD .none) z.1 := fun z hz => by
      have hzf : z.1 ∈ fs := by rw [← hlf]; exact List.mem_map_of_mem hz
      exact ⟨T.tk _ hzf, eiS_loc (.inr hzf), hmf _ hzf, (N.ne _ hzf).2.2.2⟩
    have S := setok y List.mem_cons_self
    refine wpAny_execs_cons (plainObj_wpAny_Assign_Attribute (ldF rfl S.loc hns2 S.at_ (ldF rfl (eiS_loc (.inl rfl)) hns2 hm ?_ (by decide)) S.dbg))
    refine errset_new T.fam X2 hx2 T.ov T.hd S.tk T.sa fun h3 tk3 dx k3 dz dxn hx3 n3 => ?_
    have nKd : K.lookup dx = none := by
      cases e : K.lookup dx with
      | none => rfl
      | some o => exact absurd (Heap.lt_size (X2 _ _ e)) (Nat.not_lt.mpr dz)
    have X3 : K.In h3 := fun a o e => k3 a o (fun z => by rw [z, nK] at e; cases e) (X2 a o e)
    have Ld : s.heap.objs.size ≠ dx := Nat.ne_of_lt (Nat.lt_of_lt_of_le hns2.lt dz)
    have hns3 : h3.Ns s.heap.objs.size (fun y => ((("self" : Str), Value.ref x) :: fs.zip us).reverse.lookup y) := by
      obtain ⟨o, es, ep, ho, r⟩ := hns2
      exact ⟨o, es, ep, k3 _ _ hxL ho, r⟩
    have hrl : r.length ≤ 10 := by
      have := congrArg List.length hlf
      rw [List.length_map, List.length_cons] at this
      omega
    refine sets_old (env := ksEnv qual (eiS fs) s.heap.objs.size fI (.ref cda) cc) T.fam T.ov T.hd T.sa (m := fun y => ((("self" : Str), Value.ref x) :: fs.zip us).reverse.lookup y) (val := fun f => ((fs.zip us).lookup f).getD .none) (dx := dx) rfl (eiS_loc (.inl rfl)) hm Ld dxn.symm nKd r
      _ _ [y.1] _ X3 hx3 n3 (Within.cons _ _ Within.nil) (by rw [List.length_singleton]; omega) hns3 (fun z hz => setok z (List.mem_cons_of_mem _ hz)) fun h4 tk4 k4 n4 => ?_
    refine hq h4 tk4 dx t2 (fun b o hb e => ?_) (Nat.le_of_lt (Nat.lt_of_lt_of_le hns2.lt dz)) (k4 _ _ dxn.symm hx3) ?_
    · have e2 := k2 b o hb (k₁ b o e)
      have nbd : b ≠ dx := Nat.ne_of_lt (Nat.lt_of_lt_of_le (Heap.lt_size e2) dz)
      exact k4 b o nbd (k3 b o hb e2)
    · have e4 : putM (r.map (·.1)) (fun f => ((fs.zip us).lookup f).getD .none) (fun z => if z = y.1 then some (((fs.zip us).lookup y.1).getD .none) else none) = putM fs (fun f => ((fs.zip us).lookup f).getD .none) fun _ => none := by
        have q := putM_cons (f := y.1) (l := r.map (·.1)) (val := fun f => ((fs.zip us).lookup f).getD .none) (m0 := fun _ => none)
        rw [← List.map_cons, hlf] at q
        exact q
      rw [← e4]
      exact n4

/-- the class called -/
theorem err_made (T : ErrK prog K mg C fI cc cda B initId newId bm cn fs) (N : IniK K fI cc cda qual t fs) (M0 : Mod K mg base) {us : List Value} (hul : us.length = fs.length)
    (kb : ∀ b o, base.get? b = some o → s.heap.get? b = some o) (hroom : A.depth + 1 < recursionLimit)
    (hq : ∀ h' tk e d, ErrMade s.heap h' e C d (putM fs (fun f => ((fs.zip us).lookup f).getD .none) fun _ => none) → R (.ok (.ret (.ref e))) { s with heap := h', toks := tk }) :
    codeAny (model prog w) A (.call (.ref C) ⟨us, []⟩) R s := by
  have X : K.In s.heap := M0.kin.keeps kb
  obtain ⟨nm, N', qn, bs, bm', hdct, sn, sub, ab, col, dd, k0, k1, k2, k3, k5, hC, hT⟩ := PySem.W.excInit_of X T.ini
  obtain ⟨oI, hoI, hcI⟩ := err_fn T X
  have hz : us.length ≤ sizeLine := by rw [sizeLine_eq, hul]; have := N.some_.2; omega
  obtain ⟨hp, g, dr, tk, os⟩ := s
  have old : ∀ b o, hp.get? b = some o → ((hp.push (PySem.W.kdv_tup us)).push (HandSPX.excO C hp.objs.size)).get? b = some o := fun b o e => Heap.get?_push_of_some _ (Heap.get?_push_of_some _ e)
  have hget : ((hp.push (PySem.W.kdv_tup us)).push (HandSPX.excO C hp.objs.size)).get? (hp.objs.size + 1) = some (HandSPX.excO C hp.objs.size) := by heap_get
  have hnx : K.lookup (hp.objs.size + 1) = none := by
    cases e : K.lookup (hp.objs.size + 1) with
    | none => rfl
    | some o => exact absurd (Nat.lt_of_succ_lt (Heap.lt_size (show hp.get? _ = some o from X _ _ e))) (Nat.lt_irrefl _)
  refine HandSPX.call_own T.fam.FB hT hC (looks_findIn X T.iC) (fun self => PySem.W.exc_bind hoI hcI self) hz ?_
  refine err_init (x := hp.objs.size + 1) (t0 := hp.objs.size) (us := us) (s := ⟨(hp.push (PySem.W.kdv_tup us)).push (HandSPX.excO C hp.objs.size), g, dr, tk, os⟩) T N M0 hul (fun b o e => old b o (kb b o e)) hget hnx ?_
    (fun fd hfd => BindsTo.of_eq (N.bind fd hfd _ us hul)) fun h' tk' d t1 k' dz hx n' => ?_
  · show A.depth + 1 < recursionLimit
    exact hroom
  · have dz' : hp.objs.size + 1 + 1 ≤ d := by
      have q := dz
      rw [Heap.size_push, Heap.size_push] at q
      exact q
    exact ⟨rfl, hq h' tk' (hp.objs.size + 1) d ⟨fun b o e => k' b o (Nat.ne_of_lt (Nat.lt_succ_of_lt (Heap.lt_size e))) (old b o e), Nat.le_succ _, ⟨_, hx⟩, Nat.le_trans (Nat.le_trans (Nat.le_succ _) (Nat.le_succ _)) dz', (Nat.ne_of_lt (Nat.lt_of_succ_le dz')).symm, n'⟩⟩
end

/-! ### raise C(..) over the layer -/
/-- the fields of an exception's own dict, as values of the layer -/
theorem relO_putM : ∀ {fs : List Str} {vs : List V} {us : List Value}, Vals vs us → vs.length = fs.length → ∀ y, RelO ((fs.zip vs).lookup y) (putM fs (fun f => ((fs.zip us).lookup f).getD .none) (fun _ => none) y)
  | [], _, _, _, _, y => by simp [putM, RelO]
  | f :: fs, [], _, _, h, _ => by simp at h
  | f :: fs, v :: vs, u :: us, .cons r rs, h, y => by
    rw [List.zip_cons_cons, lookup_cons_if]
    by_cases e : y = f
    · subst e
      simp [putM, RelO, lookup_cons_if, r]
    · rw [if_neg e]
      have ih := relO_putM (fs := fs) rs (by simpa using h) y
      have : putM (f :: fs) (fun g => (((f :: fs).zip (u :: us)).lookup g).getD .none) (fun _ => none) y = putM fs (fun g => ((fs.zip us).lookup g).getD .none) (fun _ => none) y := by
        unfold putM
        by_cases h : y ∈ fs
        · simp [h, List.zip_cons_cons, lookup_cons_if, e]
        · simp [h, e]
      rw [this]
      exact ih
section
variable {X : Cx} {C fI cc cda : Addr} {B initId newId : String} {bm : List Value} {cn qual t : Str} {fs : List Str} {W : WX}
def tMkErr (C : Addr) (fs : List Str) (ta : TA) : L2.St → Hp → XK → Prop := fun σ H Q => ta σ H fun vs H1 => vs.length = fs.length ∧ ∀ d, H1 d = none → Q (.ref C) (some d) (upd H1 d (.xd (fs.zip vs)))
theorem pmk_err {e : Expr} {es : List Expr} {ta : TA} {p pos : Pos} (T : ErrK X.prog X.K X.mg C fI cc cda B initId newId bm cn fs) (N : IniK X.K fI cc cda qual t fs) (kC : keepIn X.K (.ref C) = true)
    (eC : subIn X.K (.ref C) (.type "BaseException") = some true) (tC : typeIn X.K (.ref C) = some (.type "type")) {k : Nat} (hr : Room k X.A) (ha : PA X (e :: es) ta) (hg : Gl X cn) (hdb : (cn == ("__debug__" : Str)) = false := by decide)
    (he : starEach (e :: es) X.env = (false, eval e X.env) :: starEach es X.env := by rfl) (hpl : (backTo pos (starEach es X.env)).any (·.1) = false := by rfl) :
    PMk X (.Call (.Name cn p) (e :: es) [] pos) (tMkErr C fs ta) := by
  intro pins s σ H Q I h
  refine wpAny_Call_Name_kw (ld_glob I hg T.gC ?_ hdb)
  refine PySem.W.callWith_K (h₀ := X.base) I.ok.mod.kin kC (thn (ha.run pos pins s σ H _ I h) ?_) he hpl
  rintro us s1 ⟨vs, H1, I1, r1, hvl, q1⟩
  refine ⟨I1.kIn, ?_⟩
  show wpAny _ _ (call (.ref C) us) _ _ _
  have hul : us.length = fs.length := r1.length.symm.trans hvl
  have hbk := I1.bk
  obtain ⟨hp, g, dr, tk, os⟩ := s1
  refine wpAny_call (err_made T N I1.mod hul hbk (by have := hr.dp; omega) fun h' tk' a d M => ?_)
  show MkP X pins σ Q (.ref a) ⟨h', g, dr, tk', os⟩
  obtain ⟨t0, ha'⟩ := M.obj
  obtain ⟨G', g1, g2⟩ := restrict h' fun b => decide (b ≠ a)
  have gk : ∀ b, b ≠ a → G'.get? b = h'.get? b := fun b hb => g1 b (decide_eq_true hb)
  have ge : G'.get? a = none := g2 a (by simp)
  have gold : ∀ b o, hp.get? b = some o → G'.get? b = some o := fun b o q => (gk b (Nat.ne_of_lt (Nat.lt_of_lt_of_le (Heap.lt_size q) M.new))).trans (M.keep b o q)
  have ob : ObjOk X.prog X.w (upd H1 d (.xd (fs.zip vs))) G' d (.xd (fs.zip vs)) := ⟨_, M.ns.at (fun o q => (gk d M.dne).trans q), relO_putM r1 hvl⟩
  have J : Inv X pins σ (upd H1 d (.xd (fs.zip vs))) ⟨G', g, dr, tk', os⟩ := I1.laid (t' := tk') gold M.dnew ob
  have subs : ∀ b o, G'.get? b = some o → h'.get? b = some o := fun b o q => by
    by_cases hb : b = a
    · rw [hb, ge] at q; cases q
    · exact (gk b hb).symm.trans q
  refine ⟨a, _, _, ⟨G', g, dr, tk', os⟩, _, .ref C, some d, rfl, J, subs, ge, ha', ⟨rfl, rfl⟩, rfl, rfl, ?_, rfl, I1.bare, raises_own eC tC, q1 d (I1.hok.fresh M.dnew)⟩
  rw [upd_ne (Ne.symm M.dne)]
  exact I1.hok.fresh M.new
/-- raise C(e, ..) -/
def tRaiseErr (C : Addr) (fs : List Str) (W : WX) (ta : TA) : TS := fun _ σ H => tMkErr C fs ta σ H fun cls d H' => W cls d σ H'
theorem ps_raiseErr {e : Expr} {es : List Expr} {ta : TA} {p pos pos2 : Pos} (hc : X.calm = true) (T : ErrK X.prog X.K X.mg C fI cc cda B initId newId bm cn fs) (N : IniK X.K fI cc cda qual t fs) (kC : keepIn X.K (.ref C) = true)
    (eC : subIn X.K (.ref C) (.type "BaseException") = some true) (tC : typeIn X.K (.ref C) = some (.type "type")) {k : Nat} (hr : Room k X.A) (tkW : Takes X W) (ha : PA X (e :: es) ta) (hg : Gl X cn) (hdb : (cn == ("__debug__" : Str)) = false := by decide)
    (he : starEach (e :: es) X.env = (false, eval e X.env) :: starEach es X.env := by rfl) (hpl : (backTo pos (starEach es X.env)).any (·.1) = false := by rfl) :
    PS X (.Raise (some (.Call (.Name cn p) (e :: es) [] pos)) none pos2) (tRaiseErr C fs W ta) := ps_raise hc tkW (pmk_err T N kC eC tC hr ha hg hdb he hpl)
end
end BJ

/-! try: body / except X as n: suite, where the exception stays known behind the statement; its fields -/
namespace BJ
open PySem PySem.Spec PyProof.Rows L2
open PySem.W (Looks Frag findIn subIn nsIn typeIn keepIn hasDictIn)

/-- an exception object that is held: of class cls, its own dict at d -/
def ExcK (a : Addr) (cls : Value) (d : Option Addr) : HO := .ext fun h => ∃ (oe : Obj) (vs : Array Value), h.get? a = some oe ∧ Zc cls d oe ∧ oe.data = .fields vs
theorem excK_ok {P : Program} {w : World} {H : Hp} {h : Heap} {a : Addr} {cls : Value} {d : Option Addr} {oe : Obj} {vs : Array Value} (e : h.get? a = some oe) (z : Zc cls d oe) (hd : oe.data = .fields vs) : ObjOk P w H h a (ExcK a cls d) :=
  ⟨⟨oe, vs, e, z, hd⟩, ⟨oe, e⟩, fun _ _ ⟨o, v, q, r⟩ k => ⟨o, v, k o q, r⟩⟩
theorem excK_at {P : Program} {w : World} {H : Hp} {h : Heap} {a : Addr} {cls : Value} {d : Option Addr} (x : HOk P w H h) (e : H a = some (ExcK a cls d)) : ∃ (oe : Obj) (vs : Array Value), h.get? a = some oe ∧ Zc cls d oe ∧ oe.data = .fields vs := by
  have q : ObjOk P w H h a (ExcK a cls d) := x a _ e
  exact q.1

section
variable {X : Cx} {pins : List (Addr × Obj)} {σ : L2.St} {H : Hp} {s : Shared}
/-- a pinned object that is new is tracked from here on -/
theorem Inv.track {a : Addr} {oe : Obj} {φ : Heap → Prop} (I : Inv X ((a, oe) :: pins) σ H s) (hnew : X.s_0.heap.get? a = none) (hp : ∀ p ∈ X.pn ++ pins, p.1 ≠ a)
    (ok : ObjOk X.prog X.w (upd H a (.ext φ)) s.heap a (.ext φ)) : Inv X pins σ (upd H a (.ext φ)) s := by
  obtain ⟨ha, na, nL, nF, nc⟩ := I.pin (a, oe) (List.mem_append_right _ List.mem_cons_self)
  have up : ∀ b u, H b = some u → upd H a (.ext φ) b = some u := fun b u e => by
    rw [upd_ne (ne_of_none e na)]
    exact e
  have old : ∀ b o, X.s_0.heap.get? b = some o → b ≠ a := fun b o e z => by
    rw [z, hnew] at e
    cases e
  constructor
  · exact I.ok
  · exact I.os
  · exact I.bare
  · exact ⟨I.base.keep, I.base.slot, fun b o e n x => by rw [upd_ne (old b o e)]; exact I.base.free b o e n x, I.base.there, fun b xs e => up _ _ (I.base.tups b xs e), fun b o u e => up _ _ (I.base.frzs b o u e),
      fun b ps e => let ⟨m, q⟩ := I.base.tbls b ps e; ⟨m, up _ _ q⟩⟩
  · exact I.loc
  · exact I.cell
  · rw [upd_ne (Ne.symm nL)]
    exact I.free
  · intro y c e
    have q : c ≠ a := fun z => by
      obtain ⟨v, o, ho, hd⟩ := I.cell y c e
      rw [z] at ho
      have ha' : s.heap.get? a = some oe := ha
      rw [ha'] at ho
      cases ho
      exact nc _ hd
    rw [upd_ne q]
    exact I.freeC y c e
  · intro p hpm
    obtain ⟨e, n, r⟩ := I.pin p ((List.mem_append.mp hpm).elim (fun z => List.mem_append_left _ z) fun z => List.mem_append_right _ (List.mem_cons_of_mem _ z))
    exact ⟨e, by rw [upd_ne (hp p hpm)]; exact n, r⟩
  · intro b u e
    by_cases hb : b = a
    · subst hb
      rw [upd_same] at e
      cases e
      exact ok
    · rw [upd_ne hb] at e
      exact (I.hok b u e).stay (fun _ _ _ q => q) (fun c q => up _ _ q) fun c xs q => up _ _ q
  · exact I.len

/-- the test of an except clause -/
def ClauseT (X : Cx) (t : Expr) (mt : Value → Option Bool) : Prop := ∀ (a : Addr) (pn : List (Addr × Obj)) (s : Shared) (σ : L2.St) (H : Hp) (cls : Value) (b : Bool) (E : Value → Shared → Prop) (Q : Value → Shared → Prop),
  Inv (X.suite a pn) [] σ H s → Looks (model X.prog X.w) s.heap (typeOf (.ref a)) cls → mt cls = some b →
  (∀ c h' tk', (∀ b o, s.heap.get? b = some o → h'.get? b = some o) → Looks (model X.prog X.w) h' (excMatches (.ref a) c) b → Q c { s with heap := h', toks := tk' }) →
  wpAny (model X.prog X.w) (X.A.mark (some (.ref a))) (eval t X.env) Q E s
theorem name_ld {x : Str} {c : Value} {np : Pos} {A : Around} {E : Value → Shared → Prop} {Q : Value → Shared → Prop} {a : Addr} {pn : List (Addr × Obj)} (hc : Names X x c) (S : Inv (X.suite a pn) [] σ H s) (q : Q c s) :
    wpAny (model X.prog X.w) (X.A.mark (some (.ref a))) (eval (.Name x np) X.env) Q E s := by
  obtain ⟨hg, hdbg, hm | ⟨hm, hv, hnn⟩⟩ := hc
  · exact ld_glob (X := X.suite a pn) S hg hm q hdbg
  · exact ld_blt (X := X.suite a pn) S hg hm hv q hnn hdbg
theorem cl_one {x : Str} {c : Value} {np : Pos} (hc : Names X x c) : ClauseT X (.Name x np) (fun cls => PySem.W.exmOne X.K cls c) := fun a pn s σ H cls b E Q S LT hb hq =>
  name_ld (A := X.A) hc S (hq c s.heap s.toks (fun _ _ e => e) (PySem.W.exm_one S.kIn LT hb))
theorem cl_three {x1 x2 x3 : Str} {c1 c2 c3 : Value} {p1 p2 p3 p : Pos} {k : Nat} (h1 : Names X x1 c1) (h2 : Names X x2 c2) (h3 : Names X x3 c3) (hl : starEach [.Name x1 p1, .Name x2 p2, .Name x3 p3] X.env = [(false, eval (.Name x1 p1) X.env), (false, eval (.Name x2 p2) X.env), (false, eval (.Name x3 p3) X.env)] := by rfl) :
    ClauseT X (.Tuple [.Name x1 p1, .Name x2 p2, .Name x3 p3] k p) (fun cls => PySem.W.exmAny X.K cls [c1, c2, c3]) := fun a pn s σ H cls b E Q S LT hb hq => by
  refine wpAny_Tuple_spliced ?_
  rw [hl]
  refine Calls.spliced_cons (name_ld (A := X.A) h1 S ?_)
  refine Calls.spliced_cons (name_ld (A := X.A) h2 S ?_)
  refine Calls.spliced_cons (name_ld (A := X.A) h3 S ?_)
  refine Calls.spliced_nil ⟨by rw [sizeLine_eq]; show 3 ≤ 16777216; decide, ?_⟩
  have k : ∀ b o, s.heap.get? b = some o → (s.heap.push ({ cls := .type "tuple", data := .seq [c1, c2, c3].toArray } : Obj)).get? b = some o := fun b o e => Heap.get?_push_of_some _ e
  exact hq _ _ s.toks k (PySem.W.exm_tup3 (S.kIn.keeps k) (fun A Q E s' k' q => LT A Q E s' (fun b o e => k' b o (k b o e)) q) (Heap.get?_push_size _ rfl) hb)
end

theorem FlyingZ.grow {base h h' : Heap} {l : List Env} {e : Addr} {Z : Obj → Prop} (x : HandSPX.FlyingZ base l e Z h) (k : ∀ b o, h.get? b = some o → h'.get? b = some o) : HandSPX.FlyingZ base l e Z h' := by
  obtain ⟨f1, f2, f3, oe, vs, T, oT, ts, a1, a2, a3, a4, a5, a6, a7, a8⟩ := x
  exact ⟨fun b o e => k b o (f1 b o e), f2, Heap.FunFrames.of_keeps (fun b o e _ => ⟨o, k b o e, rfl⟩) f3, oe, vs, T, oT, ts, k _ _ a1, a2, a3, a4, a5, a6, k _ _ a7, a8⟩

/-- what the clause wishes of an exception of the body; behind it the exception is known at a -/
def wTry (mt : Value → Option Bool) (i : Nat) (ts : Addr → Value → Option Addr → TS) (Wout : WX) (D : Ends) : WX := fun cls d σ H =>
  ∃ b, mt cls = some b ∧
    (b = true → ∀ a, H a = none → ts a cls d { nx := fun σ' H' => D.nx (σ'.set i none) (upd H' a (ExcK a cls d)), rt := D.rt, bk := fun σ' H' => D.bk (σ'.set i none) (upd H' a (ExcK a cls d)), ct := fun σ' H' => D.ct (σ'.set i none) (upd H' a (ExcK a cls d)) } (σ.set i (some (.ref a))) H) ∧
    (b = false → Wout cls d σ H)
section
variable {X : Cx} {n : Str} {t : Expr} {mt : Value → Option Bool} {i : Nat} {body suite : List Stmt} {b₀ : Stmt} {pos pos' : Pos} {tb : WX → TS} {ts : Addr → Value → Option Addr → TS} {Wout : WX}
theorem ps_tryK (hs : X.stack = X.env :: X.outer) (hf : X.env.frame = some X.env.locals) (hex : X.ex = []) (hN : X.N.Nodup) (hi : X.N[i]? = some n) (hln : X.env.kindOf n = some .local) (hc : ClauseT X t mt) (tk : Takes X Wout)
    (hb : ∀ (W : WX) (pn : List (Addr × Obj)) (xe : Value → Shared → Prop), Takes (X.tr pn xe) W → PassesOwn (model X.prog X.w) X.A X.env xe → PSs (X.tr pn xe) body (tb W))
    (hsu : ∀ (a : Addr) (oe : Obj) (cls : Value) (d : Option Addr) (pn : List (Addr × Obj)), Zc cls d oe → (∃ vs, oe.data = .fields vs) → PSs (X.suite a ((a, oe) :: pn)) (b₀ :: suite) (ts a cls d)) :
    PS X (.Try body [.ExceptHandler (some t) (some n) (b₀ :: suite) pos'] [] [] pos) (fun D σ H => tb (wTry mt i ts Wout D) D σ H) where
  run := by
    intro pins s σ H D I h
    have ok := I.ok
    have hfr : X.A.frames = some (X.env :: X.outer) := by rw [ok.frames, hs]
    refine wpAny_Try_except (wpAny_mono ((hb (wTry mt i ts Wout D) (X.pn ++ pins) (fun e s₁ => wpAny (model X.prog X.w) X.A (noteFrame e X.env) (fun _ s₂ =>
      wpAny (model X.prog X.w) X.A (setFlight e none) (fun _ s₃ => wpAny (model X.prog X.w) X.A (handleBy e X.env [.ExceptHandler (some t) (some n) (b₀ :: suite) pos']) (SP X pins D) X.xe s₃) X.xe s₂) X.xe s₁)
      ?cat PassesOwn.looking).run [] s σ H D (I.toTry _) h) ?thru fun e s1 he => he)
    case thru =>
      rintro (_ | _ | _ | u) s1 hsp
      · obtain ⟨σ', H', J, q⟩ := hsp
        exact wpAny_execs_nil ⟨σ', H', J.ofTry ok, q⟩
      · obtain ⟨σ', H', J, q⟩ := hsp
        exact ⟨σ', H', J.ofTry ok, q⟩
      · obtain ⟨σ', H', J, q⟩ := hsp
        exact ⟨σ', H', J.ofTry ok, q⟩
      · obtain ⟨v, σ', H', J, r, q⟩ := hsp
        exact ⟨v, σ', H', J.ofTry ok, r, q⟩
    case cat =>
      rintro u s' ⟨a, B, sI, pins', σ', H', cls, d, rfl, J0, nb, up, sky, na, os, ag, b, hb1, hyes, hno⟩
      have J : Inv X pins σ' H' sI := J0.ofTry ok
      rw [hs] at sky
      refine Sky.land Zc.steady hfr hf (show Sky B (X.env :: X.outer) a (Zc cls d) X.env.locals s'.heap from sky) fun h3 fl3 up3 => ?_
      have J3 : Inv X pins σ' H' { s' with heap := h3 } := J.landed nb fl3.1 (up.trans up3) os ag
      obtain ⟨oe3, vs3, he3, hz3, hd3⟩ := fl3.there
      have nfr : a ∉ frs (X.env :: X.outer) := fun hm => by
        obtain ⟨_, o', e', hnf⟩ := fl3.2.2.1.mem hm
        rw [he3] at e'
        cases e'
        exact hnf _ hd3
      have nL : a ≠ X.env.locals := fun z => nfr (List.mem_filterMap.mpr ⟨X.env, List.mem_cons_self, by rw [hf, z]⟩)
      have nF : a ∉ X.fs := fun hm => by
        obtain ⟨e, he, q⟩ := List.mem_filterMap.mp hm
        exact nfr (List.mem_filterMap.mpr ⟨e, List.mem_cons_of_mem _ he, q⟩)
      have nI : sI.heap.get? a = none := by
        cases e : sI.heap.get? a with
        | none => rfl
        | some o =>
          have z := nb a o e (by rw [hs]; exact nfr)
          rw [fl3.2.1] at z
          cases z
      have n0 : X.s_0.heap.get? a = none := by
        cases e : X.s_0.heap.get? a with
        | none => rfl
        | some o =>
          obtain ⟨o', z⟩ := J.base.there a o e (by rw [hex]; exact fun z => nomatch z)
          rw [nI] at z
          cases z
      have np : ∀ p ∈ X.pn ++ pins, p.1 ≠ a := fun p hp z => by
        have q := (J.pin p hp).1
        rw [z, nI] at q
        cases q
      have S3 := J3.suite he3 hd3 na nL nF
      have LT : Looks (model X.prog X.w) h3 (typeOf (.ref a)) cls := fun A Q E s k q => wpAny_typeOf_ref (k _ _ he3) (by rw [hz3.1]; exact q)
      refine PySem.W.exc_clause_as (hc a _ _ σ' H' cls b _ _ S3 LT hb1 fun c h4 tk4 k4 LM => ⟨b, LM, ?_⟩)
      have fl4 := FlyingZ.grow fl3 k4
      have J4 : Inv X pins σ' H' { s' with heap := h4, toks := tk4 } := J3.kept (t' := tk4) k4
      cases b with
      | true =>
        refine HandSPX.lands_againZ fl4 fun h5 fl5 up5 => ?_
        have J5 : Inv X pins σ' H' { s' with heap := h5, toks := tk4 } :=
          J.landed (s' := { s' with heap := h5, toks := tk4 }) nb fl5.1 (((up.trans up3).trans (Heap.UpToSlots.of_keeps k4)).trans up5) os ag
        obtain ⟨oe5, vs5, he5, hz5, hd5⟩ := fl5.there
        have S5 := J5.suite he5 hd5 na nL nF
        refine store_ok (X := X.suite a ((a, oe5) :: (X.pn ++ pins))) (v := .ref a) S5 hN hi (.inl hln) rfl (fun s6 S6 => ?_) (.inr hln)
        refine wpAny_mono ((hsu a oe5 cls d (X.pn ++ pins) hz5 ⟨_, hd5⟩).run [] s6 _ H' _ S6 (hyes rfl a na)) (fun f s7 hsp => ?_) fun _ _ z => False.elim z
        have out : ∀ {σ7 : L2.St} {H7 : Hp} {s7 : Shared}, Inv (X.suite a ((a, oe5) :: (X.pn ++ pins))) [] σ7 H7 s7 → Inv X ((a, oe5) :: pins) σ7 H7 s7 := fun {σ7 H7 s7} S =>
          ⟨ok, S.os, S.bare, S.base, S.loc, S.cell, S.free, S.freeC, fun p hp => S.pin p (by
            rw [List.append_nil]
            rcases List.mem_append.mp hp with z | z
            · exact List.mem_cons_of_mem _ (List.mem_append_left _ z)
            · rcases List.mem_cons.mp z with z | z
              · rw [z]; exact List.mem_cons_self
              · exact List.mem_cons_of_mem _ (List.mem_append_right _ z)), S.hok, S.len⟩
        have fin : ∀ {σ7 : L2.St} {H7 : Hp} {Q : Shared → Prop} {s7 : Shared}, Inv (X.suite a ((a, oe5) :: (X.pn ++ pins))) [] σ7 H7 s7 → (∀ s8, Inv X pins (σ7.set i none) (upd H7 a (ExcK a cls d)) s8 → Q s8) →
            (∀ s8, Inv X pins (σ7.set i none) H7 s8 → True) → wpAny (model X.prog X.w) X.A (do bindName X.env n .none; unbindBehindTheSuite X.env n pos') (fun _ s8 => Q s8) X.xe s7 := fun {σ7 H7 Q s7} S hq _ =>
          gone_ok (out S) hN hi hln fun s8 J8 => hq s8 (Inv.track J8 n0 np (excK_ok (J8.pin (a, oe5) (List.mem_append_right _ List.mem_cons_self)).1 hz5 hd5))
        match f, hsp with
        | .next, ⟨σ7, H7, S7, q7⟩ => exact fin S7 (fun s8 J8 => ⟨_, _, J8, q7⟩) fun _ _ => trivial
        | .brk, ⟨σ7, H7, S7, q7⟩ => exact fin S7 (fun s8 J8 => ⟨_, _, J8, q7⟩) fun _ _ => trivial
        | .cont, ⟨σ7, H7, S7, q7⟩ => exact fin S7 (fun s8 J8 => ⟨_, _, J8, q7⟩) fun _ _ => trivial
        | .ret u, ⟨v7, σ7, H7, S7, r7, q7⟩ => exact gone_ok (S7.unsuite ok) hN hi hln fun s8 J8 => ⟨_, _, _, J8, r7, q7⟩
      | false =>
        show wpAny _ X.A (handleBy (.ref a) X.env []) _ _ _
        refine wpAny_handleBy_nil ?_
        obtain ⟨k1, k2, k3, oe, vs, T, oT, ts', he, hz, hd, h1, hr⟩ := id fl4
        have fin : wpAny (model X.prog X.w) X.A (setFlight (.ref a) X.env.frame) (fun _ s5 => wpAny (model X.prog X.w) X.A (throw (.ref a) : Sem Flow) (SP X pins D) X.xe s5) X.xe { s' with heap := h4, toks := tk4 } := by
          rw [hf]
          refine HandSPX.setFlight_upZ fl4 fun h5 hh5 up5 => wpAny_throw (tk _ _ ?_)
          exact ⟨a, B, sI, pins, σ', H', cls, d, rfl, J, nb, ((up.trans up3).trans (Heap.UpToSlots.of_keeps k4)).trans up5, .inr (.inr (by rw [hs]; exact hh5)), na, os, ag, hno rfl⟩
        unfold PySem.passOn
        refine wpAny_bind (wpAny_field he hd h1 ?_)
        rw [if_neg (by simp)]
        first
          | exact wpAny_bind (wpAny_pure (wpAny_bind fin))
          | exact wpAny_bind fin
end
end BJ

/-! fields of a held exception; isinstance of any value; repr of data -/
namespace BJ
open PySem PySem.Spec PyProof.Rows L2
open PySem.W (Looks Frag findIn subIn nsIn typeIn keepIn hasDictIn clsIn specialIn takesIn mroIn kitOne kitAny InstAt)

/-- what is asked of an exception's class to read it -/
structure ErrR (K : Frag) (C : Addr) : Prop where
  cl : (clsIn K C).isSome = true
  ga : findIn K (.ref C) "__getattribute__" = some (some (.builtin "BaseException.__getattribute__"))
  gg : findIn K (.ref C) "__getattr__" = some none
  ex : subIn K (.ref C) (.type "BaseException") = some true
  cc : findIn K (.ref C) "__class__" = some (some (.builtin "object.__class__"))
  cg : specialIn K (.builtin "object.__class__") "__get__" = some (some (.builtin "getset_descriptor.__get__"))
  ct : takesIn K (.builtin "object.__class__") = some true
  mo : mroIn K C (.type "object") = some true
  hd : hasDictIn K C = true
/-- at a the exception, its dict at d -/
def ExcAt (H : Hp) (a C d : Addr) (fs : List (Str × V)) : Prop := H a = some (ExcK a (.ref C) (some d)) ∧ H d = some (.xd fs)
section
variable {X : Cx} {pins : List (Addr × Obj)} {σ : L2.St} {H : Hp} {s : Shared}
theorem ExcAt.inst {a C d : Addr} {fs : List (Str × V)} (I : Inv X pins σ H s) (x : ExcAt H a C d fs) : ∃ (oe od : Obj) (mA : Str → Option Value), InstAt s.heap a oe C (some od) ∧ s.heap.Ns1 d mA ∧ s.heap.get? d = some od ∧ ∀ f, RelO (fs.lookup f) (mA f) := by
  obtain ⟨oe, vs, he, hz, hd⟩ := excK_at I.hok x.1
  obtain ⟨mA, hns, hr⟩ := (show ObjOk X.prog X.w H s.heap d (.xd fs) from I.hok d _ x.2)
  obtain ⟨od, es, ep, ho, r⟩ := id hns
  exact ⟨oe, od, mA, ⟨he, hz.1, by unfold PySem.W.notCls; rw [hd], by rw [hz.2]; exact ho⟩, hns, ho, hr⟩

/-- e.f of a held exception -/
def tExf (K : Frag) (te : TE) (f : Str) : TE := fun σ H Q => te σ H fun x H1 => ∃ (a C d : Addr) (fs : List (Str × V)) (v : V), x = .ref a ∧ ExcAt H1 a C d fs ∧ ErrR K C ∧ findIn K (.ref C) f = some none ∧ fs.lookup f = some v ∧ Q v H1
theorem pe_exf {e : Expr} {te : TE} {f : Str} {pos : Pos} (he : PE X e te) (hb : attributeBase e f X.env (eval e X.env) = eval e X.env := by rfl) : PE X (.Attribute e f pos) (tExf X.K te f) where
  run := by
    intro pins s σ H Q I h
    refine attr_of hb (thn (he.run pins s σ H _ I h) ?_)
    rintro u s1 ⟨x, H1, I1, rx, a, C, d, fs, v, rfl, hat, R, nf, hl, q⟩
    obtain rfl : u = Value.ref a := rx
    obtain ⟨oe, od, mA, J, hns, hod, hr⟩ := hat.inst I1
    obtain ⟨od', ho, hlk⟩ := lookIn_ns hns
    rw [hod] at ho
    cases ho
    obtain ⟨u, hu, ru⟩ := RelO.some_of (v := v) (o := mA f) (by rw [← hl]; exact hr f)
    exact HandSPX.exc_get I1.kIn J R.ga R.gg R.ex (PySem.W.findObj_own R.hd nf rfl (by rw [hlk, hu])) (handed_of ru) ⟨v, H1, I1.tok _, ru, q⟩

/-! ### isinstance -/
inductive TyG (K : Frag) (H : Hp) : V → Value → Prop where
  | ty {x : V} {t : Value} (h : TyX K H x t) : TyG K H x t
  | exc {a C d : Addr} {fs : List (Str × V)} (h : ExcAt H a C d fs) (R : ErrR K C) : TyG K H (.ref a) (.ref C)
theorem kit_ofG {x : V} {u t : Value} (I : Inv X pins σ H s) (rx : RelV x u) (ty : TyG X.K H x t) : ∃ P : Heap → Prop, PySem.W.KitX X.K u t P ∧ P s.heap ∧ u ≠ .builtin "__main__.__loader__#opaque" := by
  cases ty with
  | ty h => exact kit_of I rx h
  | exc h R =>
    cases (show u = Value.ref _ from rx)
    obtain ⟨oe, od, mA, J, _, _, _⟩ := h.inst I
    exact ⟨_, PySem.W.kitx_exc R.cl R.ga R.gg R.ex R.cc R.cg R.ct R.mo, J, fun z => nomatch z⟩
def rIsG (K : Frag) : List V → Hp → VK → Prop := fun xs H Q => ∃ (x c : V) (t u : Value) (b : Bool), xs = [x, c] ∧ ClsV c u ∧ TyG K H x t ∧ kitOne K t u = some b ∧ Q (.bl b) H
def rIsGT (K : Frag) : List V → Hp → VK → Prop := fun xs H Q => ∃ (x : V) (tp : Addr) (cs : List V) (t : Value) (us : List Value) (b : Bool), xs = [x, .ref tp] ∧ H tp = some (.tup cs) ∧ Paired ClsV cs us ∧ TyG K H x t ∧ kitAny K t us = some b ∧ Q (.bl b) H
theorem call_isG : CallR X (.builtin "isinstance") (rIsG X.K) := by
  rintro pins s σ H xs us Q I r ⟨x, c, t, u, b, rfl, k, ty, e, q⟩
  obtain ⟨u1, u2, rfl, r1, r2⟩ := vals2 r
  obtain rfl := k.eq r2
  obtain ⟨P, Z, p, hx⟩ := kit_ofG I r1 ty
  exact PySem.W.kia_one Z I.kIn p e hx fun tk => ⟨.bl b, H, I.tok tk, rfl, q⟩
theorem call_isGT : CallR X (.builtin "isinstance") (rIsGT X.K) := by
  rintro pins s σ H xs us Q I r ⟨x, tp, cs, t, ws, b, rfl, hT, k, ty, e, q⟩
  obtain ⟨u1, u2, rfl, r1, r2⟩ := vals2 r
  cases (show u2 = Value.ref tp from r2)
  obtain ⟨P, Z, p, hx⟩ := kit_ofG I r1 ty
  obtain ⟨_, its, rv, ⟨oc, od, dt, sl⟩, h1, h2, n, h3⟩ := (show ObjOk X.prog X.w H s.heap tp (.tup cs) from I.hok tp _ hT)
  obtain rfl := ClsV.all k rv
  simp only at h2 h3
  subst h2 h3
  exact PySem.W.kia_tup Z I.kIn p h1 e hx fun tk => ⟨.bl b, H, I.tok tk, rfl, q⟩

/-! ### repr -/
/-- repr(x) of data -/
def rRepr (K : Frag) : List V → Hp → VK → Prop := fun xs H Q => ∃ (x : V) (d : PyData), xs = [x] ∧ Dp K H x d ∧ d.showable = true ∧ d.hasDict = false ∧ d.depth ≤ 40 ∧ d.shown.length ≤ sizeLine ∧ Q (.str d.shown) H
theorem call_repr {k : Nat} (hr : Room k X.A) (hG : X.A.guards = some []) : CallR X (.builtin "repr") (rRepr X.K) := by
  rintro pins s σ H xs us Q I r ⟨x, d, rfl, hd, hs, hnd, hdep, hsz, q⟩
  obtain ⟨u, rfl, r1⟩ := vals1 r
  obtain ⟨as, hrd⟩ := Dp.reads I d x u hd r1
  have fin : ∀ (h' : Heap) (t : Tok) (tk : Nat), (∀ b o, s.heap.get? b = some o → h'.get? b = some o) → EP X pins σ Q (.str d.shown t) { s with heap := h', toks := tk } := fun h' t tk kk => ⟨.str d.shown, H, I.kept (t' := tk) kk, ⟨t, rfl⟩, q⟩
  cases hrd with
  | none => exact PySem.P.repr_of_none (by simpa [PyData.shown] using fin s.heap _ _ fun _ _ e => e)
  | bool b => exact PySem.P.repr_of_bool (by cases b <;> simpa [PyData.shown] using fin s.heap _ _ fun _ _ e => e)
  | int i t => exact PySem.P.repr_of_int (by simpa [PyData.showable] using hs) (by simpa [PyData.shown] using fin s.heap _ _ fun _ _ e => e)
  | str y t => exact PySem.P.repr_of_str (by simpa [PyData.shown] using fin s.heap _ _ fun _ _ e => e) (by simpa [PyData.shown] using hsz)
  | list h1 h2 h3 h4 =>
    exact repr_of_reads' (.list h1 h2 h3 h4) hs (by rw [hnd]; exact fun z => nomatch z) hG (by have := hr.un; omega) (fun _ _ e => e) (fun h' t tk kk => fin h' t tk kk) hsz
  | tuple h1 h2 h3 h4 =>
    exact repr_of_reads' (.tuple h1 h2 h3 h4) hs (by rw [hnd]; exact fun z => nomatch z) hG (by have := hr.un; omega) (fun _ _ e => e) (fun h' t tk kk => fin h' t tk kk) hsz
  | dict h1 h2 h3 h4 h5 => simp [PyData.hasDict] at hnd
end
end BJ

/-! text * int, (x,) * int, xs[a::k], enumerate(text) -/
namespace BJ
open PySem PySem.Spec PyProof.Rows L2
section
variable {X : Cx}
/-- the sign c, n times -/
def repS (c : Nat) (n : Nat) : Str := ⟨(List.replicate n c).toArray⟩
theorem repS_len (c n : Nat) : (repS c n).length = n := by simp [repS, Str.length]
theorem foldl_rep1 (c : Nat) : ∀ n, (List.replicate n (#[c] : Array Nat)).foldl (· ++ ·) #[] = (List.replicate n c).toArray := by
  have h : ∀ n (acc : Array Nat), (List.replicate n (#[c] : Array Nat)).foldl (· ++ ·) acc = acc ++ (List.replicate n c).toArray := by
    intro n
    induction n with
    | zero => intro acc; simp
    | succ n ih =>
      intro acc
      rw [List.replicate_succ, List.foldl_cons, ih, List.replicate_succ, Array.append_assoc]
      congr 1
      simp
  intro n
  rw [h, Array.empty_append]
/-- 'c' * n, one sign, n at least 2 -/
def rMulS : R2 := fun x y H Q => ∃ (c : Nat) (n : Nat), x = .str ⟨#[c]⟩ ∧ y = .int (n : Int) ∧ 2 ≤ n ∧ n ≤ sizeLine ∧ Q (.str (repS c n)) H
theorem op_mulS : OpR X (binaryOp .Mult) rMulS := by
  rintro pins s σ H x y v u Q I rx ry ⟨c, n, rfl, rfl, h2, hn, q⟩
  obtain ⟨t, rfl⟩ := rx
  obtain ⟨t', rfl⟩ := ry
  rw [sizeLine_eq] at hn
  have hl : (⟨#[c]⟩ : Str).length = 1 := rfl
  refine PySem.P.mul_str ?_ (fun _ _ => ?_) (fun _ _ => ?_) ?_
  · simp only [Bool.or_eq_false_iff, decide_eq_false_iff_not]
    omega
  · rw [hl]
    have : (1 : Int) ≤ (2 ^ 63 - 1) / (n : Int) := by
      apply Int.le_ediv_of_mul_le (by omega)
      omega
    omega
  · rw [hl, Nat.one_mul]
    unfold PySem.Builtin.Str.tooLong
    rw [sizeLine_eq]
    simp
    omega
  · rw [if_neg (by omega), if_neg (by rw [hl]; simp; omega)]
    have e : (List.replicate ((n : Int)).toNat (⟨#[c]⟩ : Str).cps).foldl (· ++ ·) #[] = (List.replicate n c).toArray := by
      rw [Int.toNat_natCast]
      exact foldl_rep1 c n
    rw [e]
    refine ⟨?_, ?_⟩
    · show (repS c n).length ≤ sizeLine
      rw [repS_len, sizeLine_eq]
      exact hn
    · exact ⟨V.str (repS c n), H, I.tok _, ⟨_, rfl⟩, q⟩

/-- the items of xs[lo:hi:st] -/
def pickV (xs : List V) (lo hi st : Option Int) : List V :=
  (sliceRange (sliceBounds lo hi st xs.length).1 (sliceBounds lo hi st xs.length).2.1 (sliceBounds lo hi st xs.length).2.2).filterMap (xs[·]?)
theorem vals_places {xs : List V} {us : List Value} (h : Vals xs us) : ∀ l : List Nat, Vals (l.filterMap (xs[·]?)) (l.filterMap (us[·]?))
  | [] => .nil
  | i :: l => by
    cases e : xs[i]? with
    | none =>
      rw [List.filterMap_cons_none e, List.filterMap_cons_none (h.none_of e)]
      exact vals_places h l
    | some x =>
      obtain ⟨u, hu, r⟩ := h.get e
      rw [List.filterMap_cons_some e, List.filterMap_cons_some hu]
      exact .cons r (vals_places h l)
theorem slicePick_V {xs : List V} {us : List Value} (h : Vals xs us) (lo hi st : Option Int) : Vals (pickV xs lo hi st) (slicePick us.toArray lo hi st).toList := by
  have e : (slicePick us.toArray lo hi st).toList = (sliceRange (sliceBounds lo hi st xs.length).1 (sliceBounds lo hi st xs.length).2.1 (sliceBounds lo hi st xs.length).2.2).filterMap (us[·]?) := by
    simp [slicePick, h.length]
  rw [e]
  exact vals_places h _
/-- xs[lo:hi:st] of a list: a new list -/
def tSl3 (K : PySem.W.Frag) (te : TE) (tl th ts : TO) : TE := fun σ H Q => te σ H fun x H1 => tl σ H1 fun lo H2 => th σ H2 fun hi H3 => ts σ H3 fun st H4 =>
  ∃ a xs, x = .ref a ∧ SqL K H4 a xs ∧ st ≠ some 0 ∧ (pickV xs lo hi st).length ≤ sizeLine ∧ ∀ p, H4 p = none → Q (.ref p) (upd H4 p (.lst (pickV xs lo hi st)))
theorem pe_slice3 {e st : Expr} {lo hi : Option Expr} {te : TE} {tl th ts : TO} {p2 pos : Pos} (he : PE X e te) (hl : PO X lo tl) (hu : PO X hi th) (hst : PO X (some st) ts) : PE X (.Subscript e (.Slice lo hi (some st) p2) pos) (tSl3 X.K te tl th ts) where
  run := by
    intro pins s σ H Q I h
    refine Subscript_ (thn (he.run pins s σ H _ I h) ?_)
    rintro v s1 ⟨x, H1, I1, r1, q1⟩
    refine wpAny_Slice (thn (hl.run pins s1 σ H1 _ I1 q1) ?_)
    rintro vl s2 ⟨l, H2, I2, pl, q2⟩
    refine thn (hu.run pins s2 σ H2 _ I2 q2) ?_
    rintro vu s3 ⟨u, H3, I3, pu, q3⟩
    refine thn (hst.run pins s3 σ H3 _ I3 q3) ?_
    rintro vs s4 ⟨k, H4, I4, pk, a, xs, rfl, hx, k0, hsz, q⟩
    cases r1
    have I5 : Inv X pins σ H4 { s4 with heap := s4.heap.push { cls := .type "slice", data := .fields #[vl, vu, vs] } } := I4.kept (t' := s4.toks) fun b ob q => Heap.get?_push_of_some _ q
    obtain ⟨its, r, ht, hz⟩ := I5.list hx
    have hlen := r.length
    show wpAny (model X.prog X.w) X.A (subscriptTail e (.Slice lo hi (some st) p2) (.ref a) (.ref s4.heap.objs.size)) (EP X pins σ Q) X.xe { s4 with heap := s4.heap.push { cls := .type "slice", data := .fields #[vl, vu, vs] } }
    refine tail_any (ops := _) ht.isList.typeIs slot_list_getitem.lookup (wpAny_getItem_list_slice ht.isList (Heap.IsSliceOf.new ..) pl pu pk k0 ?_ (by rw [List.size_toArray]; omega)) (by with_unfolding_all rfl)
    have rp := slicePick_V r l u k
    refine ⟨.ref _, _, I5.laid (t' := s4.toks) (o := .lst (pickV xs l u k)) (fun b ob q => Heap.get?_push_of_some _ q) (Nat.le_refl _) ?_, rfl, q _ (I5.hok.fresh (Nat.le_refl _))⟩
    exact ⟨hsz, _, 0, rp, by rw [Array.toArray_toList]; exact Heap.get?_push_size _ rfl⟩

/-! ### (x,) * n -/
def rRep1 (K : PySem.W.Frag) : R2 := fun x y H Q => ∃ (l : Addr) (n : Nat) (v : V), x = .ref l ∧ y = .int (n : Int) ∧ SqT K H l [v] ∧ 2 ≤ n ∧ n ≤ 16777216 ∧ ∀ p, H p = none → Q (.ref p) (upd H p (.tup (List.replicate n v)))
theorem flat1 {α : Type} (v : α) : ∀ n, (List.replicate n [v]).flatten = List.replicate n v
  | 0 => rfl
  | n + 1 => by rw [List.replicate_succ, List.flatten_cons, flat1 v n]; rfl
theorem vals_rep {v : V} {u : Value} (r : RelV v u) : ∀ n, Vals (List.replicate n v) (List.replicate n u)
  | 0 => .nil
  | n + 1 => .cons r (vals_rep r n)
theorem op_rep1 : OpR X (binaryOp .Mult) (rRep1 X.K) := by
  rintro pins s σ H x y v u Q I rx ry ⟨l, m, w, rfl, rfl, hT, h2, hm, q⟩
  cases rx
  obtain ⟨t, rfl⟩ := ry
  obtain ⟨its, r, ⟨⟨cls, dd, data, sl⟩, ho, hc, n, hd⟩, hs⟩ := I.tuple hT
  simp only at hc hd
  subst hc hd
  cases r with
  | cons rw' rn =>
    rename_i u1 us1
    cases rn
    have hsz0 : ([u1] : List Value).toArray.size = 1 := rfl
    have ez : (List.foldl (fun x1 x2 => x1 ++ x2) #[] (List.replicate ((m : Int)).toNat ([u1] : List Value).toArray)) = (List.replicate m u1).toArray := by
      rw [size_rep, Int.toNat_natCast, flat1]
    have c0 : (decide ((m : Int) < -(2 ^ 63)) || decide ((m : Int) ≥ 2 ^ 63)) = false := by
      simp only [Bool.or_eq_false_iff, decide_eq_false_iff_not]
      omega
    have c1 : (([u1] : List Value).toArray.isEmpty || (m : Int) == 1) = false := by
      show (false || (m : Int) == 1) = false
      rw [Bool.false_or]
      exact beq_eq_false_iff_ne.mpr (by omega)
    have c2 : (decide ((m : Int) ≤ 0) || ([u1] : List Value).toArray.isEmpty) = false := by
      show (decide ((m : Int) ≤ 0) || false) = false
      rw [Bool.or_false]
      exact decide_eq_false (by omega)
    have c3 : ¬ ((([u1] : List Value).toArray.size : Nat) : Int) * (m : Int) > (2 ^ 63 - 1) / 8 := by
      rw [hsz0]
      omega
    have c4 : Builtin.Tuple.tupleTooMany (((([u1] : List Value).toArray.size : Nat) : Int) * (m : Int)) = false := by
      rw [hsz0]
      unfold Builtin.Tuple.tupleTooMany
      rw [sizeLine_eq]
      exact decide_eq_false (by omega)
    refine wpAny_binaryOp_repeat_ref (T := "tuple") (U := "int") (by decide) ⟨_, ho, rfl⟩ (fun s' => typeIs_int s' m t) noFill_tuple_mul F.fills_int_mul F.slot_int_rmul repeat_tuple F.slot_int_index.lookup
      (call_meets F.slot_int_rmul (typeIs_int s m t) F.entry_int_rmul (F.args_int_rmul_2 _ _) (int_rmul_tuple m t l _ n dd sl)
        ⟨ho, rfl, ⟨_, ho, rfl⟩, call_meets F.slot_tuple_mul ⟨_, ho, rfl⟩ F.entry_tuple_mul (F.args_tuple_mul_2 _ _)
          (tuple_mulW l _ n dd sl m t c0 c1 c2 c3 c4 (by rw [ez, List.size_toArray, List.length_replicate, sizeLine_eq]; exact hm)) ⟨ho, ?_⟩⟩)
    rw [ez]
    have rr : Vals (List.replicate m w) (List.replicate m u1) := vals_rep rw' m
    refine ⟨.ref s.heap.objs.size, _, I.laid (t' := s.toks) (o := .tup (List.replicate m w)) (fun b ob q => Heap.get?_push_of_some _ q) (Nat.le_refl _) ?_, rfl, q _ (I.hok.fresh (Nat.le_refl _))⟩
    exact ⟨by rw [List.length_replicate, sizeLine_eq]; exact hm, _, rr, IsTup.new _ _⟩

/-! ### enumerate(text) -/
def ItEs (x : Str) : It := ⟨fun i _ => i < x.cps.size, fun i H v H' => ∃ T c, v = .ref T ∧ H T = none ∧ H' = upd H T (.tup [.int (i : Nat), .str ⟨#[c]⟩]) ∧ x.cps[i]? = some c, fun i _ => i = x.cps.size⟩
theorem turn_enumS {P : Program} {w : World} {K : PySem.W.Frag} {elts : List Expr} {kk : Nat} {tpos : Pos} (e it : Addr) (x : Str) (t : Tok) :
    Turn P w K (.Tuple elts kk tpos) (ItEs x) [e, it] e (fun i h => (∃ old, IsEnum h e it ((i : Nat) : Int) old) ∧ h.IsStrIter it (strIterType x) x t i ∧ e ≠ it) where
  mem := by simp
  obj := by
    rintro i h ⟨⟨old, he⟩, ⟨o, ho, hc, hd⟩, _⟩ b hb
    have e' : b = e ∨ b = it := by simpa using hb
    rcases e' with rfl | rfl
    · exact ⟨_, he, fun v q => nomatch q⟩
    · exact ⟨o, ho, fun v q => by rw [hd] at q; cases q⟩
  keep := by
    rintro i h h' ⟨⟨old, he⟩, ⟨o, ho, r⟩, hne⟩ k
    exact ⟨⟨old, k e (by simp) _ he⟩, ⟨o, k it (by simp) o ho, r⟩, hne⟩
  item := by
    rintro X rfl rfl rfl hc i pins s σ H E I hf ⟨⟨old, he⟩, hit, hne⟩ hg
    have hel : e < s.heap.objs.size := Heap.lt_size he
    have hil : it < s.heap.objs.size := by
      obtain ⟨_, q, _⟩ := hit
      exact Heap.lt_size q
    have D : Draws X.prog X.w X.A.in1 it [it] x.cps.size (fun i v => ∃ c u, x.cps[i]? = some c ∧ v = .str ⟨#[c]⟩ u) (fun i h => h.IsStrIter it (strIterType x) x t i) := Draws.text (A := X.A.in1) (I.ok.hd hc) it x t
    refine wpAny_pyNext_enum_itemD (i := i) D he hit hg hne (by simpa using hne) fun v h' tk hv ho hit' hT hsz hk => ?_
    obtain ⟨c, u, hcx, rfl⟩ := hv
    refine ⟨_, rfl, wpAny_letOwnedTupleGo_enum (s := { s with heap := h', toks := tk + 1 }) ho fun h'' he' sb => ?_⟩
    have hT2 : h''.get? s.heap.objs.size = some { cls := .type "tuple", data := .seq #[.int i tk, .str ⟨#[c]⟩ u] } := (sb.2 _ (Nat.ne_of_gt hel)).trans hT
    have new : ObjOk X.prog X.w (upd H s.heap.objs.size (.tup [.int (i : Nat), .str ⟨#[c]⟩])) h'' s.heap.objs.size (.tup [.int (i : Nat), .str ⟨#[c]⟩]) :=
      ⟨by show 2 ≤ sizeLine; decide, [.int i tk, .str ⟨#[c]⟩ u], .cons ⟨_, rfl⟩ (.cons ⟨_, rfl⟩ .nil), ⟨_, hT2, rfl, _, rfl⟩⟩
    have I1 : Inv X pins σ (upd H s.heap.objs.size (.tup [.int (i : Nat), .str ⟨#[c]⟩])) { s with heap := h'', toks := tk + 1 } :=
      I.turnedNew (ch := [e, it]) (fun b ob hb q => (sb.2 b (fun z => hb (by simp [z]))).trans (hk b ob (fun z => hb (by simp [z])) (fun z => hb (by simp [z])) q)) hf (Nat.le_refl _) new
    refine ⟨.ref s.heap.objs.size, _, I1, rfl, ⟨_, c, rfl, I.hok.fresh (Nat.le_refl _), rfl, hcx⟩, ⟨⟨Value.str ⟨#[c]⟩ u, ?_⟩, ?_, hne⟩, fun b hb => ?_⟩
    · have e1 : ((i + 1 : Nat) : Int) = (i : Int) + 1 := by omega
      rw [e1]
      exact he'
    · obtain ⟨o, ho', r⟩ := hit'
      exact ⟨o, (sb.2 it (Ne.symm hne)).trans ho', r⟩
    · have e' : b = e ∨ b = it := by simpa using hb
      have hb' : b < s.heap.objs.size := by
        rcases e' with rfl | rfl
        · exact hel
        · exact hil
      rw [upd_ne (Nat.ne_of_lt hb')]
      exact (hf b hb).1
  done := by
    rintro X rfl rfl rfl hc i pins s σ H E I hf ⟨⟨old, he⟩, hit, hne⟩ hg
    obtain ⟨f0, f1, f2, f3, f4, f5⟩ := hf it (by simp)
    have hie : i = x.cps.size := hg
    subst hie
    have D : Draws X.prog X.w X.A.in1 it [it] x.cps.size (fun i v => ∃ c u, x.cps[i]? = some c ∧ v = .str ⟨#[c]⟩ u) (fun i h => h.IsStrIter it (strIterType x) x t i) := Draws.text (A := X.A.in1) (I.ok.hd hc) it x t
    exact wpAny_pyNext_enum_endD D he hit fun h' eb => ⟨rfl, I.turned (t' := s.toks) (fun b o hb q => eb b o hb q) f0 f1 f3 f4 f5⟩
  self := fun A i s Q E st h => by
    obtain ⟨⟨_, he⟩, _⟩ := st
    exact wpAny_pyIter_enum he h
def iEnumS (ta : TA) : TI := fun σ H R => ta σ H fun vs H1 => ∃ x, vs = [.str x] ∧ R (ItEs x) H1
theorem pi_enumS {e : Expr} {ta : TA} {p pos tpos : Pos} {elts : List Expr} {kk : Nat} (hg : Gl X "enumerate") (hm : X.mg "enumerate" = none) (ha : PA X [e] ta) (hs : starEach [e] X.env = [(false, eval e X.env)] := by rfl) :
    PI X (.Tuple elts kk tpos) (.Call (.Name "enumerate" p) [e] [] pos) (iEnumS ta) where
  run := by
    intro pins s σ H R I h
    refine Call_ (ld_blt I hg hm boot_enumerate (PyProof.Rows.callWith_type1 (thn (ha.run pos pins s σ H _ I h) ?_) hs rfl))
    rintro us s1 ⟨vs, H1, I1, r1, x, rfl, q⟩
    obtain ⟨u, rfl, r⟩ := vals1 r1
    obtain ⟨t, rfl⟩ := r
    refine call_enumerate_str fun h' he hit hsz hk => wpAny_pyIter_enum he ?_
    have I2 : Inv X pins σ H1 { s1 with heap := h' } := I1.kept (t' := s1.toks) hk
    refine ⟨s1.heap.objs.size + 1, [s1.heap.objs.size + 1, s1.heap.objs.size], _, _, H1, rfl, I2, turn_enumS (s1.heap.objs.size + 1) s1.heap.objs.size x t, ⟨⟨.none, he⟩, hit, Nat.succ_ne_self _⟩, fun b hb => ?_, q⟩
    have hle : s1.heap.objs.size ≤ b := by
      have e' : b = s1.heap.objs.size + 1 ∨ b = s1.heap.objs.size := by simpa using hb
      rcases e' with rfl | rfl
      · exact Nat.le_add_right _ _
      · exact Nat.le_refl _
    exact I1.fpOk hle (I1.hok.fresh hle)
end
end BJ

/-! defs as they stand in the text; the laws' drawing of numbers -/
namespace BJ
open PySem PySem.Spec PyProof.Rows L2
open PySem.W (Frag)

/-- the def st stands at f; its parameters, all positional, none with a default -/
structure DefAt (K : Frag) (x qual : Str) (st : Stmt) (f : Addr) (ps : List Str) : Prop where
  fn : ∃ fd, Fun K x qual st f fd ∧ Binds K fd ps []
section
variable {P : Program} {w : World} {K : Frag} {mg : Str → Option Value} {base : Heap}
theorem DefAt.okF {x qual : Str} {st : Stmt} {f : Addr} {N ps : List Str} {k : Nat} {sp : Sp} (D : DefAt K x qual st f ps) (S : FnScope N ps (defScope st))
    (len : ∀ vs H Q E, sp vs H Q E → vs.length = ps.length)
    (hbody : ∀ (cdv : Value) (A : Around) (outer : List Env) (s : Shared) (H : Hp) (vs : List V) (Q : VK) (E : XK),
      Room k (A.deeper (envOfC qual (defScope st) s.heap.objs.size f cdv)) → A.guards = some [] → sp vs H Q E →
      ∃ t, PSs (cxOf (L2.CX P w) P w K mg base N qual (defScope st) f cdv A outer s H E) (defBody st) t ∧ t { nx := fun _ H' => Q .non H', rt := Q } (start N vs) H) :
    ∃ fd, FnG P w K mg base (k + 1) f fd ps sp ∧ Binds K fd ps [] ∧ Fun K x qual st f fd := by
  obtain ⟨fd, F, hb⟩ := D.fn
  refine ⟨fd, ?_, hb, F⟩
  obtain ⟨oc, od, kV, doc, pm, an, cdv, ct, osl, rfl, lk, hcd⟩ := F.ex
  exact fnG_of lk hcd S len fun A outer s H vs Q E hr hg hsp => hbody cdv A outer s H vs Q E hr hg hsp
theorem DefAt.ok {x qual : Str} {st : Stmt} {f : Addr} {N ps : List Str} {k : Nat} {sp : Sp} (D : DefAt K x qual st f ps) (S : FnScope N ps (defScope st))
    (len : ∀ vs H Q E, sp vs H Q E → vs.length = ps.length)
    (hbody : ∀ (cdv : Value) (A : Around) (outer : List Env) (s : Shared) (H : Hp) (vs : List V) (Q : VK) (E : XK),
      Room k (A.deeper (envOfC qual (defScope st) s.heap.objs.size f cdv)) → A.guards = some [] → sp vs H Q E →
      ∃ t, PSs (cxOf (L2.CX P w) P w K mg base N qual (defScope st) f cdv A outer s H E) (defBody st) t ∧ t { nx := fun _ H' => Q .non H', rt := Q } (start N vs) H) :
    CallP P w K mg base (k + 1) (.ref f) sp := by
  obtain ⟨fd, F, hb, _⟩ := D.okF S len hbody
  have q := F.callP (dvs := []) hb .nil
  rintro A outer s H us ws vs zs Q E room hg e0 rel relz ⟨hz, prom⟩
  exact q A outer s H us ws vs zs Q E room hg e0 rel relz ⟨hz, show sp (vs ++ []) H Q E by rw [List.append_nil]; exact prom⟩
end

section
variable {X : Cx}
/-- a list by its very object, to be read: tracked or frozen, or one of the written part as it was made -/
def Scr (K : Frag) (H : Hp) (a : Addr) (xs : List V) : Prop :=
  Rd H a (.lst xs) ∨ ∃ (its : List Value) (n : Nat), K.lookup a = some { cls := .type "list", data := .seq its.toArray n } ∧ Vals xs its ∧ xs.length ≤ sizeLine
theorem Scr.sq {K : Frag} {H : Hp} {a : Addr} {xs : List V} (h : Scr K H a xs) : SqL K H a xs := by
  rcases h with h | ⟨its, n, hk, r, hz⟩
  · exact .inl h
  · exact .inr ⟨_, its.toArray, n, hk, rfl, rfl, rfl, by rw [List.size_toArray, ← r.length]; exact hz, r⟩
theorem Scr.at {pins : List (Addr × Obj)} {σ : L2.St} {H : Hp} {s : Shared} {a : Addr} {xs : List V} (I : Inv X pins σ H s) (h : Scr X.K H a xs) :
    ∃ (its : List Value) (n : Nat), Vals xs its ∧ IsL s.heap a its.toArray n ∧ xs.length ≤ sizeLine := by
  rcases h with h | ⟨its, n, hk, r, hz⟩
  · obtain ⟨z, its, n, r, e⟩ := h.ok I.hok
    exact ⟨its, n, r, e, z⟩
  · exact ⟨its, n, r, I.kIn _ _ hk, hz⟩
/-- xs + ys, both lists that may be read only -/
def rCatS (K : Frag) : R2 := fun x y H Q => ∃ l b xs zs, x = .ref l ∧ y = .ref b ∧ Scr K H l xs ∧ Scr K H b zs ∧ xs.length + zs.length ≤ sizeLine ∧ ∀ p, H p = none → Q (.ref p) (upd H p (.lst (xs ++ zs)))
theorem op_catS : OpR X (binaryOp .Add) (rCatS X.K) := by
  rintro pins s σ H x y v u Q I rx ry ⟨l, b, xs, zs, rfl, rfl, hH, hB, hz, q⟩
  cases rx
  cases ry
  obtain ⟨its, n, r, e, hl⟩ := hH.at I
  obtain ⟨its2, n2, r2, e2, hl2⟩ := hB.at I
  have q1 := r.length
  have q2 := r2.length
  refine PySem.P.add_list e e2 ?_ (by rw [List.size_toArray, List.size_toArray]; omega)
  rw [show its.toArray ++ its2.toArray = (its ++ its2).toArray from by simp]
  exact ⟨.ref _, _, I.lnew (t' := s.toks) (r.append r2) (by rw [List.length_append]; omega), rfl, q _ I.fresh⟩
end

/-! ### the law's call -/
/-- nothing is tracked but the script, frozen -/
theorem lawG {P : Program} {w : World} {K : Frag} {mg mb : Str → Option Value} {k : Nat} {fa a : Addr} {sp : Sp} {s₁ : Shared} {vs : List Value} {ns : List Int}
    (KX : K.In s₁.heap) (hns : s₁.heap.Ns mainGlobals mg) (hb : s₁.heap.Ns builtinsNs mb) (hbb : ∀ x : Str, x ≠ "__name__" → mb x = bootBuiltins x) (hlim : s₁.heap.NoLimit) (hg : s₁.gens = #[])
    (ha : s₁.heap.get? a = some { cls := .type "list", data := .seq vs.toArray }) (hi : IntsAre vs ns) (hl : ns.length ≤ sizeLine) (hr : Room k callerA)
    (F : ∀ base : Heap, K.In base → base.Ns mainGlobals mg → CallP P w K mg base k (.ref fa) sp)
    (hsp : ∀ H : Hp, Scr K H a (ns.map V.int) → sp [.ref a] H (fun v _ => v = .bl true) fun _ _ _ => False) :
    codeAny (model P w) callerA (.call (.ref fa) ⟨[.ref a], []⟩) (fun r s' => r = .ok (.ret (.bool true)) ∧ OldK s₁.heap s'.heap ∧ s'.os = s₁.os ∧ AllBare s'.gens) s₁ := by
  have rv := vals_ints hi
  have lenV := hi.length
  -- the abstract heap: the script alone, or nothing where the script is an object of the top
  have core : ∀ H : Hp, (∀ b u, H b = some u → b = a ∧ K.lookup a = none ∧ ∃ o xs, u = .frz o (.lst xs)) → HOk P w H s₁.heap → Scr K H a (ns.map V.int) →
      codeAny (model P w) callerA (.call (.ref fa) ⟨[.ref a], []⟩) (fun r s' => r = .ok (.ret (.bool true)) ∧ OldK s₁.heap s'.heap ∧ s'.os = s₁.os ∧ AllBare s'.gens) s₁ := by
    intro H hA hok hS
    have keepB : ∀ {b : Addr} {o : Obj}, s₁.heap.get? b = some o → H b = none → (hidT s₁.heap H).get? b = some o := fun e n => hidT_get e n
    have nsK : ∀ {b : Addr} {m : Str → Option Value}, s₁.heap.Ns b m → (hidT s₁.heap H).Ns b m := by
      rintro b m ⟨o, es, ep, e, d, r⟩
      refine ⟨o, es, ep, keepB e ?_, d, r⟩
      cases q : H b with
      | none => rfl
      | some u =>
        obtain ⟨rfl, _, _⟩ := hA b u q
        rw [ha] at e
        cases e
        cases d
    have kin : K.In (hidT s₁.heap H) := by
      intro b o e
      refine keepB (KX b o e) ?_
      cases q : H b with
      | none => rfl
      | some u =>
        obtain ⟨rfl, z, _⟩ := hA b u q
        rw [z] at e
        cases e
    obtain ⟨mc, l1, l2⟩ := id hlim
    have md : Mod K mg (hidT s₁.heap H) := ⟨kin, nsK hns, ⟨mb, nsK hb, hbb⟩, ⟨mc, nsK l1, l2⟩⟩
    have e0 : Env0 P w K mg (hidT s₁.heap H) callerA [] s₁ H :=
      ⟨rfl, md, fun b o e => of_hidT e, Nat.le_of_eq (hidT_size _ _), trivial, (fun b hb => absurd (show b ∈ ([] : List Addr) from hb) (by simp)), hok, AllBare.of_eq hg⟩
    refine codeAny_mono (F _ kin (nsK hns) callerA [] s₁ H [.ref a] [] [.ref a] [] _ _ hr rfl e0 (.cons rfl .nil) .nil ⟨rfl, hsp H hS⟩) ?_
    intro r s' h
    match r, h with
    | .error e, ⟨_, _, _, _, _, _, _, _, _, _, _, _, z⟩ => exact z.elim
    | .ok (.ret u), ⟨v, H', os, bare, un, hok', r', q⟩ =>
      obtain rfl : v = .bl true := q
      obtain rfl : u = Value.bool true := r'
      refine ⟨rfl, OldK.of_keep fun b o e => ?_, os, bare⟩
      cases q : H b with
      | none => exact un.keep b o e q (fun z => nomatch (show b ∈ ([] : List Addr) from z)) (fun z => nomatch z)
      | some u =>
        obtain ⟨_, _, ob, xs, rfl⟩ := hA b u q
        have e1 := (hok b _ q).1
        have e2 := (hok' b _ (un.frzs b ob _ q)).1
        rw [e] at e1
        cases e1
        exact e2
  cases hk : K.lookup a with
  | some o =>
    have e := KX a o hk
    rw [ha] at e
    cases e
    exact core (fun _ => none) (fun b u z => nomatch z) (fun b u z => nomatch z) (.inr ⟨vs, 0, hk, rv, by rw [List.length_map]; exact hl⟩)
  | none =>
    refine core (fun b => if b = a then some (.frz { cls := .type "list", data := .seq vs.toArray } (.lst (ns.map V.int))) else none) (fun b u z => ?_) (fun b u z => ?_) (.inl (.inr ⟨_, if_pos rfl⟩))
    · by_cases h : b = a
      · have q := (if_pos h).symm.trans z
        cases q
        exact ⟨h, hk, _, _, rfl⟩
      · exact nomatch (if_neg h).symm.trans z
    · by_cases h : b = a
      · have q := (if_pos h).symm.trans z
        cases q
        subst h
        exact ⟨ha, by rw [List.length_map]; exact hl, vs, _, rv, ha⟩
      · exact nomatch (if_neg h).symm.trans z
open PySem.W in
/-- what k_head leaves of a law, from the law's promise -/
theorem walkG {l : OpenLaw} {n k : Nat} {q : Program} {loose : List Str} {XP : (Str → Option Value) → Heap → Prop} {YP : World → Heap → Prop} {d : DefRec} {K : Params → Frag} {sp : World → Sp}
    (hn : l.most = some n) (hn2 : n ≤ sizeLine) (hdf : d.params.defaults = []) (hr : Room k callerA) (hY : ∀ (w : World) (h : Heap), YP w h → (K w.params).In h)
    (F : ∀ (w : World) (mg : Str → Option Value) (fa : Addr) (h : Heap), (K w.params).In h → h.Ns mainGlobals mg → mg d.name = some (.ref fa) →
      ∀ base : Heap, (K w.params).In base → base.Ns mainGlobals mg → CallP l.prog w (K w.params) mg base k (.ref fa) (sp w))
    (hsp : ∀ (w : World) (H : Hp) (a : Addr) (ns : List Int), ns.length ≤ n → (∀ z ∈ ns, Builtin.Int.intBits z ≤ 1048576) → Scr (K w.params) H a (ns.map V.int) → sp w [.ref a] H (fun v _ => v = .bl true) fun _ _ _ => False) :
    WalkO q loose XP YP l.row.toRowW d [] (fun f vs => PySem.call f vs) := by
  refine Att.attach_callB hn hdf fun w s₀ s₁ mg mb fa o pm cd doc a vs ns G Y ho hd hcd hmg hobj hints hlen hbits hg => ?_
  have KX := hY w _ Y
  exact lawG KX G.T.g G.T.b G.T.builtins G.T.nolimit hg hobj hints (Nat.le_trans hlen hn2) hr (F w mg fa _ KX G.T.g hmg) fun H hS => hsp w H a ns hlen hbits hS
end BJ

/-! the laws' drawing of numbers: what its dict is, what a draw promises -/
namespace BJ
open PySem PySem.Spec PyProof.Rows L2
open PySem.W (Frag)

theorem upd_keep {H : Hp} {a p : Addr} {o u : HO} (h : H a = some u) (np : H p = none) : upd H p o a = some u := by rw [upd_ne (ne_of_none h np)]; exact h
theorem same_upd {H : Hp} {p : Addr} {o : HO} (np : H p = none) : Same H (upd H p o) := fun _ _ e => upd_keep e np
theorem Same.trans' {H H1 H2 : Hp} (a : Same H H1) (b : Same H1 H2) : Same H H2 := fun p o e => b p o (a p o e)
theorem Same.rfl' {H : Hp} : Same H H := fun _ _ e => e

theorem ifd {p : Prop} [Decidable p] {A B : Prop} (h1 : p → A) (h2 : ¬ p → B) : if decide p = true then A else B := by
  by_cases h : p
  · rw [if_pos (decide_eq_true h)]
    exact h1 h
  · rw [if_neg (by simpa using h)]
    exact h2 h
theorem ifb {b : Bool} {A B : Prop} (h1 : b = true → A) (h2 : b = false → B) : if b = true then A else B := by
  cases b with
  | true => exact h1 rfl
  | false => exact h2 rfl
def drw (c : Addr) (a l u : Int) : List (Key × V) := [(.inr "cells", .ref c), (.inr "at", .int a), (.inr "left", .int l), (.inr "used", .int u)]
section
variable {c : Addr} {a l u i : Int} {v : V}
theorem drw_cells : valV (drw c a l u) (Sum.inr "cells") = some (.ref c) := by simp [drw, valV]
theorem drw_at : valV (drw c a l u) (Sum.inr "at") = some (.int a) := by
  have h1 : ¬ (("cells" : Str) = "at") := by decide
  simp [drw, valV, List.find?, h1]
theorem drw_left : valV (drw c a l u) (Sum.inr "left") = some (.int l) := by
  have h1 : ¬ (("cells" : Str) = "left") := by decide
  have h2 : ¬ (("at" : Str) = "left") := by decide
  simp [drw, valV, List.find?, h1, h2]
theorem drw_used : valV (drw c a l u) (Sum.inr "used") = some (.int u) := by
  have h1 : ¬ (("cells" : Str) = "used") := by decide
  have h2 : ¬ (("at" : Str) = "used") := by decide
  have h3 : ¬ (("left" : Str) = "used") := by decide
  simp [drw, valV, List.find?, h1, h2, h3]
theorem drw_put_at : putK (drw c a l u) (Sum.inr "at") (.int i) = drw c i l u := by
  have h1 : ¬ (("cells" : Str) = "at") := by decide
  have h2 : ¬ (("left" : Str) = "at") := by decide
  have h3 : ¬ (("used" : Str) = "at") := by decide
  simp [drw, putK, h1, h2, h3]
theorem drw_put_left : putK (drw c a l u) (Sum.inr "left") (.int i) = drw c a i u := by
  have h1 : ¬ (("cells" : Str) = "left") := by decide
  have h2 : ¬ (("at" : Str) = "left") := by decide
  have h3 : ¬ (("used" : Str) = "left") := by decide
  simp [drw, putK, h1, h2, h3]
theorem drw_put_used : putK (drw c a l u) (Sum.inr "used") (.int i) = drw c a l i := by
  have h1 : ¬ (("cells" : Str) = "used") := by decide
  have h2 : ¬ (("at" : Str) = "used") := by decide
  have h3 : ¬ (("left" : Str) = "used") := by decide
  simp [drw, putK, h1, h2, h3]
theorem drw_len : (drw c a l u).length = 4 := rfl
end
/-- the dict of the draws at d, its cells at c; at most n draws were made -/
structure Dr (H : Hp) (d c : Addr) (cells : List Int) (n : Nat) : Prop where
  dict : ∃ a l u, H d = some (.dK (drw c a l u)) ∧ 0 ≤ a ∧ a ≤ (n : Int) ∧ 0 ≤ u ∧ u ≤ (n : Int) ∧ 0 ≤ l
  list : H c = some (.lst (cells.map V.int))
  ne : cells ≠ []
  len : cells.length ≤ 64
theorem Dr.dc {H : Hp} {d c : Addr} {cells : List Int} {n : Nat} (D : Dr H d c cells n) : d ≠ c := by
  obtain ⟨a, l, u, h, _⟩ := D.dict
  exact ne_of h D.list (fun z => nomatch z)
theorem Dr.mono {H : Hp} {d c : Addr} {cells : List Int} {n m : Nat} (D : Dr H d c cells n) (h : n ≤ m) : Dr H d c cells m := by
  obtain ⟨⟨a, l, u, h1, h2, h3, h4, h5, h6⟩, hl, hn, hz⟩ := D
  exact ⟨⟨a, l, u, h1, h2, by omega, h4, by omega, h6⟩, hl, hn, hz⟩
theorem Dr.same {H H' : Hp} {d c : Addr} {cells : List Int} {n : Nat} (D : Dr H d c cells n) (s : Same H H') : Dr H' d c cells n := by
  obtain ⟨⟨a, l, u, h1, h2⟩, hl, hn, hz⟩ := D
  exact ⟨⟨a, l, u, s _ _ h1, h2⟩, s _ _ hl, hn, hz⟩
/-- all stands but at d -/
def But (d : Addr) (H H' : Hp) : Prop := ∀ p, p ≠ d → H' p = H p
theorem But.trans {d : Addr} {H H1 H2 : Hp} (a : But d H H1) (b : But d H1 H2) : But d H H2 := fun p h => (b p h).trans (a p h)
theorem But.rfl {d : Addr} {H : Hp} : But d H H := fun _ _ => Eq.refl _
theorem But.upd {d : Addr} {H : Hp} {o : HO} : But d H (upd H d o) := fun _ h => upd_ne h
/-- old things stand but d (new things may have come) -/
def SameBut (d : Addr) (H H' : Hp) : Prop := ∀ p o, p ≠ d → H p = some o → H' p = some o
theorem SameBut.rfl {d : Addr} {H : Hp} : SameBut d H H := fun _ _ _ e => e
theorem SameBut.trans {d : Addr} {H H1 H2 : Hp} (a : SameBut d H H1) (b : SameBut d H1 H2) : SameBut d H H2 := fun p o h e => b p o h (a p o h e)
theorem SameBut.of {d : Addr} {H H' : Hp} (s : Same H H') : SameBut d H H' := fun p o _ e => s p o e
theorem But.sb {d : Addr} {H H' : Hp} (b : But d H H') : SameBut d H H' := fun p o h e => (b p h).trans e

theorem dg {H : Hp} {d : Addr} {kvs : List (Key × V)} {k : Key} {v : V} (h : H d = some (.dK kvs)) (e : valV kvs k = some v) : DGet H d (kV k) (some v) := by
  rw [← e]
  exact DGet.k h
theorem dp {H : Hp} {d : Addr} {kvs kvs' : List (Key × V)} {k : Key} {v : V} (h : H d = some (.dK kvs)) (e : putK kvs k v = kvs') (hl : kvs.length < 1000) : DPut H d (kV k) v (upd H d (.dK kvs')) := by
  rw [← e]
  exact DPut.k h (Nat.lt_of_lt_of_le hl (by decide))
theorem fm {i b : Int} (h : 0 < b) : 0 ≤ i.fmod b ∧ i.fmod b < b := by
  rw [Int.fmod_eq_emod_of_nonneg i (by omega)]
  exact ⟨Int.emod_nonneg _ (by omega), Int.emod_lt_of_pos _ h⟩
theorem fd {i b : Int} (h : 0 < b) (hi : 0 ≤ i) : 0 ≤ i.fdiv b := by
  rw [Int.fdiv_eq_ediv_of_nonneg i (by omega)]
  exact Int.ediv_nonneg hi (by omega)
theorem Dr_up {H : Hp} {d c : Addr} {cells : List Int} {n : Nat} (D : Dr H d c cells n) {a l u : Int} (h1 : 0 ≤ a) (h2 : a ≤ (n : Int) + 1) (h3 : 0 ≤ u) (h4 : u ≤ (n : Int) + 1) (h5 : 0 ≤ l) : Dr (upd H d (.dK (drw c a l u))) d c cells (n + 1) :=
  ⟨⟨a, l, u, upd_same, h1, by omega, h3, by omega, h5⟩, by rw [upd_ne D.dc.symm]; exact D.list, D.ne, D.len⟩
def spBegin (K : Frag) : Sp := fun vs H Q _ => ∃ (a : Addr) (ns : List Int), vs = [.ref a] ∧ Scr K H a (ns.map V.int) ∧ ns.length ≤ 63 ∧ ∀ d c H', Same H H' → H d = none → H c = none → Dr H' d c (ns ++ [0]) 0 → Q (.ref d) H'
def spMixed : Sp := fun vs H Q _ => ∃ (cell k : Int), vs = [.int cell, .int k] ∧ 0 ≤ k ∧ k ≤ 1000000000 ∧ ∀ r, 0 ≤ r → Q (.int r) H
def spNext : Sp := fun vs H Q _ => ∃ (d c : Addr) (cells : List Int) (n : Nat) (b : Int), vs = [.ref d, .int b] ∧ Dr H d c cells n ∧ n < 1000000000 ∧ 0 < b ∧ b < 1073741824 ∧
  ∀ r H', 0 ≤ r → r < b → Dr H' d c cells (n + 1) → But d H H' → Q (.int r) H'
end BJ

/-! what evaluates (on Evl): calls, comprehensions by walks; types of values; data with {} -/
namespace BJ
open PySem PySem.Spec PyProof.Rows L2 Evl
open PySem.W (Frag kitOne kitAny)

section
variable {σ : L2.St} {H : Hp} {z : V}
/-- a def's promise gives the value z -/
def SpE (sp : Sp) (vs : List V) (H : Hp) (z : V) : Prop := ∀ H1, Ex H H1 → ∀ (Q : VK) (E : XK), (∀ H2, Ex H1 H2 → Q z H2) → sp vs H1 Q E
theorem ev_ca {sp : Sp} {W : WX} {t : TA} {vs : List V} (h : EvA t σ H vs) (hs : SpE sp vs H z) : Ev (tCa sp W t) σ H z := fun H1 e Q q =>
  h H1 e _ fun H2 e2 => hs H2 (e.trans e2) Q _ fun H3 e3 => q H3 (e2.trans e3)
theorem et_yes : EvT tYes σ H true := fun H1 _ _ q => q H1 (Ex.refl H1)

theorem given_len' (n : Nat) (f : Nat → Bool) (v : Nat → V) : (given n f v).length ≤ n := given_len n f v
theorem cw_turn' {t : TT} {te : TE} {H H' : Hp} {f : Nat → Bool} {v : Nat → V} {Dl : Addr} {i : Nat} {σ2 : L2.St} (p : Cw H f v Dl i H') (hi : i < 1000000) (ht : EvT t σ2 H (f i)) (he : f i = true → Ev te σ2 H (v i)) :
    t σ2 H' fun b H3 => if b = true then te σ2 H3 fun y H4 => ∃ acc, H4 Dl = some (.lst acc) ∧ acc.length < sizeLine ∧ Cw H f v Dl (i + 1) (upd H4 Dl (.lst (acc ++ [y]))) else Cw H f v Dl (i + 1) H3 := by
  obtain ⟨p1, p2, p3⟩ := p
  refine ht H' p2 _ fun H3 e3 => ?_
  cases hf : f i with
  | true =>
    show te σ2 H3 fun y H4 => ∃ acc, H4 Dl = some (.lst acc) ∧ acc.length < sizeLine ∧ Cw H f v Dl (i + 1) (upd H4 Dl (.lst (acc ++ [y])))
    refine he hf H3 (p2.trans e3) _ fun H4 e4 => ⟨given i f v, e4 Dl _ (e3 Dl _ p3), (by have := given_len i f v; rw [sizeLine_eq]; omega), p1, Ex.mut ((p2.trans e3).trans e4) p1, ?_⟩
    rw [given_yes hf]
    exact upd_same
  | false =>
    show Cw H f v Dl (i + 1) H3
    refine ⟨p1, p2.trans e3, ?_⟩
    rw [given_no hf]
    exact e3 Dl _ p3
/-- a comprehension over a walk; the turn may lay objects, changes none -/
theorem lc_ev {J : It} {n : Nat} {G : Hp → Prop} {Y : Nat → Hp → V → Hp → Prop} (w : Walk J n G Y) {g : TG} {tt : TT} {te : TE} {vs : List Nat} {H1 : Hp} {Q : VK} (f : Nat → Bool) (v : Nat → V) (hn : n ≤ 1000000)
    (hG : ∀ H, Ex H1 H → G H)
    (hs : ∀ i x H2 H3, i < n → Ex H1 H2 → Y i H2 x H3 → ∃ σ2, wipe σ2 vs = wipe σ vs ∧ Ex H2 H3 ∧ (∀ Q : L2.St → Hp → Prop, Q σ2 H3 → g x (wipe σ vs) H3 Q) ∧ EvT tt σ2 H1 (f i) ∧ (f i = true → Ev te σ2 H1 (v i)))
    (k : ∀ D H', H1 D = none → Ex H1 H' → H' D = some (.lst (given n f v)) → Q (.ref D) H') :
    ∀ D, H1 D = none → ∃ W : Nat → Nat → Hp → Prop, (∃ m, W 0 m (upd H1 D (.lst []))) ∧ ∀ i m H, W i m H →
      (J.stop i H ∧ Q (.ref D) H) ∨ (J.go i H ∧ ∃ Nx : Hp → Prop, (∀ H', Nx H' → ∃ m', m' < m ∧ W (i + 1) m' H') ∧ ∀ x H', J.yld i H x H' → g x (wipe σ vs) H' fun σ2 H2 => wipe σ2 vs = wipe σ vs ∧ tt σ2 H2 fun b H3 =>
        if b = true then te σ2 H3 fun y H4 => ∃ acc, H4 D = some (.lst acc) ∧ acc.length < sizeLine ∧ Nx (upd H4 D (.lst (acc ++ [y]))) else Nx H3) := fun D hD =>
  lc_it w (Cw H1 f v D) ⟨hD, Ex.new hD, upd_same⟩ (fun i H _ p => hG H p.2.1) (fun i x H2 H3 hi p y => by
    obtain ⟨σ2, hw, e3, hg, ht, he⟩ := hs i x H2 H3 hi p.2.1 y
    exact hg _ ⟨hw, cw_turn' ⟨p.1, p.2.1.trans e3, e3 D _ p.2.2⟩ (by omega) ht he⟩) fun H' p => k D H' p.1 p.2.1 p.2.2
theorem given_map {α : Type} (xs : List α) (d : α) (f : α → Bool) (F : α → V) : given xs.length (fun i => f (xs.getD i d)) (fun i => F (xs.getD i d)) = (xs.filter f).map F := by
  unfold given
  have h : (List.range xs.length).map (fun i => xs.getD i d) = xs := by
    apply List.ext_getElem
    · simp
    · intro i h1 h2
      simp [List.getD, List.getElem?_eq_getElem h2]
  have e : ((List.range xs.length).filter (fun i => f (xs.getD i d))).map (fun i => xs.getD i d) = xs.filter f := by
    conv => rhs; rw [← h]
    rw [List.filter_map]
    rfl
  rw [← e, List.map_map]
  rfl
/-- .. its target a name, the items those of xs -/
theorem lc_at {J : It} {xs : List V} {G : Hp → Prop} (w : Walk J xs.length G (YAt xs)) {j : Nat} {tt : TT} {te : TE} {vs : List Nat} {H1 : Hp} {Q : VK} (f : V → Bool) (F : V → V) (hn : xs.length ≤ 1000000)
    (hG : ∀ H, Ex H1 H → G H) (hw : ∀ x, wipe ((wipe σ vs).set j (some x)) vs = wipe σ vs)
    (ht : ∀ x ∈ xs, EvT tt ((wipe σ vs).set j (some x)) H1 (f x)) (he : ∀ x ∈ xs, f x = true → Ev te ((wipe σ vs).set j (some x)) H1 (F x))
    (k : ∀ D H', H1 D = none → Ex H1 H' → H' D = some (.lst ((xs.filter f).map F)) → Q (.ref D) H') :
    ∀ D, H1 D = none → ∃ W : Nat → Nat → Hp → Prop, (∃ m, W 0 m (upd H1 D (.lst []))) ∧ ∀ i m H, W i m H →
      (J.stop i H ∧ Q (.ref D) H) ∨ (J.go i H ∧ ∃ Nx : Hp → Prop, (∀ H', Nx H' → ∃ m', m' < m ∧ W (i + 1) m' H') ∧ ∀ x H', J.yld i H x H' → gName j x (wipe σ vs) H' fun σ2 H2 => wipe σ2 vs = wipe σ vs ∧ tt σ2 H2 fun b H3 =>
        if b = true then te σ2 H3 fun y H4 => ∃ acc, H4 D = some (.lst acc) ∧ acc.length < sizeLine ∧ Nx (upd H4 D (.lst (acc ++ [y]))) else Nx H3) :=
  lc_ev w (fun i => f (xs.getD i .non)) (fun i => F (xs.getD i .non)) hn hG (fun i x H2 H3 hi e ⟨e1, hx⟩ => by
    subst e1
    have hm : x ∈ xs := List.mem_of_getElem? hx
    have hd : xs.getD i .non = x := by rw [List.getD, hx]; rfl
    refine ⟨_, hw x, Ex.refl _, fun Q q => q, ?_, ?_⟩
    · rw [hd]; exact ht x hm
    · rw [hd]; exact he x hm) (by rw [given_map]; exact k)
/-- .. its target a pair (a, b) of names -/
theorem lc_pr {J : It} {ps : List (V × V)} {G : Hp → Prop} {K : Frag} (w : Walk J ps.length G (fun i H v H' => ∃ T p, v = .ref T ∧ H T = none ∧ H' = upd H T (.tup [p.1, p.2]) ∧ ps[i]? = some p)) {j l : Nat} {tt : TT} {te : TE} {vs : List Nat} {H1 : Hp} {Q : VK} (f : V × V → Bool) (F : V × V → V) (hn : ps.length ≤ 1000000)
    (hG : ∀ H, Ex H1 H → G H) (hw : ∀ x y, wipe (((wipe σ vs).set j (some x)).set l (some y)) vs = wipe σ vs)
    (ht : ∀ p ∈ ps, EvT tt (((wipe σ vs).set j (some p.1)).set l (some p.2)) H1 (f p)) (he : ∀ p ∈ ps, f p = true → Ev te (((wipe σ vs).set j (some p.1)).set l (some p.2)) H1 (F p))
    (k : ∀ D H', H1 D = none → Ex H1 H' → H' D = some (.lst ((ps.filter f).map F)) → Q (.ref D) H') :
    ∀ D, H1 D = none → ∃ W : Nat → Nat → Hp → Prop, (∃ m, W 0 m (upd H1 D (.lst []))) ∧ ∀ i m H, W i m H →
      (J.stop i H ∧ Q (.ref D) H) ∨ (J.go i H ∧ ∃ Nx : Hp → Prop, (∀ H', Nx H' → ∃ m', m' < m ∧ W (i + 1) m' H') ∧ ∀ x H', J.yld i H x H' → gTup K 2 (gCons (gName j) (gCons (gName l) gNil)) x (wipe σ vs) H' fun σ2 H2 => wipe σ2 vs = wipe σ vs ∧ tt σ2 H2 fun b H3 =>
        if b = true then te σ2 H3 fun y H4 => ∃ acc, H4 D = some (.lst acc) ∧ acc.length < sizeLine ∧ Nx (upd H4 D (.lst (acc ++ [y]))) else Nx H3) :=
  lc_ev w (fun i => f (ps.getD i (.non, .non))) (fun i => F (ps.getD i (.non, .non))) hn hG (fun i x H2 H3 hi e y => by
    obtain ⟨T, ⟨p1, p2⟩, rfl, hT, rfl, hx⟩ := y
    have hm : (p1, p2) ∈ ps := List.mem_of_getElem? hx
    have hd : ps.getD i (.non, .non) = (p1, p2) := by rw [List.getD, hx]; rfl
    refine ⟨_, hw p1 p2, Ex.new hT, fun Q q => ⟨T, [p1, p2], rfl, st_of upd_same, rfl, p1, [p2], rfl, p2, [], rfl, rfl, q⟩, ?_, ?_⟩
    · rw [hd]; exact ht _ hm
    · rw [hd]; exact he _ hm) (by rw [given_map]; exact k)
theorem walk_strA {z : Str} : Walk (Its z) ((z.cps.toList.map fun c => V.str ⟨#[c]⟩).length) (fun _ => True) (YAt (z.cps.toList.map fun c => V.str ⟨#[c]⟩)) := by
  have e : (z.cps.toList.map fun c => V.str ⟨#[c]⟩).length = z.cps.size := by simp
  rw [e]
  refine walk_str.mono (fun _ h => h) fun i H x H' hi _ ⟨h1, c, hc, hx⟩ => ⟨h1, ?_⟩
  rw [List.getElem?_map, Array.getElem?_toList, hc, hx]
  rfl
theorem walk_rangeA {lo : Int} {n : Nat} : Walk (Itr lo n) (((List.range n).map fun i => V.int (lo + (i : Nat))).length) (fun _ => True) (YAt ((List.range n).map fun i => V.int (lo + (i : Nat)))) := by
  have e : ((List.range n).map fun i => V.int (lo + (i : Nat))).length = n := by simp
  rw [e]
  refine walk_range.mono (fun _ h => h) fun i H x H' hi _ ⟨h1, h2⟩ => ⟨h1, ?_⟩
  rw [List.getElem?_map, List.getElem?_range hi, h2]
  rfl
theorem walk_rangeCA {lo c : Int} {n : Nat} : Walk (Itc lo c n) (((List.range n).map fun i => V.int (lo + (i : Nat) * c)).length) (fun _ => True) (YAt ((List.range n).map fun i => V.int (lo + (i : Nat) * c))) := by
  have e : ((List.range n).map fun i => V.int (lo + (i : Nat) * c)).length = n := by simp
  rw [e]
  refine walk_rangeC.mono (fun _ h => h) fun i H x H' hi _ ⟨h1, h2⟩ => ⟨h1, ?_⟩
  rw [List.getElem?_map, List.getElem?_range hi, h2]
  rfl
/-- enumerate(text) -/
def enumP (z : Str) : List (V × V) := (z.cps.toList.zipIdx).map fun p => (V.int (p.2 : Nat), V.str ⟨#[p.1]⟩)
theorem enumP_len (z : Str) : (enumP z).length = z.cps.size := by simp [enumP]
theorem walk_enumSA {z : Str} : Walk (ItEs z) (enumP z).length (fun _ => True) (fun i H v H' => ∃ T p, v = .ref T ∧ H T = none ∧ H' = upd H T (.tup [p.1, p.2]) ∧ (enumP z)[i]? = some p) := by
  rw [enumP_len]
  refine ⟨fun i H hi _ => hi, fun H _ => rfl, fun i H v H' hi _ ⟨T, c, h1, h2, h3, h4⟩ => ⟨T, (V.int (i : Nat), V.str ⟨#[c]⟩), h1, h2, h3, ?_⟩⟩
  unfold enumP
  rw [List.getElem?_map, List.getElem?_zipIdx, Array.getElem?_toList, h4]
  simp
theorem walk_zipA {K : Frag} {a b : Addr} {xs ys : List V} : Walk (Itz K a b) (xs.zip ys).length (fun H => SqL K H a xs ∧ SqL K H b ys) (fun i H v H' => ∃ T p, v = .ref T ∧ H T = none ∧ H' = upd H T (.tup [p.1, p.2]) ∧ (xs.zip ys)[i]? = some p) := by
  refine (walk_zip (n := (xs.zip ys).length) (by simp)).mono (fun _ h => h) fun i H v H' hi _ ⟨T, x, y, h1, h2, h3, h4, h5⟩ => ⟨T, (x, y), h1, h2, h3, ?_⟩
  rw [List.getElem?_zip_eq_some]
  exact ⟨h4, h5⟩
end

/-! ### types -/
theorem ty_tup {K : Frag} {H : Hp} {p : Addr} {xs : List V} (h : SqT K H p xs) : TyX K H (.ref p) (.type "tuple") := by
  rcases h with (h | ⟨o, h⟩) | ⟨o, its, n, hk, hc, _⟩
  · exact .base (.tup h)
  · exact .fTuple h
  · exact .kTuple hk hc
theorem ty_lst {K : Frag} {H : Hp} {p : Addr} {xs : List V} (h : SqL K H p xs) : TyX K H (.ref p) (.type "list") := by
  rcases h with (h | ⟨o, h⟩) | ⟨o, its, n, hk, hc, _⟩
  · exact .base (.lst h)
  · exact .base (.frz h)
  · exact .kList hk hc
/-- x is of the built-in type n -/
def TyN (K : Frag) (H : Hp) (x : V) (n : String) : Prop := TyX K H x (.type n)
theorem tyx_ex {K : Frag} {H H' : Hp} (e : Ex H H') {x : V} {n : String} (h : TyX K H x (.type n)) : TyX K H' x (.type n) := by
  generalize ht : Value.type n = t at h
  cases h with
  | base b =>
    cases b with
    | non => exact .base .non
    | bl y => exact .base (.bl y)
    | int i => exact .base (.int i)
    | str y => exact .base (.str y)
    | flt y => exact .base (.flt y)
    | lst ea => exact .base (.lst (e _ _ ea))
    | frz ea => exact .base (.frz (e _ _ ea))
    | tup ea => exact .base (.tup (e _ _ ea))
    | dK ea => exact .base (.dK (e _ _ ea))
    | dT ea => exact .base (.dT (e _ _ ea))
    | ins => cases ht
  | byt b => exact .byt b
  | set ea => exact .set (e _ _ ea)
  | kList ea c => exact .kList ea c
  | kTuple ea c => exact .kTuple ea c
  | kDict ea c => exact .kDict ea c
  | fTuple ea => exact .fTuple (e _ _ ea)
  | fDict ea => exact .fDict (e _ _ ea)
mutual
theorem dp_ex {K : Frag} {H H' : Hp} (e : Ex H H') : ∀ {x : V} {d : PyData}, Dp K H x d → Dp K H' x d
  | _, _, .non => .non
  | _, _, .bl b => .bl b
  | _, _, .int i => .int i
  | _, _, .str x => .str x
  | _, _, .lst h1 h2 => .lst (ex_l e h1) (dpAll_ex e h2)
  | _, _, .tup h1 h2 => .tup (ex_t e h1) (dpAll_ex e h2)
theorem dpAll_ex {K : Frag} {H H' : Hp} (e : Ex H H') : ∀ {xs : List V} {ds : List PyData}, DpAll K H xs ds → DpAll K H' xs ds
  | _, _, .nil => .nil
  | _, _, .cons h1 h2 => .cons (dp_ex e h1) (dpAll_ex e h2)
end
theorem dpAll_int {K : Frag} {H : Hp} : ∀ ns : List Int, DpAll K H (ns.map V.int) (ns.map PyData.int)
  | [] => .nil
  | n :: ns => .cons (.int n) (dpAll_int ns)
/-- the type's name of data -/
def tyN : PyData → String
  | .none => "NoneType" | .bool _ => "bool" | .int _ => "int" | .str _ => "str" | .list _ => "list" | .tuple _ => "tuple" | .dict _ => "dict"
/-- data, or the empty dict -/
inductive Dq (K : Frag) (H : Hp) : V → PyData → Prop
  | dp {x : V} {d : PyData} (h : Dp K H x d) : Dq K H x d
  | dict {a : Addr} (h : H a = some (.dK [])) : Dq K H (.ref a) (.dict [])
theorem Dq.ex {K : Frag} {H H' : Hp} {x : V} {d : PyData} (e : Ex H H') (h : Dq K H x d) : Dq K H' x d := by
  cases h with
  | dp h => exact .dp (dp_ex e h)
  | dict h => exact .dict (e _ _ h)
theorem dp_ty {K : Frag} {H : Hp} {x : V} {d : PyData} (h : Dp K H x d) : TyX K H x (.type (tyN d)) := by
  cases h with
  | non => exact .base .non
  | bl b => exact .base (.bl b)
  | int i => exact .base (.int i)
  | str x => exact .base (.str x)
  | lst h _ => exact ty_lst h
  | tup h _ => exact ty_tup h
theorem Dq.ty {K : Frag} {H : Hp} {x : V} {d : PyData} (h : Dq K H x d) : TyX K H x (.type (tyN d)) := by
  cases h with
  | dp h => exact dp_ty h
  | dict h => exact .base (.dK h)
section
variable {X : Cx}
/-- repr(x) of data, {} among it -/
def rReprQ (K : Frag) : List V → Hp → VK → Prop := fun xs H Q => ∃ (x : V) (d : PyData), xs = [x] ∧ Dq K H x d ∧ d.showable = true ∧ (d = .dict [] ∨ d.hasDict = false) ∧ d.depth ≤ 40 ∧ d.shown.length ≤ sizeLine ∧ Q (.str d.shown) H
theorem call_reprQ {k : Nat} (hr : Room k X.A) (hG : X.A.guards = some []) : CallR X (.builtin "repr") (rReprQ X.K) := by
  rintro pins s σ H xs us Q I r ⟨x, d, rfl, hd, hs, hnd, hdep, hsz, q⟩
  cases hd with
  | dp hd =>
    refine call_repr hr hG pins s σ H [x] us Q I r ⟨x, d, rfl, hd, hs, ?_, hdep, hsz, q⟩
    rcases hnd with rfl | h
    · cases hd
    · exact h
  | @dict a ha =>
    obtain ⟨u, rfl, r1⟩ := vals1 r
    cases (show u = Value.ref a from r1)
    obtain ⟨_, hsys, vs, hkv, o, es, ep, h1, h2, h3, _, h5, _⟩ := (show ObjOk X.prog X.w H s.heap a (.dK []) from I.hok a _ ha)
    cases hkv
    have he : es.toList = [] := List.length_eq_zero_iff.mp (by rw [h5.length]; rfl)
    have rd : Reads s.heap (.ref a) (.dict []) (a :: [] ++ []) := .dict (kvs := []) h1 h2.1 h3 (by rw [he]; exact .nil) (by rw [he]; exact .nil)
    refine repr_of_reads' rd hs (fun _ hm => ?_) hG (by have := hr.un; omega) (fun _ _ e => e) (fun h' t tk kk => ⟨.str (PyData.dict []).shown, H, I.kept (t' := tk) kk, ⟨t, rfl⟩, q⟩) hsz
    have : sysModules = a := by simpa using hm
    rw [this] at hsys
    simp at hsys
end
end BJ

/-! hex digits, what a text of them reads to; data of ints -/
namespace BJ
open PySem PySem.Spec PyProof.Rows L2 Evl

/-! ### data of ints -/
theorem canLay_ints : ∀ ns : List Int, PyData.canLayAll0 (ns.map .int) = true
  | [] => rfl
  | n :: ns => by
    rw [List.map_cons]
    unfold PyData.canLayAll0
    rw [canLay_ints ns]
    rfl
theorem depth_ints : ∀ ns : List Int, PyData.depthAll (ns.map .int) = 0
  | [] => rfl
  | n :: ns => by
    rw [List.map_cons]
    unfold PyData.depthAll
    rw [depth_ints ns]
    rfl
theorem show_ints : ∀ ns : List Int, (∀ n ∈ ns, n.natAbs < 10 ^ 12) → PyData.showableAll (ns.map .int) = true
  | [], _ => rfl
  | n :: ns, h => by
    rw [List.map_cons]
    unfold PyData.showableAll
    rw [show_ints ns fun m hm => h m (List.mem_cons_of_mem _ hm), Bool.and_true]
    unfold PyData.showable
    have h1 := h n List.mem_cons_self
    refine decide_eq_true ?_
    by_cases h0 : n.natAbs = 0
    · rw [h0]; decide
    · have := (Nat.log2_lt h0 (k := 1920)).mpr (Nat.lt_of_lt_of_le h1 (by decide))
      exact this
theorem short_ints : ∀ ns : List Int, (∀ n ∈ ns, n.natAbs < 10 ^ 12) → PyData.leavesShortAll 13 (ns.map .int) = true
  | [], _ => rfl
  | n :: ns, h => by
    rw [List.map_cons]
    unfold PyData.leavesShortAll
    rw [short_ints ns fun m hm => h m (List.mem_cons_of_mem _ hm), Bool.and_true]
    unfold PyData.leavesShort
    exact decide_eq_true (PyData.shown_int_le (h n List.mem_cons_self))
theorem bulk_ints : ∀ ns : List Int, PyData.bulkAll (ns.map .int) = ns.length
  | [] => rfl
  | n :: ns => by
    rw [List.map_cons]
    unfold PyData.bulkAll
    rw [bulk_ints ns, List.length_cons]
    unfold PyData.bulk
    omega
theorem eqv_ints : ∀ ns ms : List Int, PyData.eqvAll (ns.map .int) (ms.map .int) = decide (ns = ms)
  | [], [] => by simp [PyData.eqvAll]
  | [], m :: ms => by simp [PyData.eqvAll]
  | n :: ns, [] => by simp [PyData.eqvAll]
  | n :: ns, m :: ms => by
    rw [List.map_cons, List.map_cons]
    unfold PyData.eqvAll
    rw [eqv_ints ns ms]
    unfold PyData.eqv
    by_cases h1 : n = m <;> by_cases h2 : ns = ms <;> simp [h1, h2]
/-- a tuple, a list of ints -/
def dT (ns : List Int) : PyData := .tuple (ns.map .int)
def dL (ns : List Int) : PyData := .list (ns.map .int)
theorem dT_shaped (ns : List Int) : SeqAt.shaped (dT ns) = true := by
  unfold SeqAt.shaped dT
  rw [Bool.and_eq_true]
  refine ⟨?_, decide_eq_true ?_⟩
  · unfold PyData.canLay0; exact canLay_ints ns
  · unfold PyData.depth; rw [depth_ints]; omega
theorem dL_shaped (ns : List Int) : SeqAt.shaped (dL ns) = true := by
  unfold SeqAt.shaped dL
  rw [Bool.and_eq_true]
  refine ⟨?_, decide_eq_true ?_⟩
  · unfold PyData.canLay0; exact canLay_ints ns
  · unfold PyData.depth; rw [depth_ints]; omega
/-- what repr asks of data -/
structure Shows (d : PyData) : Prop where
  s : d.showable = true
  n : d = .dict [] ∨ d.hasDict = false
  p : d.depth ≤ 40
  z : d.shown.length ≤ sizeLine
theorem hasDict_ints : ∀ ns : List Int, PyData.hasDictAll (ns.map .int) = false
  | [] => rfl
  | n :: ns => by
    rw [List.map_cons]
    unfold PyData.hasDictAll
    rw [hasDict_ints ns]
    rfl
theorem dT_shows {ns : List Int} (h : ∀ n ∈ ns, n.natAbs < 10 ^ 12) (hl : ns.length ≤ 1000000) : Shows (dT ns) where
  s := by unfold dT PyData.showable; exact show_ints ns h
  n := .inr (by unfold dT PyData.hasDict; exact hasDict_ints ns)
  p := by unfold dT PyData.depth; rw [depth_ints]; omega
  z := PyData.shown_fits_bulk (d := dT ns) (B := 13) (by decide) (by decide) (by unfold dT PyData.leavesShort; exact short_ints ns h) (by unfold dT PyData.bulk; rw [bulk_ints]; omega)
theorem dL_shows {ns : List Int} (h : ∀ n ∈ ns, n.natAbs < 10 ^ 12) (hl : ns.length ≤ 1000000) : Shows (dL ns) where
  s := by unfold dL PyData.showable; exact show_ints ns h
  n := .inr (by unfold dL PyData.hasDict; exact hasDict_ints ns)
  p := by unfold dL PyData.depth; rw [depth_ints]; omega
  z := PyData.shown_fits_bulk (d := dL ns) (B := 13) (by decide) (by decide) (by unfold dL PyData.leavesShort; exact short_ints ns h) (by unfold dL PyData.bulk; rw [bulk_ints]; omega)
theorem dp_T {K : PySem.W.Frag} {H : Hp} {p : Addr} {ns : List Int} (h : SqT K H p (ns.map V.int)) : Dp K H (.ref p) (dT ns) := .tup h (dpAll_int ns)
theorem dp_L {K : PySem.W.Frag} {H : Hp} {p : Addr} {ns : List Int} (h : SqL K H p (ns.map V.int)) : Dp K H (.ref p) (dL ns) := .lst h (dpAll_int ns)
theorem eqv_T (ns ms : List Int) : PyData.eqv (dT ns) (dT ms) = decide (ns = ms) := by unfold dT PyData.eqv; exact eqv_ints ns ms
theorem eqv_L (ns ms : List Int) : PyData.eqv (dL ns) (dL ms) = decide (ns = ms) := by unfold dL PyData.eqv; exact eqv_ints ns ms

/-! ### hex -/
def DIG : Str := "0123456789abcdef"
def hexd (i : Nat) : Nat := if i < 10 then 48 + i else 87 + i
def hval (c : Nat) : Nat := if c < 58 then c - 48 else c - 87
def hok (c : Nat) : Bool := decide (c ∈ DIG.cps.toList)
theorem dig_eq : DIG.cps.toList = (List.range 16).map hexd := by decide +kernel
theorem dig_len : DIG.length = 16 := by decide +kernel
theorem hval_hexd {i : Nat} (h : i < 16) : hval (hexd i) = i := by unfold hval hexd; split <;> split <;> omega
theorem hok_hexd {i : Nat} (h : i < 16) : hok (hexd i) = true := by
  unfold hok
  rw [dig_eq]
  exact decide_eq_true (List.mem_map.mpr ⟨i, List.mem_range.mpr h, rfl⟩)
theorem hok_ex {c : Nat} (h : hok c = true) : ∃ i, i < 16 ∧ c = hexd i := by
  unfold hok at h
  rw [dig_eq] at h
  obtain ⟨i, hi, e⟩ := List.mem_map.mp (of_decide_eq_true h)
  exact ⟨i, List.mem_range.mp hi, e.symm⟩
theorem hval_lt {c : Nat} (h : hok c = true) : hval c < 16 := by
  obtain ⟨i, hi, rfl⟩ := hok_ex h
  rw [hval_hexd hi]
  exact hi
theorem dig_occ : ∀ i ∈ List.range 16, Builtin.Str.occurrences DIG ⟨#[hexd i]⟩ 0 DIG.length 1 = [i] := by decide +kernel
theorem hok_occ {c : Nat} (h : hok c = true) : Builtin.Str.occurrences DIG ⟨#[c]⟩ 0 DIG.length 1 = [hval c] := by
  obtain ⟨i, hi, rfl⟩ := hok_ex h
  rw [hval_hexd hi]
  exact dig_occ i (List.mem_range.mpr hi)
theorem dig_at {i : Nat} (h : i < 16) : atI DIG.cps.toList (i : Int) = some (hexd i) := by
  refine atI_nat ?_
  rw [dig_eq, List.getElem?_map, List.getElem?_range h]
  rfl
def pairs : List Nat → List Int
  | a :: b :: r => (16 * (hval a : Int) + (hval b : Int)) :: pairs r
  | _ => []
/-- what a text reads to: octets, or where it is wrong -/
def due (l : List Nat) : List Int ⊕ Int :=
  match l.findIdx? fun c => !hok c with
  | some i => .inr (i : Int)
  | none => if l.length % 2 = 1 then .inr (l.length : Int) else if 100000 < l.length then .inr 100000 else .inl (pairs l)
def dueD (l : List Nat) : PyData := match due l with | .inl ns => dT ns | .inr i => dL [i]
theorem pairs_len : ∀ l : List Nat, (pairs l).length = l.length / 2
  | [] => rfl
  | [_] => by simp [pairs]
  | a :: b :: r => by
    unfold pairs
    rw [List.length_cons, pairs_len r, List.length_cons, List.length_cons]
    omega
theorem pairs_lt : ∀ l : List Nat, (∀ c ∈ l, hok c = true) → ∀ n ∈ pairs l, 0 ≤ n ∧ n ≤ 255
  | [], _, n, h => by cases h
  | [_], _, n, h => by cases h
  | a :: b :: r, hl, n, h => by
    unfold pairs at h
    rcases List.mem_cons.mp h with rfl | h
    · have h1 := hval_lt (hl a List.mem_cons_self)
      have h2 := hval_lt (hl b (List.mem_cons_of_mem _ List.mem_cons_self))
      omega
    · exact pairs_lt r (fun c hc => hl c (List.mem_cons_of_mem _ (List.mem_cons_of_mem _ hc))) n h
theorem pairs_at : ∀ (l : List Nat) (n : Nat), l.length = 2 * n → (List.range n).map (fun i => 16 * (hval (l.getD (2 * i) 0) : Int) + (hval (l.getD (2 * i + 1) 0) : Int)) = pairs l
  | [], n, h => by
    have : n = 0 := by simp at h; omega
    subst this
    rfl
  | [_], n, h => by simp at h; omega
  | a :: b :: r, n, h => by
    obtain ⟨m, rfl⟩ : ∃ m, n = m + 1 := ⟨n - 1, by simp at h; omega⟩
    have h2 : r.length = 2 * m := by simp at h; omega
    unfold pairs
    rw [← pairs_at r m h2, List.range_succ_eq_map, List.map_cons, List.map_map]
    congr 1
theorem all_ok {l : List Nat} (h : l.findIdx? (fun c => !hok c) = none) : ∀ c ∈ l, hok c = true := by
  rw [List.findIdx?_eq_none_iff] at h
  intro c hc
  have := h c hc
  simpa using this
theorem due_inl {l : List Nat} {ns : List Int} (h : due l = .inl ns) : l.findIdx? (fun c => !hok c) = none ∧ l.length % 2 = 0 ∧ l.length ≤ 100000 ∧ ns = pairs l := by
  unfold due at h
  split at h
  · cases h
  · rename_i e
    split at h
    · cases h
    · split at h
      · cases h
      · cases h
        exact ⟨e, by omega, by omega, rfl⟩
theorem due_shows {l : List Nat} (hl : l.length ≤ 1000000) : Shows (dueD l) := by
  unfold dueD
  cases h : due l with
  | inl ns =>
    obtain ⟨h1, h2, h3, rfl⟩ := due_inl h
    exact dT_shows (fun n hn => by have := pairs_lt l (all_ok h1) n hn; omega) (by rw [pairs_len]; omega)
  | inr i =>
    refine dL_shows (fun n hn => ?_) (by simp)
    rw [List.mem_singleton] at hn
    subst hn
    unfold due at h
    split at h
    · rename_i j hj
      cases h
      have := (List.findIdx?_eq_some_iff_findIdx_eq.mp hj).1
      omega
    · split at h
      · cases h; omega
      · split at h
        · cases h; omega
        · cases h
/-! ### the text of octets -/
def hexL (ns : List Int) : List Nat := ns.flatMap fun i => [hexd (i / 16).toNat, hexd (i % 16).toNat]
def pairS (i : Int) : Str := ⟨#[hexd (i / 16).toNat, hexd (i % 16).toNat]⟩
def hexS (ns : List Int) : Str := Txt.join "" (ns.map pairS)
theorem joinL_nil : ∀ ps : List (List Nat), TL.joinL [] ps = ps.flatten
  | [] => rfl
  | [p] => by simp [TL.joinL]
  | p :: q :: r => by
    unfold TL.joinL
    rw [joinL_nil (q :: r)]
    simp
theorem hexS_tl (ns : List Int) : (hexS ns).cps.toList = hexL ns := by
  unfold hexS
  rw [TL.join_eq]
  have := TL.tl_join "" (ns.map pairS)
  rw [show TL.tl "" = [] from rfl, joinL_nil] at this
  show TL.tl (Str.join "" (ns.map pairS)) = _
  rw [this, List.map_map]
  unfold hexL
  rw [List.flatMap_def]
  rfl
theorem hexL_len : ∀ ns : List Int, (hexL ns).length = 2 * ns.length
  | [] => rfl
  | n :: ns => by
    have := hexL_len ns
    unfold hexL at this ⊢
    rw [List.flatMap_cons, List.length_append, this, List.length_cons]
    simp only [List.length_cons, List.length_nil]
    omega
theorem hexL_ok : ∀ ns : List Int, (∀ n ∈ ns, 0 ≤ n ∧ n ≤ 255) → ∀ c ∈ hexL ns, hok c = true := by
  intro ns h c hc
  obtain ⟨n, hn, hc⟩ := List.mem_flatMap.mp hc
  have := h n hn
  rcases List.mem_cons.mp hc with rfl | hc
  · exact hok_hexd (by omega)
  · rw [List.mem_singleton] at hc
    subst hc
    exact hok_hexd (by omega)
theorem hexL_pairs : ∀ ns : List Int, (∀ n ∈ ns, 0 ≤ n ∧ n ≤ 255) → pairs (hexL ns) = ns
  | [], _ => rfl
  | n :: ns, h => by
    have h0 := h n List.mem_cons_self
    have ih := hexL_pairs ns fun m hm => h m (List.mem_cons_of_mem _ hm)
    unfold hexL at ih ⊢
    rw [List.flatMap_cons]
    show (16 * (hval (hexd (n / 16).toNat) : Int) + (hval (hexd (n % 16).toNat) : Int)) :: pairs (ns.flatMap _) = _
    rw [ih, hval_hexd (by omega), hval_hexd (by omega)]
    congr 1
    omega
theorem due_hexL {ns : List Int} (h : ∀ n ∈ ns, 0 ≤ n ∧ n ≤ 255) (hl : ns.length ≤ 50000) : due (hexL ns) = .inl ns := by
  unfold due
  have e : (hexL ns).findIdx? (fun c => !hok c) = none := by
    rw [List.findIdx?_eq_none_iff]
    intro c hc
    rw [hexL_ok ns h c hc]
    rfl
  rw [e]
  have hn := hexL_len ns
  simp only
  rw [if_neg (by omega), if_neg (by omega), hexL_pairs ns h]
theorem strLen_tl (z : Str) : z.length = z.cps.toList.length := by simp [Str.length]
theorem hexS_len (ns : List Int) : (hexS ns).length = 2 * ns.length := by rw [strLen_tl, hexS_tl, hexL_len]
theorem hexS_sum (ns : List Int) : ((ns.map pairS).map (·.length)).sum = 2 * ns.length := by
  induction ns with
  | nil => rfl
  | cons n ns ih =>
    rw [List.map_cons, List.map_cons, List.sum_cons, ih, List.length_cons]
    show 2 + _ = _
    omega

/-! ### the wrong places -/
def wrongL (l : List Nat) (k : Nat) : List Int := ((l.zipIdx k).filter fun p => !hok p.1).map fun p => ((p.2 : Nat) : Int)
theorem wrongL_head : ∀ (l : List Nat) (k : Nat), (wrongL l k).head? = (l.findIdx? fun c => !hok c).map fun i => ((i + k : Nat) : Int)
  | [], k => rfl
  | c :: l, k => by
    have ih := wrongL_head l (k + 1)
    unfold wrongL at ih ⊢
    rw [List.zipIdx_cons, List.findIdx?_cons]
    cases h : hok c with
    | false =>
      rw [List.filter_cons_of_pos (by simp [h])]
      simp
    | true =>
      rw [List.filter_cons_of_neg (by simp [h]), ih]
      simp only [Bool.not_true]
      rw [if_neg (by simp), Option.map_map]
      congr 1
      funext i
      simp only [Function.comp]
      omega
theorem wrong_none {l : List Nat} (h : l.findIdx? (fun c => !hok c) = none) : wrongL l 0 = [] := by
  have := wrongL_head l 0
  rw [h] at this
  simpa using this
theorem wrong_some {l : List Nat} {i : Nat} (h : l.findIdx? (fun c => !hok c) = some i) : ∃ r, wrongL l 0 = (i : Int) :: r := by
  have := wrongL_head l 0
  rw [h] at this
  cases e : wrongL l 0 with
  | nil => rw [e] at this; simp at this
  | cons a r =>
    rw [e] at this
    simp only [List.head?_cons, Option.map_some, Option.some.injEq, Nat.add_zero] at this
    exact ⟨r, by rw [this]⟩

/-! ### the evens and the odds -/
def evens : List V → List V
  | a :: _ :: r => a :: evens r
  | l => l
def odds : List V → List V
  | _ :: b :: r => b :: odds r
  | _ => []
end BJ

/-! comprehensions that evaluate; calls on values -/
namespace BJ
open PySem PySem.Spec PyProof.Rows L2 Evl
open PySem.W (Frag kitOne kitAny)
section
variable {K : Frag} {σ : L2.St} {H : Hp} {z : V} {tl te : TE} {tt : TT} {wi : TI} {vs : List Nat} {xs : List V}
/-- what is walked over gives xs -/
def EvI (wi : TI) (σ : L2.St) (H : Hp) (xs : List V) : Prop := ∀ H1, Ex H H1 → ∀ R : It → Hp → Prop, (∀ H2 J G, Ex H1 H2 → Walk J xs.length G (YAt xs) → (∀ H3, Ex H2 H3 → G H3) → R J H2) → wi σ H1 R
/-- .. gives pairs -/
def EvP (wi : TI) (σ : L2.St) (H : Hp) (ps : List (V × V)) : Prop := ∀ H1, Ex H H1 → ∀ R : It → Hp → Prop,
  (∀ H2 J G, Ex H1 H2 → Walk J ps.length G (fun i H v H' => ∃ T p, v = .ref T ∧ H T = none ∧ H' = upd H T (.tup [p.1, p.2]) ∧ ps[i]? = some p) → (∀ H3, Ex H2 H3 → G H3) → R J H2) → wi σ H1 R
theorem el_at {j : Nat} (hi : EvI wi σ H xs) (f : V → Bool) (F : V → V) (hn : xs.length ≤ 1000000) (hw : ∀ x, wipe ((wipe σ vs).set j (some x)) vs = wipe σ vs)
    (ht : ∀ x ∈ xs, ∀ H1, Ex H H1 → EvT tt ((wipe σ vs).set j (some x)) H1 (f x)) (he : ∀ x ∈ xs, ∀ H1, Ex H H1 → f x = true → Ev te ((wipe σ vs).set j (some x)) H1 (F x)) :
    EvL (tLc wi (gName j) tt te vs) σ H ((xs.filter f).map F) := fun H1 e Q q => hi H1 e _ fun H2 J G e2 w hG =>
  lc_at w f F hn hG hw (fun x hx => ht x hx H2 (e.trans e2)) (fun x hx hf => he x hx H2 (e.trans e2) hf) fun D H' hD e3 hl => q D H' (fresh_back e2 hD) (e2.trans e3) hl
/-- .. without an if -/
theorem el_all {j : Nat} (hi : EvI wi σ H xs) (F : V → V) (hn : xs.length ≤ 1000000) (hw : ∀ x, wipe ((wipe σ vs).set j (some x)) vs = wipe σ vs)
    (he : ∀ x ∈ xs, ∀ H1, Ex H H1 → Ev te ((wipe σ vs).set j (some x)) H1 (F x)) : EvL (tLc wi (gName j) tYes te vs) σ H (xs.map F) := by
  have h := el_at (tt := tYes) hi (fun _ => true) F hn hw (fun _ _ _ _ => et_yes) (fun x hx H1 e _ => he x hx H1 e)
  rw [List.filter_eq_self.mpr (fun _ _ => rfl)] at h
  exact h
theorem el_pr {j l : Nat} {ps : List (V × V)} (hi : EvP wi σ H ps) (f : V × V → Bool) (F : V × V → V) (hn : ps.length ≤ 1000000) (hw : ∀ x y, wipe (((wipe σ vs).set j (some x)).set l (some y)) vs = wipe σ vs)
    (ht : ∀ p ∈ ps, ∀ H1, Ex H H1 → EvT tt (((wipe σ vs).set j (some p.1)).set l (some p.2)) H1 (f p)) (he : ∀ p ∈ ps, ∀ H1, Ex H H1 → f p = true → Ev te (((wipe σ vs).set j (some p.1)).set l (some p.2)) H1 (F p)) :
    EvL (tLc wi (gTup K 2 (gCons (gName j) (gCons (gName l) gNil))) tt te vs) σ H ((ps.filter f).map F) := fun H1 e Q q => hi H1 e _ fun H2 J G e2 w hG =>
  lc_pr w f F hn hG hw (fun x hx => ht x hx H2 (e.trans e2)) (fun x hx hf => he x hx H2 (e.trans e2) hf) fun D H' hD e3 hl => q D H' (fresh_back e2 hD) (e2.trans e3) hl
theorem ei_tup {p : Addr} (h : Ev tl σ H (.ref p)) (hx : SqT K H p xs) : EvI (iTup K tl) σ H xs := fun H1 e R r => h H1 e _ fun H2 e2 =>
  ⟨p, rfl, ⟨xs, ex_t (e.trans e2) hx⟩, r H2 _ (fun H => SqT K H p xs) e2 walk_tup fun H3 e3 => ex_t ((e.trans e2).trans e3) hx⟩
theorem ei_tupU (h : EvU tl σ H xs) : EvI (iTup K tl) σ H xs := fun H1 e R r => h H1 e _ fun p H2 hp e2 hx =>
  ⟨p, rfl, ⟨xs, st_of hx⟩, r H2 _ (fun H => SqT K H p xs) e2 walk_tup fun H3 e3 => ex_t e3 (st_of hx)⟩
theorem ei_list {p : Addr} (h : Ev tl σ H (.ref p)) (hx : SqL K H p xs) : EvI (iList K tl) σ H xs := fun H1 e R r => h H1 e _ fun H2 e2 =>
  ⟨p, rfl, ⟨xs, ex_l (e.trans e2) hx⟩, r H2 _ (fun H => SqL K H p xs) e2 walk_list fun H3 e3 => ex_l ((e.trans e2).trans e3) hx⟩
theorem ei_str {s : Str} (h : Ev tl σ H (.str s)) : EvI (iStr tl) σ H (s.cps.toList.map fun c => V.str ⟨#[c]⟩) := fun H1 e R r => h H1 e _ fun H2 e2 =>
  ⟨s, rfl, r H2 _ _ e2 walk_strA fun _ _ => trivial⟩
theorem ei_rng3 {ta : TA} {i j c : Int} {n : Nat} (h : EvA ta σ H [.int i, .int j, .int c]) (hr : RgC i j c n) : EvI (iRng3 ta) σ H ((List.range n).map fun k => V.int (i + (k : Nat) * c)) := fun H1 e R r => h H1 e _ fun H2 e2 =>
  ⟨i, j, c, n, rfl, hr, r H2 _ _ e2 walk_rangeCA fun _ _ => trivial⟩
theorem ep_enumS {ta : TA} {s : Str} (h : EvA ta σ H [.str s]) : EvP (iEnumS ta) σ H (enumP s) := fun H1 e R r => h H1 e _ fun H2 e2 =>
  ⟨s, rfl, r H2 _ _ e2 walk_enumSA fun _ _ => trivial⟩
theorem ev_allL {bs : List Bool} (h : EvL tl σ H (bs.map V.bl)) : Ev (tCB (rAll K) (tCons tl tNil)) σ H (.bl (bs.all id)) := fun H1 e Q q => h H1 e _ fun p H2 _ e2 hp => ⟨p, bs, rfl, sq_of hp, q H2 e2⟩
theorem rc_is {x : V} {t n : String} {b : Bool} (h : TyX K H x (.type t)) (k : kitOne K (.type t) (.type n) = some b) : RC (rIsG K) [x, .ty n] H (.bl b) :=
  fun H1 e Q q => ⟨x, _, .type t, .type n, b, rfl, .ty n, .ty (tyx_ex e h), k, q H1 (Ex.refl _)⟩
/-- f(e) where e is a new tuple, a new list -/
theorem ev_caU {sp : Sp} {W : WX} (h : EvU te σ H xs) (hs : ∀ p H1, H1 p = some (.tup xs) → SpE sp [.ref p] H1 z) : Ev (tCa sp W (tCons te tNil)) σ H z := fun H1 e Q q =>
  h H1 e _ fun p H2 _ e2 hp => hs p H2 hp H2 (Ex.refl _) Q _ fun H3 e3 => q H3 (e2.trans e3)
/-- e of a fresh list: the list goes into tuple(..) -/
theorem eu_tupL (h : EvL te σ H xs) : EvU (tCB (fun xs H Q => ∃ p ys, xs = [.ref p] ∧ ((SqL K H p ys ∧ ∀ l, H l = none → Q (.ref l) (upd H l (.tup ys))) ∨ (SqT K H p ys ∧ Q (.ref p) H))) (tCons te tNil)) σ H xs := fun H1 e Q q =>
  h H1 e _ fun p H2 _ e2 hp => ⟨p, xs, rfl, .inl ⟨sq_of hp, fun l hl => q l _ (fresh_back e2 hl) (e2.trans (Ex.new hl)) upd_same⟩⟩
/-- a.join(e) of a new list of texts -/
theorem ev_joinL {a : Str} {ys : List Str} {to : TE} (ho : Ev to σ H (.str a)) (h : EvL te σ H (ys.map V.str)) (hz : (ys.map (·.length)).sum + ys.length * a.length ≤ 16777216) :
    Ev (tM1 (fun x xs H Q => ∃ a p, ∃ ys : List Str, x = .str a ∧ xs = [.ref p] ∧ (SqL K H p (ys.map V.str) ∨ SqT K H p (ys.map V.str)) ∧ (ys.map (·.length)).sum + ys.length * a.length ≤ 16777216 ∧ Q (.str (Txt.join a ys)) H) to te) σ H (.str (Txt.join a ys)) := fun H1 e Q q =>
  ho H1 e _ fun H2 e2 => ⟨⟨a, rfl⟩, h H2 (e.trans e2) _ fun p H3 _ e3 hp => ⟨a, p, ys, rfl, rfl, .inl (sq_of hp), hz, q H3 (e2.trans e3)⟩⟩
end
end BJ

/-! slices with a step that evaluate, zip of new lists; the evens and odds -/
namespace BJ
open PySem PySem.Spec PyProof.Rows L2 Evl
open PySem.W (Frag kitOne kitAny)
section
variable {K : Frag} {σ : L2.St} {H : Hp} {z : V} {tl te : TE} {tt : TT} {wi : TI} {vs : List Nat} {xs ys : List V}
theorem pickV_len (xs : List V) (lo hi st : Option Int) (h0 : st ≠ some 0) : (pickV xs lo hi st).length ≤ xs.length := by
  have h := slicePick_size_le (items := (List.replicate xs.length Value.none).toArray) lo hi st
  have e : ∀ (l : List Nat), (l.filterMap (xs[·]?)).length = (l.filterMap ((List.replicate xs.length Value.none)[·]?)).length := by
    intro l
    induction l with
    | nil => rfl
    | cons i l ih =>
      by_cases hi : i < xs.length
      · rw [List.filterMap_cons_some (List.getElem?_eq_getElem hi), List.filterMap_cons_some (List.getElem?_eq_getElem (by simpa using hi)), List.length_cons, List.length_cons, ih]
      · rw [List.filterMap_cons_none (List.getElem?_eq_none (by omega)), List.filterMap_cons_none (List.getElem?_eq_none (by simp; omega)), ih]
  unfold pickV
  rw [e]
  have h2 : ((sliceRange (sliceBounds lo hi st (List.replicate xs.length Value.none).toArray.size).1 (sliceBounds lo hi st (List.replicate xs.length Value.none).toArray.size).2.1 (sliceBounds lo hi st (List.replicate xs.length Value.none).toArray.size).2.2).filterMap ((List.replicate xs.length Value.none).toArray[·]?)).length ≤ (List.replicate xs.length Value.none).toArray.size := h
  have e2 : (List.replicate xs.length Value.none).toArray.size = xs.length := by simp
  rw [e2] at h2
  refine Nat.le_trans (Nat.le_of_eq ?_) h2
  congr 1
  apply congrArg (fun f => List.filterMap f _)
  funext x
  exact List.getElem?_toArray.symm
theorem el_sl3 {p : Addr} {tl th ts : TO} {lo hi st : Option Int} (h : Ev te σ H (.ref p)) (h1 : EvO tl σ H lo) (h2 : EvO th σ H hi) (h3 : EvO ts σ H st) (hs : SqL K H p xs) (h0 : st ≠ some 0) (hz : xs.length ≤ 1000000) : EvL (tSl3 K te tl th ts) σ H (pickV xs lo hi st) := fun H1 e Q q =>
  h H1 e _ fun H2 e2 => h1 H2 (e.trans e2) _ fun H3 e3 => h2 H3 ((e.trans e2).trans e3) _ fun H4 e4 => h3 H4 (((e.trans e2).trans e3).trans e4) _ fun H5 e5 =>
    ⟨p, xs, rfl, ex_l ((((e.trans e2).trans e3).trans e4).trans e5) hs, h0, (by have := pickV_len xs lo hi st h0; rw [sizeLine_eq]; omega), fun D hD =>
      q D _ (fresh_back (((e2.trans e3).trans e4).trans e5) hD) ((((e2.trans e3).trans e4).trans e5).trans (Ex.new hD)) upd_same⟩
theorem ep_zip {t1 t2 : TE} (h1 : EvL t1 σ H xs) (h2 : EvL t2 σ H ys) : EvP (iZip K (tCons t1 (tCons t2 tNil))) σ H (xs.zip ys) := fun H1 e R r =>
  h1 H1 e _ fun p H2 hp e2 hx => h2 H2 (e.trans e2) _ fun q H3 hq e3 hy =>
    ⟨p, q, xs, ys, rfl, sq_of (e3 p _ hx), sq_of hy, r H3 _ _ (e2.trans e3) walk_zipA fun H4 e4 => ⟨sq_of (e4 p _ (e3 p _ hx)), sq_of (e4 q _ hy)⟩⟩
end
theorem pick_of {xs : List V} (m a : Nat) (h : ∀ k, k < m → a + 2 * k < xs.length) : ((List.range m).map fun k : Nat => a + 2 * k).filterMap (xs[·]?) = (List.range m).map fun k => xs.getD (a + 2 * k) .non := by
  rw [List.filterMap_map]
  have : ∀ l : List Nat, (∀ k ∈ l, k < m) → l.filterMap ((xs[·]?) ∘ fun k => a + 2 * k) = l.map fun k => xs.getD (a + 2 * k) .non := by
    intro l
    induction l with
    | nil => intro _; rfl
    | cons k l ih =>
      intro hk
      have := h k (hk k List.mem_cons_self)
      rw [List.filterMap_cons_some (b := xs[a + 2 * k]) (show ((fun x => xs[x]?) ∘ fun k => a + 2 * k) k = some xs[a + 2 * k] from List.getElem?_eq_getElem this), List.map_cons, ih fun j hj => hk j (List.mem_cons_of_mem _ hj)]
      congr 1
      rw [List.getD, List.getElem?_eq_getElem this]
      rfl
  exact this _ fun k hk => List.mem_range.mp hk
theorem pick_evens {xs : List V} {m : Nat} (h : xs.length = 2 * m) : pickV xs none none (some 2) = (List.range m).map fun k => xs.getD (2 * k) .non := by
  have e : sliceRange (sliceBounds none none (some 2) xs.length).1 (sliceBounds none none (some 2) xs.length).2.1 (sliceBounds none none (some 2) xs.length).2.2 = (List.range m).map fun k : Nat => 0 + 2 * k := by
    show sliceRange 0 (xs.length : Int) 2 = _
    show List.map _ (List.range (Int.toNat _)) = _
    have hc : (if (2 : Int) > 0 then (if (0 : Int) < (xs.length : Int) then ((xs.length : Int) - 0 + 2 - 1) / 2 else 0) else (if (0 : Int) > (xs.length : Int) then (0 - (xs.length : Int) - 2 - 1) / (-2) else 0)).toNat = m := by
      rw [if_pos (by decide)]
      split <;> omega
    refine (congrArg (fun n => List.map _ (List.range n)) hc).trans ?_
    apply List.map_congr_left
    intro k _
    omega
  unfold pickV
  rw [e, pick_of m 0 (fun k hk => by omega)]
  simp only [Nat.zero_add]
theorem pick_odds {xs : List V} {m : Nat} (h : xs.length = 2 * m) : pickV xs (some 1) none (some 2) = (List.range m).map fun k => xs.getD (1 + 2 * k) .non := by
  have e : sliceRange (sliceBounds (some 1) none (some 2) xs.length).1 (sliceBounds (some 1) none (some 2) xs.length).2.1 (sliceBounds (some 1) none (some 2) xs.length).2.2 = (List.range m).map fun k : Nat => 1 + 2 * k := by
    show sliceRange (max 0 (min 1 (xs.length : Int))) (xs.length : Int) 2 = _
    show List.map _ (List.range (Int.toNat _)) = _
    have hc : (if (2 : Int) > 0 then (if (max 0 (min 1 (xs.length : Int))) < (xs.length : Int) then ((xs.length : Int) - (max 0 (min 1 (xs.length : Int))) + 2 - 1) / 2 else 0) else (if (max 0 (min 1 (xs.length : Int))) > (xs.length : Int) then ((max 0 (min 1 (xs.length : Int))) - (xs.length : Int) - 2 - 1) / (-2) else 0)).toNat = m := by
      rw [if_pos (by decide)]
      split <;> omega
    refine (congrArg (fun n => List.map _ (List.range n)) hc).trans ?_
    apply List.map_congr_left
    intro k hk
    have := List.mem_range.mp hk
    omega
  unfold pickV
  rw [e, pick_of m 1 (fun k hk => by omega)]
/-- what sign, what number a value is -/
def sgn : V → Nat | .str z => z.cps.getD 0 0 | _ => 0
def num : V → Int | .int i => i | _ => 0
theorem zip_pairs (l : List Nat) (m : Nat) (h : l.length = 2 * m) :
    (((pickV ((l.map fun c => (hval c : Int)).map V.int) none none (some 2)).zip (pickV ((l.map fun c => (hval c : Int)).map V.int) (some 1) none (some 2))).map fun p => V.int (16 * num p.1 + num p.2)) = (pairs l).map V.int := by
  have hl : ((l.map fun c => (hval c : Int)).map V.int).length = 2 * m := by rw [List.length_map, List.length_map]; exact h
  rw [pick_evens hl, pick_odds hl, List.zip_map', List.map_map, ← pairs_at l m h]
  refine Eq.trans ?_ List.map_map.symm
  apply List.map_congr_left
  intro k hk
  have hk := List.mem_range.mp hk
  have g : ∀ i, i < l.length → ((l.map fun c => (hval c : Int)).map V.int).getD i .non = .int (hval (l.getD i 0)) := fun i hi => by
    rw [List.getD, List.getElem?_map, List.getElem?_map, List.getElem?_eq_getElem hi, List.getD, List.getElem?_eq_getElem hi]
    rfl
  simp only [Function.comp]
  rw [g _ (by omega), g _ (by omega), Nat.add_comm 1]
  rfl
theorem enum_wrong (z : Str) : ((enumP z).filter fun p => !hok (sgn p.2)).map (fun p => p.1) = (wrongL z.cps.toList 0).map V.int := by
  unfold enumP wrongL
  rw [List.filter_map, List.map_map, List.map_map]
  rfl
theorem signs_num (l : List Nat) : ((l.map fun c => V.str ⟨#[c]⟩).map fun v => V.int (hval (sgn v))) = (l.map fun c => (hval c : Int)).map V.int := by
  rw [List.map_map, List.map_map]
  rfl
end BJ

/-! defs called with keywords; loops that evaluate -/
namespace BJ
open PySem PySem.Spec PyProof.Rows L2 Evl
open PySem.W (Frag kitOne kitAny)
/-- positional values, then the keywords' (n and m of them) -/
def gKw (n m : Nat) {α : Type} (us ws : List α) : List α := if us.length = n ∧ ws.length = m then us ++ ws else []
section
variable {P : Program} {w : World} {K : Frag} {mg : Str → Option Value} {base : Heap}
theorem kb_of {x qual : Str} {st : Stmt} {f : Addr} {fd : FuncData} {ps ks : List Str} {n m : Nat} (F : Fun K x qual st f fd) (hne : 0 < ps.length)
    (h : ∀ (kV doc pm : Value) (an : Option Addr) (cdv ct : Value) (us ws : List Value), us.length = n → ws.length = m → bindArgs (PySem.W.fnOf x qual (defArgs st) (defBody st) (defScope st) .none kV doc pm an cdv ct) ⟨us, ks.zip ws⟩ = pure (ps.zip (us ++ ws))) :
    KBinds K fd ps ks (gKw n m) (gKw n m) := by
  obtain ⟨oc, od, kV, doc, pm, an, cdv, ct, osl, rfl, lk, hcd⟩ := F.ex
  refine ⟨fun s us ws _ hl => ?_, fun r rz => ?_⟩
  · by_cases hh : us.length = n ∧ ws.length = m
    · have e : gKw n m us ws = us ++ ws := if_pos hh
      rw [e]
      exact .of_eq (h kV doc pm an cdv ct us ws hh.1 hh.2)
    · have e : gKw n m us ws = [] := if_neg hh
      rw [e] at hl
      simp at hl
      omega
  · unfold gKw
    rw [r.length, rz.length]
    split
    · exact r.append rz
    · exact .nil
theorem fnP {x qual : Str} {st : Stmt} {f : Addr} {k : Nat} {ps : List Str} {sp : Sp} (h : ∃ fd, FnG P w K mg base k f fd ps sp ∧ Binds K fd ps [] ∧ Fun K x qual st f fd) : CallP P w K mg base k (.ref f) sp := by
  obtain ⟨fd, F, hb, _⟩ := h
  have q := F.callP (dvs := []) hb .nil
  rintro A outer s H us ws vs zs Q E room hg e0 rel relz ⟨hz, prom⟩
  exact q A outer s H us ws vs zs Q E room hg e0 rel relz ⟨hz, show sp (vs ++ []) H Q E by rw [List.append_nil]; exact prom⟩
theorem fnK {x qual : Str} {st : Stmt} {f : Addr} {k : Nat} {ps ks : List Str} {sp : Sp} {n m : Nat} (h : ∃ fd, FnG P w K mg base k f fd ps sp ∧ Binds K fd ps [] ∧ Fun K x qual st f fd) (hne : 0 < ps.length)
    (hk : ∀ (kV doc pm : Value) (an : Option Addr) (cdv ct : Value) (us ws : List Value), us.length = n → ws.length = m → bindArgs (PySem.W.fnOf x qual (defArgs st) (defBody st) (defScope st) .none kV doc pm an cdv ct) ⟨us, ks.zip ws⟩ = pure (ps.zip (us ++ ws))) :
    CallG P w K mg base k (.ref f) ks fun vs zs H Q E => sp (gKw n m vs zs) H Q E := by
  obtain ⟨fd, F, _, F2⟩ := h
  exact F.callK (kb_of F2 hne hk)
end
section
variable {K : Frag} {σ : L2.St} {H : Hp} {z : V} {tl te : TE} {tt : TT} {tb : TS} {wi : TI} {vs : List Nat} {xs : List V} {D : Ends}
/-- a for whose turns lay objects and change none; Pr: what stands of the slots -/
theorem s_forE {j : Nat} (Pr : L2.St → Prop) (hi : EvI wi σ H xs) (h0 : Pr σ)
    (hs : ∀ x ∈ xs, ∀ σ' H', Pr σ' → Ex H H' → ∀ N : L2.St → Hp → Prop, (∀ σ2 H2, Pr σ2 → Ex H' H2 → N σ2 H2) → tb { D with nx := N, ct := N, bk := D.nx } (σ'.set j (some x)) H')
    (hd : ∀ σ' H', Pr σ' → Ex H H' → D.nx σ' H') : tFor wi (gName j) tb D σ H :=
  hi H (Ex.refl H) _ fun H2 J G e w hG => for_it w (fun _ σ' H' => Pr σ' ∧ Ex H2 H') ⟨h0, Ex.refl _⟩ (fun i σ' H' _ p => hG H' p.2) (fun i x σ' H3 H4 hi p y => by
    obtain ⟨y1, y2⟩ := y
    subst y1
    exact hs x (List.mem_of_getElem? y2) σ' H4 p.1 (e.trans p.2) _ fun σ2 H2' q1 q2 => ⟨q1, p.2.trans q2⟩) fun σ' H' p => hd σ' H' p.1 (e.trans p.2)
theorem repS_eq {c n : Nat} : (repS c n).cps.toList = List.replicate n c := by simp [repS]
theorem find_rep {c : Nat} (h : hok c = true) : ∀ n, (List.replicate n c).findIdx? (fun c => !hok c) = none := fun n => by
  rw [List.findIdx?_eq_none_iff]
  intro d hd
  rw [(List.mem_replicate.mp hd).2, h]
  rfl
theorem pairs_rep (c : Nat) : ∀ m, pairs (List.replicate (2 * m) c) = List.replicate m (16 * (hval c : Int) + (hval c : Int))
  | 0 => rfl
  | m + 1 => by
    rw [show 2 * (m + 1) = 2 * m + 1 + 1 by omega, List.replicate_succ, List.replicate_succ]
    unfold pairs
    rw [pairs_rep c m, List.replicate_succ]
theorem hexL_rep (i : Int) : ∀ m, hexd (i / 16).toNat = hexd (i % 16).toNat → hexL (List.replicate m i) = List.replicate (2 * m) (hexd (i % 16).toNat)
  | 0, _ => rfl
  | m + 1, h => by
    have ih := hexL_rep i m h
    unfold hexL at ih ⊢
    rw [List.replicate_succ, List.flatMap_cons, ih, show 2 * (m + 1) = 2 * m + 1 + 1 by omega, List.replicate_succ, List.replicate_succ, h]
    rfl
theorem str_ext {x y : Str} (h : x.cps.toList = y.cps.toList) : x = y := by
  cases x with
  | mk a =>
    cases y with
    | mk b =>
      have : a = b := Array.toList_inj.mp h
      rw [this]
theorem hexS_rep (i : Int) (m : Nat) (h : hexd (i / 16).toNat = hexd (i % 16).toNat) : hexS (List.replicate m i) = repS (hexd (i % 16).toNat) (2 * m) := str_ext (by rw [hexS_tl, hexL_rep i m h, repS_eq])
end
end BJ

namespace BJ
open PySem PySem.Spec PyProof.Rows L2 Evl
open PySem.W (Frag kitOne kitAny)
section
variable {X : Cx} {K : Frag}
/-- the same rules where the Frag is named (inside a comprehension) -/
theorem op_eqD' (hK : X.K = K) (hu : X.A.units + 64 < cLine) : OpR X (compareOp .Eq) (rEqD K) := hK ▸ op_eqD hu
theorem op_neD' (hK : X.K = K) (hu : X.A.units + 64 < cLine) : OpR X (compareOp .NotEq) (rNeD K) := hK ▸ op_neD hu
theorem call_isG' (hK : X.K = K) : CallR X (.builtin "isinstance") (rIsG K) := hK ▸ call_isG
theorem call_reprQ' {k : Nat} (hK : X.K = K) (hr : Room k X.A) (hG : X.A.guards = some []) : CallR X (.builtin "repr") (rReprQ K) := hK ▸ call_reprQ hr hG
theorem ix_list' (hK : X.K = K) : IxR X (rIxL K) := hK ▸ ix_list
theorem ix_tup' (hK : X.K = K) : IxR X (rIxT K) := hK ▸ ix_tup
end
theorem dueD_rep {c n m : Nat} (hc : hok c = true) (hn : n = 2 * m) (hm : m ≤ 50000) : dueD (repS c n).cps.toList = dT (List.replicate m (16 * (hval c : Int) + (hval c : Int))) := by
  subst hn
  rw [repS_eq]
  unfold dueD due
  rw [find_rep hc, List.length_replicate]
  simp only
  rw [if_neg (by omega), if_neg (by omega), pairs_rep]
theorem dueD_big {c n : Nat} (hc : hok c = true) (hn : n % 2 = 0) (hm : 100000 < n) : dueD (repS c n).cps.toList = dL [100000] := by
  rw [repS_eq]
  unfold dueD due
  rw [find_rep hc, List.length_replicate]
  simp only
  rw [if_neg (by omega), if_pos hm]
section
variable {K : Frag} {σ : L2.St} {H : Hp} {z : V} {tl te : TE} {tt : TT} {tb tz : TS} {wi : TI} {vs : List Nat} {xs : List V} {D : Ends}
theorem q_forE {j : Nat} (Pr : L2.St → Prop) (hi : EvI wi σ H xs) (h0 : Pr σ)
    (hs : ∀ x ∈ xs, ∀ σ' H', Pr σ' → Ex H H' → ∀ N : L2.St → Hp → Prop, (∀ σ2 H2, Pr σ2 → Ex H' H2 → N σ2 H2) → tb { D with nx := N, ct := N, bk := tz D } (σ'.set j (some x)) H')
    (hd : ∀ σ' H', Pr σ' → Ex H H' → tz D σ' H') : tSeq (tFor wi (gName j) tb) tz D σ H :=
  s_forE (D := { D with nx := tz D }) Pr hi h0 hs hd
theorem rv_mulS {x : Str} {c n : Nat} (hx : x = ⟨#[c]⟩) (h2 : 2 ≤ n) (hn : n ≤ sizeLine) {H : Hp} : RV rMulS (.str x) (.int (n : Int)) H (.str (repS c n)) := fun H1 _ Q q => ⟨c, n, by rw [hx], rfl, h2, hn, q H1 (Ex.refl _)⟩
theorem eu_rep {n : Nat} {v : V} (h : Ev te σ H v) (h2 : 2 ≤ n) (hn : n ≤ 16777216) : EvU (tOp (rRep1 K) (tTup (tCons te tNil)) (tC (.int (n : Int)))) σ H (List.replicate n v) := fun H1 e Q q =>
  h H1 e _ fun H2 e2 => ⟨(by show 1 ≤ sizeLine; decide), fun p hp => ⟨p, n, v, rfl, rfl, st_of upd_same, h2, hn, fun r hr => q r _ (fresh_back (e2.trans (Ex.new hp)) hr) ((e2.trans (Ex.new hp)).trans (Ex.new hr)) upd_same⟩⟩
theorem lc_atA {J : It} {G : Hp → Prop} (w : Walk J xs.length G (YAt xs)) {j : Nat} {H1 : Hp} {Q : Addr → Hp → Prop} (f : V → Bool) (F : V → V) (hn : xs.length ≤ 1000000)
    (hG : ∀ H, Ex H1 H → G H) (hw : ∀ x, wipe ((wipe σ vs).set j (some x)) vs = wipe σ vs)
    (ht : ∀ x ∈ xs, EvT tt ((wipe σ vs).set j (some x)) H1 (f x)) (he : ∀ x ∈ xs, f x = true → Ev te ((wipe σ vs).set j (some x)) H1 (F x))
    (k : ∀ D H', H1 D = none → Ex H1 H' → H' D = some (.lst ((xs.filter f).map F)) → Q D H') :
    ∀ D, H1 D = none → ∃ W : Nat → Nat → Hp → Prop, (∃ m, W 0 m (upd H1 D (.lst []))) ∧ ∀ i m H, W i m H →
      (J.stop i H ∧ Q D H) ∨ (J.go i H ∧ ∃ Nx : Hp → Prop, (∀ H', Nx H' → ∃ m', m' < m ∧ W (i + 1) m' H') ∧ ∀ x H', J.yld i H x H' → gName j x (wipe σ vs) H' fun σ2 H2 => wipe σ2 vs = wipe σ vs ∧ tt σ2 H2 fun b H3 =>
        if b = true then te σ2 H3 fun y H4 => ∃ acc, H4 D = some (.lst acc) ∧ acc.length < sizeLine ∧ Nx (upd H4 D (.lst (acc ++ [y]))) else Nx H3) :=
  lc_at (Q := fun v H => match v with | .ref D => Q D H | _ => False) w f F hn hG hw ht he k
theorem rep_int (n : Nat) (i : Int) : List.replicate n (V.int i) = (List.replicate n i).map V.int := by rw [List.map_replicate]
end
end BJ

/-! own exceptions made with keywords; exceptions as values -/
namespace BJ
open PySem PySem.Spec Builtin Builtin.ObjectAttr
open PySem.W (Looks Frag findIn subIn nsIn typeIn keepIn codeIn hasDictIn clsIn takerIn excInitIn excOver excObj KxsFacts ksFn ksEnv ks_superIn isFn looks_findIn looks_clsIn InstAt kxs_mw)
open HandSPX
section
variable {M : Model} {A : Around} {E : Value → Shared → Prop} {h : Heap} {g : Array GenState} {d : Drawn} {t : Nat} {os : OsState}
variable {nm q : Str} {C N : Addr} {bs bm bmB : List Value} {hdct : Bool} {sn : List Str} {sub : List Value} {ab : Bool} {col : Option Bool} {dd : Option Addr} {k0 k1 k2 k3 k5 : Option Value} {B newId initId : String}
theorem check_new_kw (F : ExcBaseFacts B newId initId bmB) (hT : ∀ X : String, bm.contains (.type X) = bmB.contains (.type X)) {kw : List (Str × Value)} {Q : Unit → Shared → Prop}
    (hC : h.get? C = some (excClassObj nm q C N bs bm hdct sn sub ab col dd k0 k1 k2 k3 k5 newId)) (hq : Q () ⟨h, g, d, t, os⟩) : wpAny M A (checkBuiltinCall newId ⟨[.ref C], kw⟩) Q E ⟨h, g, d, t, os⟩ := by
  have hcont : (Value.ref C :: bm).contains (.type B) = true := by
    rw [List.contains_cons, hT, F.hasB, Bool.or_true]
  have hstar := F.noStar
  simp only [checkBuiltinCall, F.newKind, F.newSplit, F.newRow]
  repeat (first
    | refine wpAny_loadPart_at hC ?_
    | (refine wpAny_isSubtype_exc hC ?_; rw [hcont])
    | refine wpAny_staticBase_exc hC ?_
    | refine wpAny_madeBy_exc hC ?_
    | simp only [bne_self_eq_false, Bool.false_eq_true, if_false]
    | wp_step)
  exact hq
end
section
variable {prog : Program} {w : World} {A : Around} {E : Value → Shared → Prop} {R : Result → Shared → Prop} {h : Heap} {g : Array GenState} {d : Drawn} {t : Nat} {os : OsState}
variable {nm q : Str} {C N : Addr} {bs bm bmB : List Value} {hdct : Bool} {sn : List Str} {sub : List Value} {ab : Bool} {col : Option Bool} {dd : Option Addr} {k0 k1 k2 k3 k5 : Option Value} {B newId initId : String}
theorem new_kw (F : ExcBaseFacts B newId initId bmB) (hT : ∀ X : String, bm.contains (.type X) = bmB.contains (.type X)) {kw : List (Str × Value)}
    (hC : h.get? C = some (excClassObj nm q C N bs bm hdct sn sub ab col dd k0 k1 k2 k3 k5 newId))
    (hq : R (.ok (.ret (.ref (h.objs.size + 1)))) ⟨(h.push { cls := .type "tuple", data := .seq #[] }).push (excO C h.objs.size), g, d, t, os⟩) :
    codeAny (model prog w) A (.builtin newId ⟨[.ref C], kw⟩) R ⟨h, g, d, t, os⟩ := by
  have hends := F.ends
  have hcB : (Value.ref C :: bm).contains (.type B) = true := by
    rw [List.contains_cons, hT, F.hasB, Bool.or_true]
  have hcA : (Value.ref C :: bm).contains (.type "AttributeError") = false := by
    rw [List.contains_cons, hT, F.noAttr]; rfl
  have hcN : (Value.ref C :: bm).contains (.type "NameError") = false := by
    rw [List.contains_cons, hT, F.noName]; rfl
  refine codeAny_builtinAt F.entry ?_
  unfold Builtin.«BaseException.__new__»
  refine wpAt_bind ?_
  show wpAt _ _ _ (stack >>= _) _ _ _
  refine wpAt_bind (wpAt_stack fun p below => wpAt_of_wpAny ?_)
  wp_walk
  refine wpAt_of_wpAny ?_
  rw [F.owner]
  repeat (first
    | with_reducible refine wpAny_madeHere_exc F.canon hC ?_
    | with_reducible refine wpAny_loadPart_at hC ?_
    | (with_reducible refine wpAny_isSubtype_exc hC ?_; first | rw [hcB] | rw [hcA] | rw [hcN])
    | wp_step)
  show R _ _
  rw [Heap.size_push]
  exact hq
theorem type_call_kw (F : ExcBaseFacts B newId initId bmB) (hT : ∀ X : String, bm.contains (.type X) = bmB.contains (.type X)) {kw : List (Str × Value)} {fI : Addr} {Q : Fin → Shared → Prop}
    (hC : h.get? C = some (excClassObj nm q C N bs bm hdct sn sub ab col dd k0 k1 k2 k3 k5 newId))
    (hi : Looks (model prog w) h (typeLookup (.ref C) "__init__") (some (.ref fI))) (hb : ∀ self, Looks (model prog w) h (bindSpecial (.ref fI) self) (.ref fI, [self]))
    (hq : codeAny (model prog w) A (.call (.ref fI) ⟨[.ref (h.objs.size + 1)], kw⟩)
      (fun r s' => match r with | .ok (.ret v) => v = .none ∧ Q (.done (.ret (.ref (h.objs.size + 1)))) s' | .ok _ => False | .error e => E e s')
      ⟨(h.push (PySem.W.kdv_tup [])).push (excO C h.objs.size), g, d, t, os⟩) :
    wpAny (model prog w) A (Builtin.«type.__call__» ⟨[.ref C], kw⟩) Q E ⟨h, g, d, t, os⟩ := by
  repeat (first
    | with_reducible refine wpAny_loadPart_at hC ?_
    | with_reducible refine wpAny_madeBy_exc hC ?_
    | wp_step)
  refine codeAny_call_builtin_code (Code.quiet_builtin _ F.quiet) (check_new_kw F hT hC ?_)
  refine new_kw F hT hC ?_
  show wpAny _ _ _ _ _ _
  have k : ∀ b o, h.get? b = some o → ((h.push (PySem.W.kdv_tup [])).push (excO C h.objs.size)).get? b = some o := fun b o e => Heap.get?_push_of_some _ (Heap.get?_push_of_some _ e)
  have hC₁ := k _ _ hC
  have hget : ((h.push (PySem.W.kdv_tup [])).push (excO C h.objs.size)).get? (h.objs.size + 1) = some (excO C h.objs.size) := by heap_get
  have hcC : (Value.ref C :: bm).contains (.ref C) = true := by simp
  have i1 := hi.keeps k
  have b1 := (hb (.ref (h.objs.size + 1))).keeps k
  unfold isInstance
  repeat (first
    | with_reducible refine wpAny_loadPart_at hget ?_
    | (with_reducible refine wpAny_isSubtype_exc hC₁ ?_; rw [hcC])
    | wp_step)
  show wpAny _ _ (typeLookup (.ref C) _) _ _ _
  refine i1.at ?_
  refine wpAny_holding (wpAny_bind (b1.at ?_))
  refine wpAny_bind (wpAny_call (codeAny_mono hq fun r s' z => ?_))
  rcases r with e | (v | _ | _ | _)
  case error => exact z
  case ok.ret =>
    obtain ⟨rfl, z⟩ := z
    first
      | exact wpAny_pure (wpAny_pure z)
      | (wp_walk; exact z)
  all_goals exact z.elim
theorem check_tc_kw {M : Model} {E : Value → Shared → Prop} {kw : List (Str × Value)} {Q : Unit → Shared → Prop} (hC : h.get? C = some (excClassObj nm q C N bs bm hdct sn sub ab col dd k0 k1 k2 k3 k5 newId))
    (hq : Q () ⟨h, g, d, t, os⟩) : wpAny M A (checkBuiltinCall "type.__call__" ⟨[.ref C], kw⟩) Q E ⟨h, g, d, t, os⟩ := by
  have f3 := tc_sub
  have hTy : (⟨h, g, d, t, os⟩ : Shared).TypeIs (.ref C) "type" := ⟨_, hC, rfl⟩
  simp only [checkBuiltinCall, tc_kind, tc_split]
  repeat (any_goals (first
    | assumption
    | with_reducible refine wpAny_loadPart_at hC ?_
    | with_reducible refine wpAny_onRaise ?_
    | with_reducible refine wpAny_map ?_
    | wp_step))
theorem call_kw (F : ExcBaseFacts B newId initId bmB) (hT : ∀ X : String, bm.contains (.type X) = bmB.contains (.type X)) {kw : List (Str × Value)} {fI : Addr}
    (hC : h.get? C = some (excClassObj nm q C N bs bm hdct sn sub ab col dd k0 k1 k2 k3 k5 newId))
    (hi : Looks (model prog w) h (typeLookup (.ref C) "__init__") (some (.ref fI))) (hb : ∀ self, Looks (model prog w) h (bindSpecial (.ref fI) self) (.ref fI, [self]))
    (hq : codeAny (model prog w) (A.under (.builtin "type.__call__" ⟨[.ref C], kw⟩)) (.call (.ref fI) ⟨[.ref (h.objs.size + 1)], kw⟩) (PySem.W.InitBack (h.objs.size + 1) R)
      ⟨(h.push (PySem.W.kdv_tup [])).push (excO C h.objs.size), g, d, t, os⟩) :
    codeAny (model prog w) A (.call (.ref C) ⟨[], kw⟩) R ⟨h, g, d, t, os⟩ := by
  have f1 := tc_lookup
  have f2 := tc_bind (.ref C)
  have hTy : (⟨h, g, d, t, os⟩ : Shared).TypeIs (.ref C) "type" := ⟨_, hC, rfl⟩
  refine codeAny_of_tree ?_
  show wpAny _ _ (callAny (.ref C) _) _ _ _
  repeat (any_goals (first
    | assumption
    | with_reducible refine wpAny_loadPart_at hC ?_
    | wp_step))
  refine ⟨rfl, ?_⟩
  refine codeAny_call_builtin_at (Code.quiet_builtin _ (by decide +kernel)) entry_typeCall (check_tc_kw hC (type_call_kw F hT hC hi hb ?_))
  refine codeAny_mono hq fun r s' z => ?_
  rcases r with e | (v | _ | _ | _) <;> exact z
end
end BJ
namespace BJ
open PySem PySem.Spec PyProof.Rows L2 Builtin Builtin.ObjectAttr
open PySem.W (Looks Frag findIn subIn nsIn typeIn keepIn codeIn hasDictIn clsIn takerIn excInitIn excOver excObj KxsFacts ksFn ksEnv ks_superIn isFn looks_findIn looks_clsIn InstAt kxs_mw)
/-- how keywords ks bind to the fields (rev: the other way round) -/
def gR (rev : Bool) {α : Type} (ws : List α) : List α := if rev then ws.reverse else ws
theorem vals_rev : ∀ {vs : List V} {us : List Value}, Vals vs us → Vals vs.reverse us.reverse
  | _, _, .nil => .nil
  | _, _, .cons h t => by
    rw [List.reverse_cons, List.reverse_cons]
    exact (vals_rev t).append (.cons h .nil)
theorem gR_vals {rev : Bool} {vs : List V} {us : List Value} (h : Vals vs us) : Vals (gR rev vs) (gR rev us) := by
  cases rev with
  | true => exact vals_rev h
  | false => exact h
theorem gR_len {rev : Bool} {α : Type} (ws : List α) : (gR rev ws).length = ws.length := by cases rev <;> simp [gR]
structure IniKw (K : Frag) (fI : Addr) (fs ks : List Str) (rev : Bool) : Prop where
  len : ks.length = fs.length
  bind : ∀ fd, (∃ oc od osl, K.lookup fI = some ⟨oc, od, .func fd, osl⟩) → ∀ (u : Value) (ws : List Value), ws.length = fs.length → bindArgs fd ⟨[u], ks.zip ws⟩ = pure ((("self" : Str), u) :: fs.zip (gR rev ws))
section
variable {prog : Program} {w : World} {A : Around} {E : Value → Shared → Prop} {R : Result → Shared → Prop} {s : Shared} {K : Frag} {mg : Str → Option Value} {base : Heap}
  {B initId newId : String} {bm : List Value} {C fI cc cda x : Addr} {cn qual t : Str} {fs ks : List Str} {rev : Bool}
theorem err_madeK (T : ErrK prog K mg C fI cc cda B initId newId bm cn fs) (N : IniK K fI cc cda qual t fs) (N2 : IniKw K fI fs ks rev) (M0 : Mod K mg base) {ws : List Value} (hul : ws.length = fs.length)
    (kb : ∀ b o, base.get? b = some o → s.heap.get? b = some o) (hroom : A.depth + 1 < recursionLimit)
    (hq : ∀ h' tk e d, ErrMade s.heap h' e C d (putM fs (fun f => ((fs.zip (gR rev ws)).lookup f).getD .none) fun _ => none) → R (.ok (.ret (.ref e))) { s with heap := h', toks := tk }) :
    codeAny (model prog w) A (.call (.ref C) ⟨[], ks.zip ws⟩) R s := by
  have X : K.In s.heap := M0.kin.keeps kb
  obtain ⟨nm, N', qn, bs, bm', hdct, sn, sub, ab, col, dd, k0, k1, k2, k3, k5, hC, hT⟩ := PySem.W.excInit_of X T.ini
  obtain ⟨oI, hoI, hcI⟩ := err_fn T X
  obtain ⟨hp, g, dr, tk, os⟩ := s
  have old : ∀ b o, hp.get? b = some o → ((hp.push (PySem.W.kdv_tup [])).push (HandSPX.excO C hp.objs.size)).get? b = some o := fun b o e => Heap.get?_push_of_some _ (Heap.get?_push_of_some _ e)
  have hget : ((hp.push (PySem.W.kdv_tup [])).push (HandSPX.excO C hp.objs.size)).get? (hp.objs.size + 1) = some (HandSPX.excO C hp.objs.size) := by heap_get
  have hnx : K.lookup (hp.objs.size + 1) = none := by
    cases e : K.lookup (hp.objs.size + 1) with
    | none => rfl
    | some o => exact absurd (Nat.lt_of_succ_lt (Heap.lt_size (show hp.get? _ = some o from X _ _ e))) (Nat.lt_irrefl _)
  refine call_kw T.fam.FB hT hC (looks_findIn X T.iC) (fun self => PySem.W.exc_bind hoI hcI self) ?_
  refine err_init (x := hp.objs.size + 1) (t0 := hp.objs.size) (us := gR rev ws) (s := ⟨(hp.push (PySem.W.kdv_tup [])).push (HandSPX.excO C hp.objs.size), g, dr, tk, os⟩) T N M0 (by rw [gR_len, hul]) (fun b o e => old b o (kb b o e)) hget hnx ?_
    (fun fd hfd => BindsTo.of_eq (N2.bind fd hfd _ ws hul)) fun h' tk' d t1 k' dz hx n' => ?_
  · show A.depth + 1 < recursionLimit
    exact hroom
  · have dz' : hp.objs.size + 1 + 1 ≤ d := by
      have q := dz
      rw [Heap.size_push, Heap.size_push] at q
      exact q
    exact ⟨rfl, hq h' tk' (hp.objs.size + 1) d ⟨fun b o e => k' b o (Nat.ne_of_lt (Nat.lt_succ_of_lt (Heap.lt_size e))) (old b o e), Nat.le_succ _, ⟨_, hx⟩, Nat.le_trans (Nat.le_trans (Nat.le_succ _) (Nat.le_succ _)) dz', (Nat.ne_of_lt (Nat.lt_of_succ_le dz')).symm, n'⟩⟩
end
section
variable {X : Cx} {C fI cc cda : Addr} {B initId newId : String} {bm : List Value} {cn qual t : Str} {fs ks : List Str} {rev : Bool} {pins : List (Addr × Obj)} {σ : L2.St} {H : Hp} {s : Shared}
/-- a made exception is tracked -/
theorem Inv.made {h' : Heap} {a d : Addr} {tk' : Nat} {vs : List V} {us : List Value} (I : Inv X pins σ H s) (M : ErrMade s.heap h' a C d (putM fs (fun f => ((fs.zip us).lookup f).getD .none) fun _ => none)) (r : Vals vs us) (hvl : vs.length = fs.length) :
    ∃ H2, Inv X pins σ H2 { s with heap := h', toks := tk' } ∧ Evl.Ex H H2 ∧ H a = none ∧ ExcAt H2 a C d (fs.zip vs) := by
  obtain ⟨t0, ha'⟩ := M.obj
  obtain ⟨G', g1, g2⟩ := restrict h' fun b => decide (b ≠ a)
  have gk : ∀ b, b ≠ a → G'.get? b = h'.get? b := fun b hb => g1 b (decide_eq_true hb)
  have ge : G'.get? a = none := g2 a (by simp)
  have gold : ∀ b o, s.heap.get? b = some o → G'.get? b = some o := fun b o q => (gk b (Nat.ne_of_lt (Nat.lt_of_lt_of_le (Heap.lt_size q) M.new))).trans (M.keep b o q)
  have ob : ObjOk X.prog X.w (upd H d (.xd (fs.zip vs))) G' d (.xd (fs.zip vs)) := ⟨_, M.ns.at (fun o q => (gk d M.dne).trans q), relO_putM r hvl⟩
  have J : Inv X pins σ (upd H d (.xd (fs.zip vs))) { s with heap := G', toks := tk' } := I.laid (t' := tk') gold M.dnew ob
  have subs : ∀ b o, G'.get? b = some o → h'.get? b = some o := fun b o q => by
    by_cases hb : b = a
    · rw [hb, ge] at q; cases q
    · exact (gk b hb).symm.trans q
  have ha0 : H a = none := I.hok.fresh M.new
  have hd0 : H d = none := I.hok.fresh M.dnew
  have na : upd H d (.xd (fs.zip vs)) a = none := by rw [upd_ne (Ne.symm M.dne)]; exact ha0
  have J2 : Inv X pins σ (upd (upd H d (.xd (fs.zip vs))) a (ExcK a (.ref C) (some d))) { s with heap := h', toks := tk' } := J.laidN (h' := h') (t' := tk') subs ge na (excK_ok ha' ⟨rfl, rfl⟩ rfl)
  exact ⟨_, J2, (Evl.Ex.new hd0).trans (Evl.Ex.new na), ha0, upd_same, by rw [upd_ne M.dne]; exact upd_same⟩
/-- C(e, ..), the exception as a value -/
def tErrE (C : Addr) (fs : List Str) (ta : TA) : TE := fun σ H Q => ta σ H fun vs H1 => vs.length = fs.length ∧ ∀ a d H2, H1 a = none → Evl.Ex H1 H2 → ExcAt H2 a C d (fs.zip vs) → Q (.ref a) H2
theorem pe_err {e : Expr} {es : List Expr} {ta : TA} {p pos : Pos} (T : ErrK X.prog X.K X.mg C fI cc cda B initId newId bm cn fs) (N : IniK X.K fI cc cda qual t fs) (kC : keepIn X.K (.ref C) = true)
    {k : Nat} (hr : Room k X.A) (ha : PA X (e :: es) ta) (hg : Gl X cn) (hdb : (cn == ("__debug__" : Str)) = false := by decide)
    (he : starEach (e :: es) X.env = (false, eval e X.env) :: starEach es X.env := by rfl) (hpl : (backTo pos (starEach es X.env)).any (·.1) = false := by rfl) :
    PE X (.Call (.Name cn p) (e :: es) [] pos) (tErrE C fs ta) where
  run := by
    intro pins s σ H Q I h
    refine wpAny_Call_Name_kw (ld_glob I hg T.gC ?_ hdb)
    refine PySem.W.callWith_K (h₀ := X.base) I.ok.mod.kin kC (thn (ha.run pos pins s σ H _ I h) ?_) he hpl
    rintro us s1 ⟨vs, H1, I1, r1, hvl, q1⟩
    refine ⟨I1.kIn, ?_⟩
    show wpAny _ _ (call (.ref C) us) _ _ _
    have hul : us.length = fs.length := r1.length.symm.trans hvl
    have hbk := I1.bk
    refine wpAny_call (err_made T N I1.mod hul hbk (by have := hr.dp; omega) fun h' tk' a d M => ?_)
    obtain ⟨H2, J, e2, n2, at2⟩ := Inv.made (tk' := tk') I1 M r1 hvl
    exact ⟨.ref a, H2, J, rfl, q1 a d H2 n2 e2 at2⟩
/-- C(k = e, ..) -/
def tErrKw (C : Addr) (fs : List Str) (rev : Bool) (tk : TA) : TE := fun σ H Q => tk σ H fun zs H1 => zs.length = fs.length ∧ ∀ a d H2, H1 a = none → Evl.Ex H1 H2 → ExcAt H2 a C d (fs.zip (gR rev zs)) → Q (.ref a) H2
theorem pe_errK {kws : List Keyword} {tk : TA} {p pos : Pos} (T : ErrK X.prog X.K X.mg C fI cc cda B initId newId bm cn fs) (N : IniK X.K fI cc cda qual t fs) (N2 : IniKw X.K fI fs ks rev) (kC : keepIn X.K (.ref C) = true)
    {k : Nat} (hr : Room k X.A) (hkw : PK X kws tk) (hg : Gl X cn)
    (hall : (backToKw pos (keywordEach kws X.env)).all (·.1.isSome) = true := by rfl) (hks : (backToKw pos (keywordEach kws X.env)).filterMap (·.1) = ks := by rfl)
    (hdb : (cn == ("__debug__" : Str)) = false := by decide)
    (hpl : ((backTo pos (starEach [] X.env)).any (·.1) || (backToKw pos (keywordEach kws X.env)).any (·.1.isNone)) = false := by rfl) :
    PE X (.Call (.Name cn p) [] kws pos) (tErrKw C fs rev tk) where
  run := by
    intro pins s σ H Q I h
    refine wpAny_Call_Name_kw (ld_glob I hg T.gC ?_ hdb)
    refine PySem.W.callWith_KW0 (h₀ := X.base) I.ok.mod.kin kC hall (thn (hkw.run pos pins s σ H _ I h) ?_) hpl
    rintro ws s2 ⟨zs, H2, I2, rz, hvl, q2⟩
    rw [hks]
    have hul : ws.length = fs.length := rz.length.symm.trans hvl
    refine ⟨I2.kIn, wpAny_call (err_madeK T N N2 I2.mod hul I2.bk (by have := hr.dp; omega) fun h' tk' a d M => ?_)⟩
    obtain ⟨H3, J, e3, n3, at3⟩ := Inv.made (tk' := tk') I2 M (gR_vals rz) (by rw [gR_len, hvl])
    exact ⟨.ref a, H3, J, rfl, q2 a d H3 n3 e3 at3⟩
end
end BJ

/-! data with dicts in it, its repr; list.count(True) -/
namespace BJ
open PySem PySem.Spec PyProof.Rows L2 Evl
open PySem.W (Frag kitOne kitAny)
def keyD : Key → PyData
  | .inl i => .int i
  | .inr x => .str x
mutual
/-- data: atoms, lists, tuples, dicts whose keys are ints or texts -/
inductive Dz (K : Frag) (H : Hp) : V → PyData → Prop
  | non : Dz K H .non .none
  | bl (b : Bool) : Dz K H (.bl b) (.bool b)
  | int (i : Int) : Dz K H (.int i) (.int i)
  | str (x : Str) : Dz K H (.str x) (.str x)
  | lstN {a : Addr} {xs : List V} {ds : List PyData} : SqL K H a xs → sysModules ≠ a → DzAll K H xs ds → Dz K H (.ref a) (.list ds)
  | tup {a : Addr} {xs : List V} {ds : List PyData} : SqT K H a xs → DzAll K H xs ds → Dz K H (.ref a) (.tuple ds)
  | dict {a : Addr} {kvs : List (Key × V)} {ds : List PyData} : H a = some (.dK kvs) → DzAll K H (kvs.map (·.2)) ds → Dz K H (.ref a) (.dict ((kvs.map fun p => keyD p.1).zip ds))
inductive DzAll (K : Frag) (H : Hp) : List V → List PyData → Prop
  | nil : DzAll K H [] []
  | cons {v : V} {vs : List V} {d : PyData} {ds : List PyData} : Dz K H v d → DzAll K H vs ds → DzAll K H (v :: vs) (d :: ds)
end
mutual
theorem dz_ex {K : Frag} {H H' : Hp} (e : Ex H H') : ∀ {x : V} {d : PyData}, Dz K H x d → Dz K H' x d
  | _, _, .non => .non
  | _, _, .bl b => .bl b
  | _, _, .int i => .int i
  | _, _, .str x => .str x
  | _, _, .lstN h1 hs h2 => .lstN (ex_l e h1) hs (dzAll_ex e h2)
  | _, _, .tup h1 h2 => .tup (ex_t e h1) (dzAll_ex e h2)
  | _, _, .dict h1 h2 => .dict (e _ _ h1) (dzAll_ex e h2)
theorem dzAll_ex {K : Frag} {H H' : Hp} (e : Ex H H') : ∀ {xs : List V} {ds : List PyData}, DzAll K H xs ds → DzAll K H' xs ds
  | _, _, .nil => .nil
  | _, _, .cons h1 h2 => .cons (dz_ex e h1) (dzAll_ex e h2)
end
theorem Dz.lst {K : Frag} {H : Hp} {a : Addr} {xs : List V} {ds : List PyData} (h : SqL K H a xs) (hs : sysModules < a) (ha : DzAll K H xs ds) : Dz K H (.ref a) (.list ds) := .lstN h (Nat.ne_of_lt hs) ha
theorem dzAll_len {K : Frag} {H : Hp} : ∀ {xs : List V} {ds : List PyData}, DzAll K H xs ds → xs.length = ds.length
  | _, _, .nil => rfl
  | _, _, .cons _ h => by rw [List.length_cons, List.length_cons, dzAll_len h]
theorem dzAll_rep {K : Frag} {H : Hp} {x : V} {d : PyData} (h : Dz K H x d) : ∀ n, DzAll K H (List.replicate n x) (List.replicate n d)
  | 0 => .nil
  | n + 1 => .cons h (dzAll_rep h n)
theorem dz_ty {K : Frag} {H : Hp} {x : V} {d : PyData} (h : Dz K H x d) : TyX K H x (.type (tyN d)) := by
  cases h with
  | non => exact .base .non
  | bl b => exact .base (.bl b)
  | int i => exact .base (.int i)
  | str x => exact .base (.str x)
  | lstN h _ _ => exact ty_lst h
  | tup h _ => exact ty_tup h
  | dict h _ => exact .base (.dK h)
theorem key_reads {h : Heap} : ∀ {es : List DictEntry} {kvs : List (Key × Value)} {P : Program} {w : World}, Pairs (mixKind P w) es kvs → ReadsAll h (es.map (·.key)) (kvs.map fun p => keyD p.1) [] ∧ es.map (·.val) = kvs.map (·.2)
  | _, _, _, _, .nil => ⟨.nil, rfl⟩
  | _, _, _, _, .cons (e := e) (kv := kv) h1 h2 h3 => by
    obtain ⟨ih1, ih2⟩ := key_reads (h := h) h3
    refine ⟨?_, by rw [List.map_cons, List.map_cons, ih2, h2]⟩
    rw [List.map_cons, List.map_cons]
    obtain ⟨k, v⟩ := kv
    have rd : Reads h e.key (keyD k) [] := by
      rcases keyIs_shape h1 with ⟨i, t, rfl, h⟩ | ⟨x, t, rfl, h⟩
      · rw [h]; exact .int i t
      · rw [h]; exact .str x t
    exact .cons (as := []) (bs := []) rd ih1
section
variable {X : Cx} {pins : List (Addr × Obj)} {σ : L2.St} {H : Hp} {s : Shared}
theorem kv_of {kvs : List (Key × V)} {vs : List (Key × Value)} (h : KV kvs vs) : kvs.map (·.1) = vs.map (·.1) ∧ Vals (kvs.map (·.2)) (vs.map (·.2)) := by
  induction h with
  | nil => exact ⟨rfl, .nil⟩
  | cons h t ih => exact ⟨by rw [List.map_cons, List.map_cons, ih.1, h.1], .cons h.2 ih.2⟩
theorem dz_go {ds : List PyData} (ih : ∀ d ∈ ds, ∀ (v : V) (u : Value), Dz X.K H v d → RelV v u → ∃ as, Reads s.heap u d as ∧ sysModules ∉ as) :
    ∀ (es : List PyData) (ws : List V) (us : List Value), (∀ d ∈ es, d ∈ ds) → DzAll X.K H ws es → Vals ws us → ∃ bs, ReadsAll s.heap us es bs ∧ sysModules ∉ bs
  | [], _, _, _, h, r => by
    cases h
    cases r
    exact ⟨_, .nil, by simp⟩
  | d :: es, _, _, hm, h, r => by
    cases h with
    | cons h1 h2 =>
      cases r with
      | cons r1 r2 =>
        obtain ⟨as, q1, n1⟩ := ih d (hm d List.mem_cons_self) _ _ h1 r1
        obtain ⟨bs, q2, n2⟩ := dz_go ih es _ _ (fun d hd => hm d (List.mem_cons_of_mem _ hd)) h2 r2
        exact ⟨_, .cons q1 q2, fun z => (List.mem_append.mp z).elim n1 n2⟩
theorem dz_reads_n (I : Inv X pins σ H s) : ∀ (n : Nat) (d : PyData), sizeOf d ≤ n → ∀ (v : V) (u : Value), Dz X.K H v d → RelV v u → ∃ as, Reads s.heap u d as ∧ sysModules ∉ as := by
  intro n
  induction n with
  | zero =>
    intro d h
    cases d <;> simp at h
  | succ n ihn =>
    intro d hn v u h r
    cases h with
    | non =>
      cases r
      exact ⟨_, Reads.none, by simp⟩
    | bl b =>
      cases r
      exact ⟨_, Reads.bool b, by simp⟩
    | int i =>
      obtain ⟨t, rfl⟩ := r
      exact ⟨_, Reads.int i t, by simp⟩
    | str x =>
      obtain ⟨t, rfl⟩ := r
      exact ⟨_, Reads.str x t, by simp⟩
    | @lstN a xs ds hq hs ha =>
      cases r
      obtain ⟨its, rv, ⟨o, n, ho, hc, _, hd⟩, _⟩ := I.list hq
      obtain ⟨as, hr, hno⟩ := dz_go (fun d hd => ihn d (by have := List.sizeOf_lt_of_mem hd; simp at hn; omega)) ds _ its (fun _ h => h) ha rv
      refine ⟨_, Reads.list ho hc hd hr, fun hm => ?_⟩
      rcases List.mem_cons.mp hm with e | hm
      · exact absurd e hs
      · exact hno hm
    | @tup a xs ds hq ha =>
      cases r
      obtain ⟨its, rv, ⟨o, ho, hc, n, hd⟩, _⟩ := I.tuple hq
      obtain ⟨as, hr, hno⟩ := dz_go (fun d hd => ihn d (by have := List.sizeOf_lt_of_mem hd; simp at hn; omega)) ds _ its (fun _ h => h) ha rv
      exact ⟨_, Reads.tuple ho hc hd hr, hno⟩
    | @dict a kvs ds hq ha =>
      cases r
      obtain ⟨_, hsys, vs, hkv, o, es, ep, h1, h2, h3, _, h5, _⟩ := (show ObjOk X.prog X.w H s.heap a (.dK kvs) from I.hok a _ hq)
      obtain ⟨k1, k2⟩ := kv_of hkv
      obtain ⟨r1, r2⟩ := key_reads (h := s.heap) h5
      have hl : kvs.length = ds.length := by rw [← dzAll_len ha, List.length_map]
      have e1 : (((kvs.map fun p => keyD p.1).zip ds).map (·.1)) = vs.map fun p => keyD p.1 := by
        rw [List.map_fst_zip (by rw [List.length_map]; omega)]
        have := congrArg (List.map keyD) k1
        rw [List.map_map, List.map_map] at this
        exact this
      have e2 : (((kvs.map fun p => keyD p.1).zip ds).map (·.2)) = ds := List.map_snd_zip (by rw [List.length_map]; omega)
      have hsz : ∀ d ∈ ds, sizeOf d ≤ n := fun d hd => by
        have m1 : d ∈ ((kvs.map fun p => keyD p.1).zip ds).map (·.2) := by rw [e2]; exact hd
        obtain ⟨p, hp, rfl⟩ := List.mem_map.mp m1
        have := List.sizeOf_lt_of_mem hp
        obtain ⟨p1, p2⟩ := p
        simp only [PyData.dict.sizeOf_spec, Prod.mk.sizeOf_spec] at this hn
        show sizeOf p2 ≤ n
        omega
      obtain ⟨bs, q2, n2⟩ := dz_go (fun d hd => ihn d (hsz d hd)) ds _ _ (fun _ h => h) ha k2
      refine ⟨_, Reads.dict (as := []) (bs := bs) h1 h2.1 h3 (by rw [e1]; exact r1) (by rw [e2, r2]; exact q2), fun hm => ?_⟩
      rcases List.mem_cons.mp hm with e | hm
      · rw [← e] at hsys
        simp at hsys
      · exact n2 (by simpa using hm)
theorem dz_reads (I : Inv X pins σ H s) (d : PyData) (v : V) (u : Value) (h : Dz X.K H v d) (r : RelV v u) : ∃ as, Reads s.heap u d as ∧ sysModules ∉ as := dz_reads_n I _ d (Nat.le_refl _) v u h r
end
/-- what repr asks of data, dicts among it -/
structure ShowsZ (d : PyData) : Prop where
  s : d.showable = true
  p : d.depth ≤ 40
  z : d.shown.length ≤ sizeLine
section
variable {X : Cx} {K : Frag}
def rReprZ (K : Frag) : List V → Hp → VK → Prop := fun xs H Q => ∃ (x : V) (d : PyData), xs = [x] ∧ Dz K H x d ∧ ShowsZ d ∧ Q (.str d.shown) H
theorem call_reprZ {k : Nat} (hK : X.K = K) (hr : Room k X.A) (hG : X.A.guards = some []) : CallR X (.builtin "repr") (rReprZ K) := by
  subst hK
  rintro pins s σ H xs us Q I r ⟨x, d, rfl, hd, sh, q⟩
  obtain ⟨u, rfl, r1⟩ := vals1 r
  obtain ⟨as, hrd, hn⟩ := dz_reads I d x u hd r1
  have fin : ∀ (h' : Heap) (t : Tok) (tk : Nat), (∀ b o, s.heap.get? b = some o → h'.get? b = some o) → EP X pins σ Q (.str d.shown t) { s with heap := h', toks := tk } := fun h' t tk kk => ⟨.str d.shown, H, I.kept (t' := tk) kk, ⟨t, rfl⟩, q⟩
  have hsz := sh.z
  have hdep := sh.p
  cases hrd with
  | none => exact PySem.P.repr_of_none (by simpa [PyData.shown] using fin s.heap _ _ fun _ _ e => e)
  | bool b => exact PySem.P.repr_of_bool (by cases b <;> simpa [PyData.shown] using fin s.heap _ _ fun _ _ e => e)
  | int i t => exact PySem.P.repr_of_int (by simpa [PyData.showable] using sh.s) (by simpa [PyData.shown] using fin s.heap _ _ fun _ _ e => e)
  | str y t => exact PySem.P.repr_of_str (by simpa [PyData.shown] using fin s.heap _ _ fun _ _ e => e) (by simpa [PyData.shown] using hsz)
  | list h1 h2 h3 h4 => exact repr_of_reads' (.list h1 h2 h3 h4) sh.s (fun _ => hn) hG (by have := hr.un; omega) (fun _ _ e => e) (fun h' t tk kk => fin h' t tk kk) hsz
  | tuple h1 h2 h3 h4 => exact repr_of_reads' (.tuple h1 h2 h3 h4) sh.s (fun _ => hn) hG (by have := hr.un; omega) (fun _ _ e => e) (fun h' t tk kk => fin h' t tk kk) hsz
  | dict h1 h2 h3 h4 h5 => exact repr_of_reads' (.dict h1 h2 h3 h4 h5) sh.s (fun _ => hn) hG (by have := hr.un; omega) (fun _ _ e => e) (fun h' t tk kk => fin h' t tk kk) hsz

/-! ### bs.count(b), a list of bools -/
def eqb (k : Bool) (v : Value) : Bool := match v with
  | .bool n => n == k
  | _ => false
theorem bools_of_vals : ∀ {bs : List Bool} {us : List Value}, Vals (bs.map V.bl) us → us = bs.map Value.bool
  | [], _, h => by cases h; rfl
  | b :: bs, _, .cons h t => by
    cases (show _ = Value.bool b from h)
    rw [bools_of_vals t]
    rfl
theorem eqb_count (k : Bool) : ∀ bs : List Bool, (bs.map Value.bool).countP (eqb k) = bs.count k
  | [] => rfl
  | b :: bs => by
    rw [List.map_cons, List.countP_cons, List.count_cons, eqb_count k bs]
    rfl
def rCntB (K : Frag) : V → List V → Hp → VK → Prop := fun x xs H Q => ∃ (p : Addr) (bs : List Bool) (k : Bool), x = .ref p ∧ xs = [.bl k] ∧ SqL K H p (bs.map V.bl) ∧ Q (.int (bs.count k : Nat)) H
theorem mt_bcount : MtR X "list.count" (rCntB X.K) := by
  intro pins s σ H x xs v us Q I rx rxs h
  obtain ⟨p, bs, k, rfl, rfl, hs, q⟩ := h
  cases rx
  obtain ⟨u, rfl, ru⟩ := rxs.one
  cases (show u = Value.bool k from ru)
  obtain ⟨its, rv, ⟨⟨cls, dd, data, sl⟩, n, ho, hc, hdn, hd⟩, hlen⟩ := I.list hs
  simp only at hc hd
  subst hc hd
  have hi := bools_of_vals rv
  subst hi
  refine call_meets PySem.F.slot_list_count ⟨_, ho, rfl⟩ PySem.F.entry_list_count (PySem.F.args_list_count_2 _ _)
    (SeqAt.list_countAt p (bs.map Value.bool).toArray n dd sl (.bool k) (eqb k)) ⟨ho, fun y hy => ?_, ?_⟩
  · have hy' : y ∈ bs.map Value.bool := by simpa using hy
    obtain ⟨b, _, rfl⟩ := List.mem_map.mp hy'
    exact SeqAt.EqAt.bool_bool b k
  · refine ⟨.int (bs.count k : Nat), H, I.tok _, ⟨s.toks, ?_⟩, q⟩
    show Value.int (((bs.map Value.bool).toArray.toList.countP (eqb k) : Nat) : Int) s.toks = Value.int ((bs.count k : Nat) : Int) s.toks
    rw [show (bs.map Value.bool).toArray.toList = bs.map Value.bool from rfl, eqb_count]
end
end BJ

/-! lists of exceptions -/
namespace BJ
open PySem PySem.Spec PyProof.Rows L2 Evl
open PySem.W (Frag kitOne kitAny)
theorem excAt_ex {H H' : Hp} (e : Ex H H') {a C d : Addr} {fs : List (Str × V)} (h : ExcAt H a C d fs) : ExcAt H' a C d fs := ⟨e _ _ h.1, e _ _ h.2⟩
/-- the values vs are exceptions of the classes cs, their fields in turn the values ws -/
inductive EL (H : Hp) (ws : List V) : List (Addr × List Str) → List V → Prop
  | nil : EL H ws [] []
  | cons {C : Addr} {fs : List Str} {cs : List (Addr × List Str)} {e d : Addr} {vs : List V} : ExcAt H e C d (fs.zip ws) → EL H ws cs vs → EL H ws ((C, fs) :: cs) (.ref e :: vs)
theorem EL.mono {H H' : Hp} {ws : List V} (x : Ex H H') {cs : List (Addr × List Str)} {vs : List V} (h : EL H ws cs vs) : EL H' ws cs vs := by
  induction h with
  | nil => exact .nil
  | cons h t ih => exact .cons (excAt_ex x h) ih
theorem EL.append {H : Hp} {ws : List V} {cs cs' : List (Addr × List Str)} {vs vs' : List V} (h : EL H ws cs vs) (h' : EL H ws cs' vs') : EL H ws (cs ++ cs') (vs ++ vs') := by
  induction h with
  | nil => exact h'
  | cons h t ih => exact .cons h ih
theorem EL.length {H : Hp} {ws : List V} {cs : List (Addr × List Str)} {vs : List V} (h : EL H ws cs vs) : vs.length = cs.length := by
  induction h with
  | nil => rfl
  | cons h t ih => rw [List.length_cons, List.length_cons, ih]
theorem EL.get {H : Hp} {ws : List V} {cs : List (Addr × List Str)} {vs : List V} (h : EL H ws cs vs) : ∀ (i : Nat) (C : Addr) (fs : List Str), cs[i]? = some (C, fs) → ∃ e d, vs[i]? = some (.ref e) ∧ ExcAt H e C d (fs.zip ws) := by
  induction h with
  | nil => intro i C fs h; simp at h
  | cons h t ih =>
    intro i C fs hi
    cases i with
    | zero =>
      simp at hi
      obtain ⟨rfl, rfl⟩ := hi
      exact ⟨_, _, rfl, h⟩
    | succ i =>
      simp only [List.getElem?_cons_succ] at hi
      exact ih i C fs hi
section
variable {K : Frag} {σ : L2.St} {H : Hp} {te : TE} {ta tr : TA} {ws : List V} {cs cs' : List (Addr × List Str)}
def EvAE (ta : TA) (σ : L2.St) (H : Hp) (ws : List V) (cs : List (Addr × List Str)) : Prop := ∀ H1, Ex H H1 → ∀ Q : List V → Hp → Prop, (∀ vs H2, Ex H1 H2 → EL H2 ws cs vs → Q vs H2) → ta σ H1 Q
def EvLE (te : TE) (σ : L2.St) (H : Hp) (ws : List V) (cs : List (Addr × List Str)) : Prop := ∀ H1, Ex H H1 → ∀ Q : VK, (∀ p vs H2, Ex H1 H2 → H2 p = some (.lst vs) → EL H2 ws cs vs → Q (.ref p) H2) → te σ H1 Q
theorem eae_nil : EvAE tNil σ H ws [] := fun H1 _ _ q => q [] H1 (Ex.refl _) .nil
/-- C(x, ..), then the rest: the values given are the first of ws -/
theorem eae_cons {C : Addr} {fs : List Str} {zs : List V} (h : EvA ta σ H zs) (hl : zs.length = fs.length) (hz : fs.zip zs = fs.zip ws) (hr : EvAE tr σ H ws cs) : EvAE (tCons (tErrE C fs ta) tr) σ H ws ((C, fs) :: cs) := fun H1 e Q q =>
  h H1 e _ fun H2 e2 => ⟨hl, fun a d H3 ha e3 hat => hr H3 ((e.trans e2).trans e3) _ fun vs H4 e4 el => q _ H4 ((e2.trans e3).trans e4) (.cons (excAt_ex e4 (hz ▸ hat)) el)⟩
theorem ele_lst (h : EvAE ta σ H ws cs) (hl : cs.length ≤ 100000) : EvLE (tLst ta) σ H ws cs := fun H1 e Q q =>
  h H1 e _ fun vs H2 e2 el => ⟨sz_of (by rw [el.length]; exact hl), fun p hp => q p vs _ (e2.trans (Ex.new hp)) upd_same (el.mono (Ex.new hp))⟩
theorem ele_cat {t1 t2 : TE} (h1 : EvLE t1 σ H ws cs) (h2 : EvLE t2 σ H ws cs') (hl : cs.length + cs'.length ≤ 100000) : EvLE (tOp (rCatS K) t1 t2) σ H ws (cs ++ cs') := fun H1 e Q q =>
  h1 H1 e _ fun p vs H2 e2 hp el => h2 H2 (e.trans e2) _ fun p' vs' H3 e3 hp' el' => ⟨p, p', vs, vs', rfl, rfl, .inl (.inl (e3 _ _ hp)), .inl (.inl hp'), sz_of (by rw [el.length, el'.length]; exact hl), fun l hl' =>
    q l _ _ ((e2.trans e3).trans (Ex.new hl')) upd_same (((el.mono e3).append el').mono (Ex.new hl'))⟩
theorem ele_var {i : Nat} {p : Addr} {vs : List V} (h : σ[i]? = some (some (.ref p))) (hp : H p = some (.lst vs)) (el : EL H ws cs vs) : EvLE (tVar i) σ H ws cs := fun H1 e Q q => ⟨_, h, q p vs H1 (Ex.refl _) (e _ _ hp) (el.mono e)⟩
/-- list + list that evaluate -/
theorem el_cat {t1 t2 : TE} {xs ys : List V} (h1 : EvL t1 σ H xs) (h2 : EvL t2 σ H ys) (hl : xs.length + ys.length ≤ 100000) : EvL (tOp (rCatS K) t1 t2) σ H (xs ++ ys) := fun H1 e Q q =>
  h1 H1 e _ fun p H2 n2 e2 hp => h2 H2 (e.trans e2) _ fun p' H3 n3 e3 hp' => ⟨p, p', xs, ys, rfl, rfl, .inl (.inl (e3 _ _ hp)), .inl (.inl hp'), sz_of hl, fun l hl' => q l _ (fresh_back (e2.trans e3) hl') ((e2.trans e3).trans (Ex.new hl')) upd_same⟩
/-- a variable that holds a list, as the first of a sum -/
theorem el_catV {t2 : TE} {i : Nat} {p : Addr} {xs ys : List V} (h : σ[i]? = some (some (.ref p))) (hp : H p = some (.lst xs)) (h2 : EvL t2 σ H ys) (hl : xs.length + ys.length ≤ 100000) : EvL (tOp (rCatS K) (tVar i) t2) σ H (xs ++ ys) := fun H1 e Q q =>
  ⟨_, h, h2 H1 e _ fun p' H3 n3 e3 hp' => ⟨p, p', xs, ys, rfl, rfl, .inl (.inl (e3 _ _ (e _ _ hp))), .inl (.inl hp'), sz_of hl, fun l hl' => q l _ (fresh_back e3 hl') (e3.trans (Ex.new hl')) upd_same⟩⟩
/-- isinstance(e, C) of a held exception -/
theorem rc_isE {e C D d : Addr} {fs : List (Str × V)} {b : Bool} (h : ExcAt H e C d fs) (R : ErrR K C) (k : kitOne K (.ref C) (.ref D) = some b) : RC (rIsG K) [.ref e, .ref D] H (.bl b) :=
  fun H1 x Q q => ⟨_, _, .ref C, .ref D, b, rfl, .own D, .exc (excAt_ex x h) R, k, q H1 (Ex.refl _)⟩
theorem rc_isEt {e C d : Addr} {n : String} {fs : List (Str × V)} {b : Bool} (h : ExcAt H e C d fs) (R : ErrR K C) (k : kitOne K (.ref C) (.type n) = some b) : RC (rIsG K) [.ref e, .ty n] H (.bl b) :=
  fun H1 x Q q => ⟨_, _, .ref C, .type n, b, rfl, .ty n, .exc (excAt_ex x h) R, k, q H1 (Ex.refl _)⟩
/-- e.f -/
theorem ev_exf {e C d : Addr} {f : Str} {fs : List (Str × V)} {v : V} (he : Ev te σ H (.ref e)) (h : ExcAt H e C d fs) (R : ErrR K C) (nf : PySem.W.findIn K (.ref C) f = some none) (hl : fs.lookup f = some v) : Ev (tExf K te f) σ H v := fun H1 x Q q =>
  he H1 x _ fun H2 x2 => ⟨e, C, d, fs, v, rfl, excAt_ex (x.trans x2) h, R, nf, hl, q H2 x2⟩
end
end BJ

/-! new lists of which it is known that they are not the modules' dict -/
namespace BJ
open PySem PySem.Spec PyProof.Rows L2 Evl
open PySem.W (Frag kitOne kitAny)
section
variable {X : Cx}
/-- list + list -/
def rCatN (K : Frag) : R2 := fun x y H Q => ∃ l b xs zs, x = .ref l ∧ y = .ref b ∧ Scr K H l xs ∧ Scr K H b zs ∧ xs.length + zs.length ≤ sizeLine ∧ ∀ p, H p = none → sysModules < p → Q (.ref p) (upd H p (.lst (xs ++ zs)))
theorem op_catN : OpR X (binaryOp .Add) (rCatN X.K) := by
  rintro pins s σ H x y v u Q I rx ry ⟨l, b, xs, zs, rfl, rfl, hH, hB, hz, q⟩
  cases rx
  cases ry
  obtain ⟨its, n, r, e, hl⟩ := hH.at I
  obtain ⟨its2, n2, r2, e2, hl2⟩ := hB.at I
  have q1 := r.length
  have q2 := r2.length
  refine PySem.P.add_list e e2 ?_ (by rw [List.size_toArray, List.size_toArray]; omega)
  rw [show its.toArray ++ its2.toArray = (its ++ its2).toArray from by simp]
  exact ⟨.ref _, _, I.lnew (t' := s.toks) (r.append r2) (by rw [List.length_append]; omega), rfl, q _ I.fresh I.big⟩
/-- [..] -/
def tLstN (t : TA) : TE := fun σ H Q => t σ H fun xs H1 => xs.length ≤ sizeLine ∧ ∀ p, H1 p = none → sysModules < p → Q (.ref p) (upd H1 p (.lst xs))
theorem pe_lstN {es : List Expr} {t : TA} {pos : Pos} (h : PA X es t) : PE X (.List es pos) (tLstN t) where
  run := by
    intro pins s σ H Q I hq
    refine wpAny_List_spliced (thn (h.run pos pins s σ H _ I hq) ?_)
    rintro us s1 ⟨xs, H1, I1, r, z, q⟩
    refine ⟨by rw [← r.length]; exact z, ?_⟩
    refine ⟨.ref s1.heap.objs.size, upd H1 s1.heap.objs.size (.lst xs), I1.laid (t' := s1.toks) (fun b u e => Heap.get?_push_of_some _ e) (Nat.le_refl _) ?_, rfl, q _ (I1.hok.fresh (Nat.le_refl _)) I1.big⟩
    exact ⟨z, us, 0, r, Heap.get?_push_size _ rfl⟩
/-- [x] * n -/
def rRepN : R2 := fun x y H Q => ∃ (l : Addr) (n : Nat) (v : V), x = .ref l ∧ y = .int (n : Int) ∧ H l = some (.lst [v]) ∧ n ≤ 1000000 ∧ ∀ p, H p = none → sysModules < p → Q (.ref p) (upd H p (.lst (List.replicate n v)))
theorem op_repN : OpR X (binaryOp .Mult) rRepN := by
  rintro pins s σ H x y v u Q I rx ry ⟨l, m, w, rfl, rfl, hH, hm, q⟩
  cases rx
  obtain ⟨t, rfl⟩ := ry
  obtain ⟨z, its, n, r, hl, e⟩ := I.lstM hH
  have h1 : (1 : Nat) = its.length := hl
  obtain ⟨k, hk⟩ : ∃ k : Int, k = (m : Int) := ⟨_, rfl⟩
  have hkm : k.toNat = m := by omega
  rw [← hk]
  have hms : its.toArray.size * k.toNat ≤ sizeLine := by
    rw [List.size_toArray, ← h1, hkm, sizeLine_eq]
    omega
  have c1 : ¬ (!Builtin.List.listFitsIndex k) = true := by
    rw [fitsIndex_both (by omega) (by omega)]
    exact Bool.false_ne_true
  have c2 : ¬ its.toArray.size * k.toNat > (2 ^ 63 - 1) / 8 := by
    rw [List.size_toArray, ← h1, hkm]
    omega
  have c3 : ¬ Builtin.List.listTooLong (its.toArray.size * k.toNat) = true := by
    rw [notLongL hms]
    exact Bool.false_ne_true
  have ez : List.foldl (fun x1 x2 => x1 ++ x2) #[] (List.replicate (if its.toArray.isEmpty = true then 0 else k.toNat) its.toArray) = (List.replicate m its).flatten.toArray := by
    cases its with
    | nil => simp at h1
    | cons a r' => rw [if_neg (by simp), size_rep, hkm]
  refine wpAny_binaryOp_repeat_ref (T := "list") (U := "int") (by decide) ⟨_, e, rfl⟩ (fun s' => typeIs_int s' k t) noFill_list_mul F.fills_int_mul F.slot_int_rmul repeat_list F.slot_int_index.lookup
    (call_meets F.slot_int_rmul (typeIs_int s k t) F.entry_int_rmul (F.args_int_rmul_2 _ _)
      (int___rmul___int_list k t l its.toArray n) ⟨e, rfl, ⟨_, e, rfl⟩, call_meets F.slot_list_mul ⟨_, e, rfl⟩ F.entry_list_mul (F.args_list_mul_2 _ _)
        (AutoListH.list___mul___list_int_3 l its.toArray n k t c1 c2 c3) ⟨e, ?_⟩⟩)
  rw [ez]
  have rr : Vals (List.replicate m w) (List.replicate m its).flatten := by
    cases r with
    | cons rw' rn =>
      cases rn
      rw [flat1]
      exact vals_rep rw' m
  exact ⟨.ref _, _, I.lnew (t' := s.toks) rr (by rw [List.length_replicate]; rw [List.size_toArray, ← h1, hkm] at hms; omega), rfl, q _ I.fresh I.big⟩
end
section
variable {K : Frag} {σ : L2.St} {H : Hp} {te : TE}
def EvLN (te : TE) (σ : L2.St) (H : Hp) (xs : List V) : Prop := ∀ H1, Ex H H1 → ∀ Q : VK, (∀ p H2, H1 p = none → sysModules < p → Ex H1 H2 → H2 p = some (.lst xs) → Q (.ref p) H2) → te σ H1 Q
theorem eln_catV {t2 : TE} {i : Nat} {p : Addr} {xs ys : List V} (h : σ[i]? = some (some (.ref p))) (hp : H p = some (.lst xs)) (h2 : EvL t2 σ H ys) (hl : xs.length + ys.length ≤ 100000) : EvLN (tOp (rCatN K) (tVar i) t2) σ H (xs ++ ys) := fun H1 e Q q =>
  ⟨_, h, h2 H1 e _ fun p' H3 n3 e3 hp' => ⟨p, p', xs, ys, rfl, rfl, .inl (.inl (e3 _ _ (e _ _ hp))), .inl (.inl hp'), sz_of hl, fun l hl' hs => q l _ (fresh_back e3 hl') hs (e3.trans (Ex.new hl')) upd_same⟩⟩
theorem EvLN.l {xs : List V} (h : EvLN te σ H xs) : EvL te σ H xs := fun H1 e Q q => h H1 e Q fun p H2 n _ e2 hp => q p H2 n e2 hp
/-- [x] * n -/
theorem eln_rep {n : Nat} {v : V} (h : Ev te σ H v) (hn : n ≤ 1000000) : EvLN (tOp rRepN (tLst (tCons te tNil)) (tC (.int (n : Int)))) σ H (List.replicate n v) := fun H1 e Q q =>
  h H1 e _ fun H2 e2 => ⟨(by show 1 ≤ sizeLine; decide), fun p hp => ⟨p, n, v, rfl, rfl, upd_same, hn, fun r hr hs => q r _ (fresh_back (e2.trans (Ex.new hp)) hr) hs ((e2.trans (Ex.new hp)).trans (Ex.new hr)) upd_same⟩⟩
end
end BJ

/-! the law's call where the text makes lambdas: the tables of the code objects are tracked from the start -/
namespace BJ
open PySem PySem.Spec PyProof.Rows L2 LamX
open PySem.W (Frag)
/-- the tables, and the script unless it is written -/
def hpT (K : Frag) (T : List Addr) (a : Addr) (u : HO) : Hp := fun b => if b ∈ T then some (.tbl #[]) else if K.lookup a = none ∧ b = a then some u else none
theorem hpT_in {K : Frag} {T : List Addr} {a b : Addr} {u : HO} (h : b ∈ T) : hpT K T a u b = some (.tbl #[]) := if_pos h
theorem hpT_a {K : Frag} {T : List Addr} {a : Addr} {u : HO} (h : a ∉ T) (hk : K.lookup a = none) : hpT K T a u a = some u := (if_neg h).trans (if_pos ⟨hk, rfl⟩)
theorem hpT_some {K : Frag} {T : List Addr} {a b : Addr} {u v : HO} (h : hpT K T a u b = some v) : (b ∈ T ∧ v = .tbl #[]) ∨ (b ∉ T ∧ K.lookup a = none ∧ b = a ∧ v = u) := by
  unfold hpT at h
  by_cases hb : b ∈ T
  · rw [if_pos hb] at h
    cases h
    exact .inl ⟨hb, rfl⟩
  · rw [if_neg hb] at h
    by_cases h2 : K.lookup a = none ∧ b = a
    · rw [if_pos h2] at h
      cases h
      exact .inr ⟨hb, h2.1, h2.2, rfl⟩
    · rw [if_neg h2] at h
      cases h
theorem lawGT {P : Program} {w : World} {K : Frag} {mg mb : Str → Option Value} {k : Nat} {fa a : Addr} {cs : List (Addr × Addr)} {sp : Sp} {s₁ : Shared} {vs : List Value} {ns : List Int}
    (KX : K.In s₁.heap) (hns : s₁.heap.Ns mainGlobals mg) (hb : s₁.heap.Ns builtinsNs mb) (hbb : ∀ x : Str, x ≠ "__name__" → mb x = bootBuiltins x) (hlim : s₁.heap.NoLimit) (hg : s₁.gens = #[])
    (hT : ∀ p ∈ cs, s₁.heap.get? p.2 = some { cls := .none, data := .fields #[] }) (nT : ∀ p ∈ cs, K.lookup p.2 = none) (C : ∀ p ∈ cs, PySem.W.CodeHd s₁.heap p.1 p.2)
    (hbm : ∃ (bm : Addr) (ob : Obj), mg "__builtins__" = some (.ref bm) ∧ bm ≠ builtinsNs ∧ s₁.heap.get? bm = some ob ∧ ob.cls = .type "module" ∧ ob.dict = some builtinsNs ∧ ob.data = .plain)
    (ha : s₁.heap.get? a = some { cls := .type "list", data := .seq vs.toArray }) (hi : IntsAre vs ns) (hl : ns.length ≤ sizeLine) (hr : Room k callerA)
    (F : ∀ base : Heap, K.In base → base.Ns mainGlobals mg → (∀ p ∈ cs, TabB base mg p.1 p.2) → CallP P w K mg base k (.ref fa) sp)
    (hsp : ∀ H : Hp, (∀ p ∈ cs, H p.2 = some (.tbl #[])) → Scr K H a (ns.map V.int) → sp [.ref a] H (fun v _ => v = .bl true) fun _ _ _ => False) :
    codeAny (model P w) callerA (.call (.ref fa) ⟨[.ref a], []⟩) (fun r s' => r = .ok (.ret (.bool true)) ∧ OldK s₁.heap s'.heap ∧ s'.os = s₁.os ∧ AllBare s'.gens) s₁ := by
  have rv := vals_ints hi
  have lenV := hi.length
  generalize hTe : cs.map (·.2) = T
  have memT : ∀ p ∈ cs, p.2 ∈ T := fun p hp => hTe ▸ List.mem_map.mpr ⟨p, hp, rfl⟩
  have fromT : ∀ b ∈ T, ∃ p ∈ cs, p.2 = b := fun b hb => List.mem_map.mp (hTe ▸ hb)
  have isT : ∀ b ∈ T, s₁.heap.get? b = some { cls := .none, data := .fields #[] } := fun b hb => by
    obtain ⟨p, hp, rfl⟩ := fromT b hb
    exact hT p hp
  have aT : a ∉ T := fun z => by
    have q := (isT a z).symm.trans ha
    cases q
  obtain ⟨H, hH⟩ : ∃ H : Hp, H = hpT K T a (.frz { cls := .type "list", data := .seq vs.toArray } (.lst (ns.map V.int))) := ⟨_, rfl⟩
  -- what is tracked is a table or the script
  have free : ∀ {b : Addr} {o : Obj}, s₁.heap.get? b = some o → o.data ≠ .fields #[] → o.data ≠ .seq vs.toArray → H b = none := fun {b o} e h1 h2 => by
    cases q : H b with
    | none => rfl
    | some u =>
      rw [hH] at q
      rcases hpT_some q with ⟨hb', _⟩ | ⟨_, _, rfl, _⟩
      · rw [isT b hb'] at e
        cases e
        exact (h1 rfl).elim
      · rw [ha] at e
        cases e
        exact (h2 rfl).elim
  have keepB : ∀ {b : Addr} {o : Obj}, s₁.heap.get? b = some o → H b = none → (hidT s₁.heap H).get? b = some o := fun e n => hidT_get e n
  have nsK : ∀ {b : Addr} {m : Str → Option Value}, s₁.heap.Ns b m → (hidT s₁.heap H).Ns b m := by
    rintro b m ⟨o, es, ep, e, d, r⟩
    exact ⟨o, es, ep, keepB e (free e (fun z => by rw [d] at z; cases z) fun z => by rw [d] at z; cases z), d, r⟩
  have kin : K.In (hidT s₁.heap H) := by
    intro b o e
    refine keepB (KX b o e) ?_
    cases q : H b with
    | none => rfl
    | some u =>
      rw [hH] at q
      rcases hpT_some q with ⟨hb', _⟩ | ⟨_, hk, rfl, _⟩
      · obtain ⟨p, hp, rfl⟩ := fromT b hb'
        rw [nT p hp] at e
        cases e
      · rw [hk] at e
        cases e
  obtain ⟨mc, l1, l2⟩ := id hlim
  have md : Mod K mg (hidT s₁.heap H) := ⟨kin, nsK hns, ⟨mb, nsK hb, hbb⟩, ⟨mc, nsK l1, l2⟩⟩
  have TB : ∀ p ∈ cs, TabB (hidT s₁.heap H) mg p.1 p.2 := fun p hp => by
    have hTp := hT p hp
    obtain ⟨og, esg, epg, eg, dg, _⟩ := id hns
    refine ⟨?_, ?_, fun z => ?_⟩
    · obtain ⟨o, us, file, tf, flags, tg, inF, text, tt, e1, r1, r2, r3, r⟩ := C p hp
      exact ⟨o, us, file, tf, flags, tg, inF, text, tt, keepB e1 (free e1 (fun z => by rw [r2] at z; cases z; simp at r3) fun z => by rw [r2] at z; cases z), r1, r2, r3, r⟩
    · obtain ⟨bm, ob, b1, b2, b3, b4, b5, b6⟩ := hbm
      refine ⟨bm, ob, b1, b2, fun q => ?_, fun q => ?_, keepB b3 (free b3 (fun z => by rw [b6] at z; cases z) fun z => by rw [b6] at z; cases z), b4, b5, b6⟩
      · rw [q, eg] at b3
        cases b3
        rw [dg] at b6
        cases b6
      · rw [q, hTp] at b3
        cases b3
        cases b6
    · rw [z, hTp] at eg
      cases eg
      cases dg
  have hok : HOk P w H s₁.heap := fun b u z => by
    rw [hH] at z
    rcases hpT_some z with ⟨hb', rfl⟩ | ⟨_, _, rfl, rfl⟩
    · exact isT b hb'
    · exact ⟨ha, by rw [List.length_map]; exact hl, vs, _, rv, ha⟩
  have hS : Scr K H a (ns.map V.int) := by
    cases hk : K.lookup a with
    | some o =>
      have e := KX a o hk
      rw [ha] at e
      cases e
      exact .inr ⟨vs, 0, hk, rv, by rw [List.length_map]; exact hl⟩
    | none => exact .inl (.inr ⟨_, by rw [hH]; exact hpT_a aT hk⟩)
  have hHT : ∀ p ∈ cs, H p.2 = some (.tbl #[]) := fun p hp => by rw [hH]; exact hpT_in (memT p hp)
  have e0 : Env0 P w K mg (hidT s₁.heap H) callerA [] s₁ H :=
    ⟨rfl, md, fun b o e => of_hidT e, Nat.le_of_eq (hidT_size _ _), trivial, (fun b hb => absurd (show b ∈ ([] : List Addr) from hb) (by simp)), hok, AllBare.of_eq hg⟩
  refine codeAny_mono (F _ kin (nsK hns) TB callerA [] s₁ H [.ref a] [] [.ref a] [] _ _ hr rfl e0 (.cons rfl .nil) .nil ⟨rfl, hsp H hHT hS⟩) ?_
  intro r s' h
  match r, h with
  | .error e, ⟨_, _, _, _, _, _, _, _, _, _, _, _, z⟩ => exact z.elim
  | .ok (.ret u), ⟨v, H', os, bare, un, hok', r', q⟩ =>
    obtain rfl : v = .bl true := q
    obtain rfl : u = Value.bool true := r'
    have key : ∀ b o, b ∉ T → s₁.heap.get? b = some o → s'.heap.get? b = some o := fun b o nb e => by
      cases q : H b with
      | none => exact un.keep b o e q (fun z => nomatch (show b ∈ ([] : List Addr) from z)) (fun z => nomatch z)
      | some u =>
        have q' := q
        rw [hH] at q'
        rcases hpT_some q' with ⟨hb', _⟩ | ⟨_, _, rfl, rfl⟩
        · exact absurd hb' nb
        · have e1 := (hok b _ q).1
          have e2 := (hok' b _ (un.frzs b _ _ q)).1
          rw [e] at e1
          cases e1
          exact e2
    have grown : ∀ p ∈ cs, ∃ more : Array Value, s'.heap.get? p.2 = some { cls := .none, data := .fields more } := fun p hp => by
      obtain ⟨more, z⟩ := un.tbls p.2 #[] (hHT p hp)
      exact ⟨_, hok' p.2 _ z⟩
    refine ⟨rfl, ⟨fun b o e => ?_, fun b o e => ?_⟩, os, bare⟩
    · by_cases hb' : b ∈ T
      · obtain ⟨p, hp, rfl⟩ := fromT b hb'
        obtain ⟨more, hm⟩ := grown p hp
        rw [hT p hp] at e
        cases e
        exact .inr (.inl ⟨((C p hp).tab (hT p hp)).isCodeTable, rfl, #[], more, rfl, by rw [Array.empty_append]; exact hm⟩)
      · exact .inl (key b o hb' e)
    · by_cases hb' : b ∈ T
      · obtain ⟨p, hp, rfl⟩ := fromT b hb'
        obtain ⟨more, hm⟩ := grown p hp
        exact ⟨_, hm⟩
      · exact ⟨o, key b o hb' e⟩
open PySem.W in
/-- the end of a proof, the text making lambdas -/
theorem walkGT {l : OpenLaw} {n k : Nat} {q : Program} {loose : List Str} {XP : (Str → Option Value) → Heap → Prop} {YP : World → Heap → Prop} {d : DefRec} {K : Params → Frag}
    (hn : l.most = some n) (hn2 : n ≤ sizeLine) (hdf : d.params.defaults = []) (hr : Room k callerA) (hY : ∀ (w : World) (h : Heap), YP w h → (K w.params).In h)
    (F : ∀ (w : World) (mg : Str → Option Value) (fa : Addr) (h : Heap), YP w h → (K w.params).In h → h.Ns mainGlobals mg → mg d.name = some (.ref fa) →
      ∃ (cs : List (Addr × Addr)) (sp : Sp), (∀ p ∈ cs, h.get? p.2 = some { cls := .none, data := .fields #[] }) ∧ (∀ p ∈ cs, (K w.params).lookup p.2 = none) ∧ (∀ p ∈ cs, PySem.W.CodeHd h p.1 p.2) ∧
        (∀ (H : Hp) (a : Addr) (ns : List Int), ns.length ≤ n → (∀ z ∈ ns, Builtin.Int.intBits z ≤ 1048576) → (∀ p ∈ cs, H p.2 = some (.tbl #[])) → Scr (K w.params) H a (ns.map V.int) → sp [.ref a] H (fun v _ => v = .bl true) fun _ _ _ => False) ∧
        ∀ base : Heap, (K w.params).In base → base.Ns mainGlobals mg → (∀ p ∈ cs, TabB base mg p.1 p.2) → CallP l.prog w (K w.params) mg base k (.ref fa) sp) :
    WalkO q loose XP YP l.row.toRowW d [] (fun f vs => PySem.call f vs) := by
  refine Att.attach_callB hn hdf fun w s₀ s₁ mg mb fa o pm cd doc a vs ns G Y ho hd hcd hmg hobj hints hlen hbits hg => ?_
  have KX := hY w _ Y
  obtain ⟨cs, sp, hT, nT, C, hsp, hF⟩ := F w mg fa _ Y KX G.T.g hmg
  exact lawGT KX G.T.g G.T.b G.T.builtins G.T.nolimit hg hT nT C G.T.bmain hobj hints (Nat.le_trans hlen hn2) hr hF fun H hH hS => hsp H a ns hlen hbits hH hS
end BJ

/-! defs whose promise holds for every Around (they call no repr); written dicts of text keys -/
namespace BJ
open PySem PySem.Spec PyProof.Rows L2 Evl
open PySem.W (Frag)
/-- a promise for every Around -/
def CallO (P : Program) (w : World) (K : Frag) (mg : Str → Option Value) (base : Heap) (k : Nat) (u : Value) (sp : Sp) : Prop :=
  ∀ (A : Around) (outer : List Env) (s : Shared) (H : Hp) (us : List Value) (vs : List V) (Q : VK) (E : XK),
    Room k A → Env0 P w K mg base A outer s H → Vals vs us → sp vs H Q E → codeAny (model P w) A (.call u ⟨us, []⟩) (CR (L2.CX P w) outer P w H s Q E) s
section
variable {P : Program} {w : World} {K : Frag} {mg : Str → Option Value} {base : Heap}
theorem CallO.mono {j k : Nat} {u : Value} {sp : Sp} (F : CallO P w K mg base j u sp) (h : j ≤ k) : CallO P w K mg base k u sp := fun A o s H us vs Q E hr => F A o s H us vs Q E (hr.mono h)
theorem CallO.p {k : Nat} {u : Value} {sp : Sp} (F : CallO P w K mg base k u sp) : CallP P w K mg base k u sp := by
  rintro A outer s H us ws vs zs Q E room hg e0 rel relz ⟨rfl, prom⟩
  cases relz
  exact F A outer s H us vs Q E room e0 rel prom
theorem FnG.ofOk {k : Nat} {f : Addr} {fd : FuncData} {ps : List Str} {sp : Sp} (F : FnOk P w K mg base (L2.CX P w) k f fd ps sp) : FnG P w K mg base k f fd ps sp :=
  ⟨F.len, fun A o s H a us vs Q E hr _ => F.run A o s H a us vs Q E hr⟩
/-- the rule for a def, for every Around -/
theorem DefAt.okX {x qual : Str} {st : Stmt} {f : Addr} {N ps : List Str} {k : Nat} {sp : Sp} (D : DefAt K x qual st f ps) (S : FnScope N ps (defScope st))
    (len : ∀ vs H Q E, sp vs H Q E → vs.length = ps.length)
    (hbody : ∀ (cdv : Value) (A : Around) (outer : List Env) (s : Shared) (H : Hp) (vs : List V) (Q : VK) (E : XK),
      Room k (A.deeper (envOfC qual (defScope st) s.heap.objs.size f cdv)) → sp vs H Q E →
      ∃ t, PSs (cxOf (L2.CX P w) P w K mg base N qual (defScope st) f cdv A outer s H E) (defBody st) t ∧ t { nx := fun _ H' => Q .non H', rt := Q } (start N vs) H) :
    ∃ fd, FnOk P w K mg base (L2.CX P w) (k + 1) f fd ps sp ∧ Binds K fd ps [] ∧ Fun K x qual st f fd := by
  obtain ⟨fd, F, hb⟩ := D.fn
  exact ⟨fd, F.okX S len hbody, hb, F⟩
theorem fnO {x qual : Str} {st : Stmt} {f : Addr} {k : Nat} {ps : List Str} {sp : Sp} (h : ∃ fd, FnOk P w K mg base (L2.CX P w) k f fd ps sp ∧ Binds K fd ps [] ∧ Fun K x qual st f fd) : CallO P w K mg base k (.ref f) sp := by
  obtain ⟨fd, F, hb, _⟩ := h
  intro A outer s H us vs Q E room e0 rel prom
  have hl : (us ++ []).length = ps.length := by
    rw [List.append_nil]
    exact rel.length.symm.trans (F.len _ _ _ _ prom)
  have KX : K.In s.heap := e0.mod.kin.keeps fun b o e => (e0.bs b o e).1
  have b := hb s us KX hl
  rw [List.append_nil] at b
  exact F.run A outer s H ⟨us, []⟩ us vs Q E room e0 b rel prom
theorem fnOG {x qual : Str} {st : Stmt} {f : Addr} {k : Nat} {ps : List Str} {sp : Sp} (h : ∃ fd, FnOk P w K mg base (L2.CX P w) k f fd ps sp ∧ Binds K fd ps [] ∧ Fun K x qual st f fd) : ∃ fd, FnG P w K mg base k f fd ps sp ∧ Binds K fd ps [] ∧ Fun K x qual st f fd := by
  obtain ⟨fd, F, r⟩ := h
  exact ⟨fd, FnG.ofOk F, r⟩
end
section
variable {X : Cx} {k : Nat} {u : Value} {sp : Sp} {W : WX} {x : Str} {p pos : Pos} {e : Expr} {es : List Expr} {t : TA}
theorem run_callO {pins : List (Addr × Obj)} {σ : L2.St} {H : Hp} {s : Shared} {Q : VK} {us : List Value} {vs : List V}
    (F : CallO X.prog X.w X.K X.mg X.base k u sp) (hr : Room k X.A) (tkW : Takes X W) (I : Inv X pins σ H s) (r : Vals vs us) (h : sp vs H Q fun cls d H' => W cls d σ H') :
    wpAny (model X.prog X.w) X.A (call u us) (EP X pins σ Q) X.xe s := by
  refine wpAny_call (codeAny_mono (F X.A X.stack s H us vs Q _ hr I.env0 r h) ?_)
  intro res s' hq
  match res, hq with
  | .error e, hq => exact tkW e s' (XE.of_call I (fun _ _ _ z => z) hq)
  | .ok (.ret u), hq => exact I.after hq
/-- f(e, ..) by such a promise -/
theorem pe_co (F : CallO X.prog X.w X.K X.mg X.base k u sp) (hr : Room k X.A) (hg : Gl X x) (hm : X.mg x = some u)
    (hk : PySem.W.keepIn X.K u = true) (tkW : Takes X W) (ha : PA X (e :: es) t) (hdb : (x == ("__debug__" : Str)) = false := by decide)
    (he : starEach (e :: es) X.env = (false, eval e X.env) :: starEach es X.env := by rfl)
    (hpl : (backTo pos (starEach es X.env)).any (·.1) = false := by rfl) : PE X (.Call (.Name x p) (e :: es) [] pos) (tCa sp W t) where
  run := by
    intro pins s σ H Q I h
    refine wpAny_Call_Name_kw (ld_glob I hg hm ?_ hdb)
    refine PySem.W.callWith_K (h₀ := X.base) I.ok.mod.kin hk (thn (ha.run pos pins s σ H _ I h) ?_) he hpl
    rintro us s1 ⟨vs, H1, I1, r, q⟩
    exact ⟨I1.kIn, run_callO F hr tkW I1 r q⟩
end
/-- the written dict at a, its keys texts -/
structure KD (K : Frag) (w : World) (a : Addr) : Prop where
  ex : ∃ es n, K.lookup a = some ⟨.type "dict", none, .dict es n, #[]⟩ ∧ PySem.W.KeysLit w.params es.toList
  low : (a == sysModules) = false
section
variable {X : Cx}
/-- text in d, d written -/
def rInKD (K : Frag) (w : World) (neg : Bool) : R2 := fun x y H Q => ∃ (z : Str) (a : Addr) (r : Option Value), x = .str z ∧ y = .ref a ∧ KD K w a ∧ PySem.W.nsIn K a z = some r ∧ Q (.bl (if neg then !r.isSome else r.isSome)) H
theorem op_inKD : OpR X (compareOp .In) (rInKD X.K X.w false) := by
  rintro pins s σ H x y v u Q I rx ry ⟨z, a, r, rfl, rfl, ⟨⟨es, n, hl, hk⟩, low⟩, hn, q⟩
  obtain ⟨t, rfl⟩ := rx
  cases (show u = Value.ref a from ry)
  have hm := PySem.W.mapOf_K (prog := X.prog) (w := X.w) I.kIn hl hk
  refine wpAny_in_of (strKind_is X.prog X.w z t) low hm ⟨_, H, I.tok _, ?_, q⟩
  have e := PySem.W.find_K hl hn
  show Value.bool _ = Value.bool _
  rw [e]
  rfl
end
end BJ

/-! written tuples of tuples, written dicts of text keys: what they hold, read off the written part -/
namespace BJ
open PySem PySem.Spec PyProof.Rows L2 Evl
open PySem.W (Frag)
def atomV : Value → Option V
  | .int i _ => some (.int i)
  | .str x _ => some (.str x)
  | _ => none
theorem atomV_rel {u : Value} {v : V} (h : atomV u = some v) : RelV v u := by
  cases u <;> simp [atomV] at h
  · subst h; exact ⟨_, rfl⟩
  · subst h; exact ⟨_, rfl⟩
def tupIn (K : Frag) (a : Addr) : Option (List Value) := match K.lookup a with
  | some ⟨c, _, .seq its _, _⟩ => if (c == .type "tuple") && decide (its.size ≤ 1000) then some its.toList else none
  | _ => none
theorem tupIn_at {K : Frag} {a : Addr} {l : List Value} (h : tupIn K a = some l) : ∃ (o : Obj) (its : Array Value) (n : Nat), K.lookup a = some o ∧ o.cls = .type "tuple" ∧ o.data = .seq its n ∧ its.size ≤ sizeLine ∧ its.toList = l := by
  unfold tupIn at h
  split at h
  · rename_i c dd its n sl e
    split at h
    · rename_i hc
      rw [Bool.and_eq_true] at hc
      cases h
      exact ⟨_, its, n, e, eq_of_beq hc.1, rfl, Nat.le_trans (of_decide_eq_true hc.2) (by decide), rfl⟩
    · cases h
  · cases h
/-- a tuple of atoms -/
def rowIn (K : Frag) : Value → Option (List V)
  | .ref b => (tupIn K b).bind fun l => l.mapM atomV
  | _ => none
def rowsIn (K : Frag) (a : Addr) : Option (List (List V)) := (tupIn K a).bind fun l => l.mapM (rowIn K)
theorem mapM_vals : ∀ {l : List Value} {vs : List V}, l.mapM atomV = some vs → Vals vs l
  | [], vs, h => by
    simp at h
    subst h
    exact .nil
  | u :: l, vs, h => by
    rw [List.mapM_cons] at h
    simp only [Option.bind_eq_bind, Option.bind_eq_some_iff, Option.pure_def, Option.some.injEq] at h
    obtain ⟨v, hv, ws, hw, rfl⟩ := h
    exact .cons (atomV_rel hv) (mapM_vals hw)
theorem rowIn_at {K : Frag} {u : Value} {r : List V} (h : rowIn K u = some r) : ∃ b, u = .ref b ∧ ∀ H : Hp, SqT K H b r := by
  cases u with
  | ref b =>
    obtain ⟨l, h1, h2⟩ := Option.bind_eq_some_iff.mp (show (tupIn K b).bind (fun l => l.mapM atomV) = some r from h)
    obtain ⟨o, its, n, e1, e2, e3, e4, rfl⟩ := tupIn_at h1
    exact ⟨b, rfl, fun H => .inr ⟨o, its, n, e1, e2, e3, e4, mapM_vals h2⟩⟩
  | _ => simp [rowIn] at h
theorem mapM_rows {K : Frag} : ∀ {l : List Value} {rows : List (List V)}, l.mapM (rowIn K) = some rows → ∃ bs : List Addr, Vals (bs.map V.ref) l ∧ bs.length = rows.length ∧ ∀ (i : Nat) (r : List V), rows[i]? = some r → ∃ b, bs[i]? = some b ∧ ∀ H : Hp, SqT K H b r
  | [], rows, h => by
    simp at h
    subst h
    exact ⟨[], .nil, rfl, fun i r h => by simp at h⟩
  | u :: l, rows, h => by
    rw [List.mapM_cons] at h
    simp only [Option.bind_eq_bind, Option.bind_eq_some_iff, Option.pure_def, Option.some.injEq] at h
    obtain ⟨v, hv, ws, hw, rfl⟩ := h
    obtain ⟨bs, hv2, hl, hget⟩ := mapM_rows hw
    obtain ⟨b, rfl, hb⟩ := rowIn_at hv
    refine ⟨b :: bs, .cons rfl hv2, by rw [List.length_cons, List.length_cons, hl], fun i r hi => ?_⟩
    cases i with
    | zero =>
      simp at hi
      subst hi
      exact ⟨b, rfl, hb⟩
    | succ i =>
      simp only [List.getElem?_cons_succ] at hi ⊢
      exact hget i r hi
theorem rowsIn_at {K : Frag} {a : Addr} {rows : List (List V)} (h : rowsIn K a = some rows) : ∃ bs : List Addr, (∀ H : Hp, SqT K H a (bs.map V.ref)) ∧ bs.length = rows.length ∧ ∀ (i : Nat) (r : List V), rows[i]? = some r → ∃ b, bs[i]? = some b ∧ ∀ H : Hp, SqT K H b r := by
  unfold rowsIn at h
  simp only [Option.bind_eq_some_iff] at h
  obtain ⟨l, h1, h2⟩ := h
  obtain ⟨o, its, n, e1, e2, e3, e4, rfl⟩ := tupIn_at h1
  obtain ⟨bs, hv, hl, hg⟩ := mapM_rows h2
  exact ⟨bs, fun H => .inr ⟨o, its, n, e1, e2, e3, e4, hv⟩, hl, hg⟩
/-- the written dict at a, its keys texts, its values atoms, in their order -/
structure KDL (K : Frag) (P : Params) (a : Addr) (L : List (Str × V)) : Prop where
  ex : ∃ es n, K.lookup a = some ⟨.type "dict", none, .dict es n, #[]⟩ ∧ PySem.W.KeysLit P es.toList ∧ es.toList.any (·.refKey) = false ∧ es.toList.map (fun e => (match e.key with | .str x _ => x | _ => Str.empty, atomV e.val)) = L.map fun p => (p.1, some p.2)
  low : (a == sysModules) = false
theorem KDL.kd {K : Frag} {w : World} {a : Addr} {L : List (Str × V)} (h : KDL K w.params a L) : KD K w a := by
  obtain ⟨⟨es, n, h1, h2, _⟩, h3⟩ := h
  exact ⟨⟨es, n, h1, h2⟩, h3⟩
theorem find_of : ∀ {es : List DictEntry} {L : List (Str × V)} {P : Params}, PySem.W.KeysLit P es → es.map (fun e => (match e.key with | .str x _ => x | _ => Str.empty, atomV e.val)) = L.map (fun p => (p.1, some p.2)) → ∀ z : Str,
    match es.find? (·.key.isStr z), L.lookup z with
    | some e, some v => atomV e.val = some v
    | none, none => True
    | _, _ => False
  | [], [], _, _, _, z => trivial
  | e :: es, [], _, _, h, z => by simp at h
  | [], p :: L, _, _, h, z => by simp at h
  | e :: es, (x, v) :: L, P, ⟨⟨y, t, hk, hh⟩, hr⟩, h, z => by
    rw [List.map_cons, List.map_cons] at h
    injection h with h1 h2
    have ih := find_of hr h2 z
    rw [hk] at h1
    simp only [Prod.mk.injEq] at h1
    obtain ⟨rfl, h1⟩ := h1
    have ek : e.key.isStr z = (y == z) := by rw [hk]; rfl
    by_cases hz : z = y
    · subst hz
      rw [List.find?_cons_of_pos (by rw [ek]; simp), lookup_cons_if, if_pos rfl]
      exact h1
    · rw [List.find?_cons_of_neg (by rw [ek]; simpa using fun q => hz q.symm), lookup_cons_if, if_neg hz]
      exact ih
theorem KDL.look {K : Frag} {P : Params} {a : Addr} {L : List (Str × V)} (h : KDL K P a L) (z : Str) : match L.lookup z with
    | some v => ∃ u, PySem.W.nsIn K a z = some (some u) ∧ RelV v u
    | none => PySem.W.nsIn K a z = some none := by
  obtain ⟨⟨es, n, h1, h2, h3, h4⟩, _⟩ := h
  have f := find_of h2 h4 z
  have e : PySem.W.nsIn K a z = (match es.toList.find? (·.key.isStr z) with | some e => some (some e.val) | none => some none) := by
    unfold PySem.W.nsIn
    rw [h1]
    dsimp only
    rw [h3]
    rfl
  rw [e]
  cases hf : es.toList.find? (·.key.isStr z) with
  | some en =>
    rw [hf] at f
    cases hl : L.lookup z with
    | some v =>
      rw [hl] at f
      exact ⟨_, rfl, atomV_rel f⟩
    | none => rw [hl] at f; exact f.elim
  | none =>
    rw [hf] at f
    cases hl : L.lookup z with
    | some v => rw [hl] at f; exact f.elim
    | none => rfl
end BJ

/-! a def whose code object is known (it makes lambdas); its table -/
namespace BJ
open PySem PySem.Spec PyProof.Rows L2 Evl
open PySem.W (Frag)
structure DefAtC (K : Frag) (x qual : Str) (st : Stmt) (f c : Addr) (ps : List Str) : Prop where
  fn : ∃ (oc : Value) (od : Option Addr) (kV doc pm : Value) (an : Option Addr) (ct : Value) (osl : Array (Option Value)),
    K.lookup f = some ⟨oc, od, .func (PySem.W.fnOf x qual (defArgs st) (defBody st) (defScope st) .none kV doc pm an (.ref c) ct), osl⟩ ∧ PySem.W.codeIn K (.ref c) qual = true ∧
      Binds K (PySem.W.fnOf x qual (defArgs st) (defBody st) (defScope st) .none kV doc pm an (.ref c) ct) ps []
section
variable {P : Program} {w : World} {K : Frag} {mg : Str → Option Value} {base : Heap}
theorem DefAtC.ok {x qual : Str} {st : Stmt} {f c : Addr} {N ps : List Str} {k : Nat} {sp : Sp} (D : DefAtC K x qual st f c ps) (S : FnScope N ps (defScope st))
    (len : ∀ vs H Q E, sp vs H Q E → vs.length = ps.length)
    (hbody : ∀ (A : Around) (outer : List Env) (s : Shared) (H : Hp) (vs : List V) (Q : VK) (E : XK),
      Room k (A.deeper (envOfC qual (defScope st) s.heap.objs.size f (.ref c))) → A.guards = some [] → sp vs H Q E →
      ∃ t, PSs (cxOf (L2.CX P w) P w K mg base N qual (defScope st) f (.ref c) A outer s H E) (defBody st) t ∧ t { nx := fun _ H' => Q .non H', rt := Q } (start N vs) H) :
    CallP P w K mg base (k + 1) (.ref f) sp := by
  obtain ⟨oc, od, kV, doc, pm, an, ct, osl, lk, hcd, hb⟩ := D.fn
  have F : FnG P w K mg base (k + 1) f (PySem.W.fnOf x qual (defArgs st) (defBody st) (defScope st) .none kV doc pm an (.ref c) ct) ps sp :=
    fnG_of lk hcd S len fun A outer s H vs Q E hr hg hsp => hbody A outer s H vs Q E hr hg hsp
  have q := F.callP (dvs := []) hb .nil
  rintro A outer s H us ws vs zs Q E room hg e0 rel relz ⟨hz, prom⟩
  exact q A outer s H us ws vs zs Q E room hg e0 rel relz ⟨hz, show sp (vs ++ []) H Q E by rw [List.append_nil]; exact prom⟩
end
/-- the table's address in the code object at c -/
def tabOf (K : Frag) (c : Addr) : Option Addr := match K.lookup c with
  | some ⟨_, _, .fields vs, _⟩ => (match vs.getD 11 .none with | .ref p => some p | _ => none)
  | _ => none
end BJ

/-! x(lambda: body), the def that gets it knowing its own slots where the lambda's call raises -/
namespace BJ
open PySem PySem.Spec PyProof.Rows L2 LamX Evl
open PySem.W (Frag)
section
variable {X : Cx} {pins : List (Addr × Obj)} {σ : L2.St} {H : Hp} {s : Shared}
/-- call(), in the def that got the lambda; what is raised is wished at that def's slots -/
theorem pe_act2 {CXg : CXT} {Eg : XK} {Ng : List Str} {qg : Str} {sg : Scope} {g f c' : Addr} {cdg pm ctv : Value} {params : Arguments} {body : Expr} {scope : Scope} {k i : Nat} {a : Str}
    {pn : List (Addr × Obj)} {xe : Value → Shared → Prop} {W : WX} {t : XK → TE} {p1 p2 : Pos} (I : Inv X pins σ H s) (L : LamS X.env.scope scope)
    (hf : s.heap.get? f = some (PySem.W.kla_obj "<lambda>" (X.env.qual ++ "<lambda>") params body scope (cloFrom X.env.cells scope.names []) pm c' ctv)) (hfn : H f = none) (hfr : f ∉ frs X.stack)
    (hbind : bindArgs (PySem.W.kla_fn "<lambda>" (X.env.qual ++ "<lambda>") params body scope (cloFrom X.env.cells scope.names []) pm (.ref c') ctv) ⟨[], []⟩ = pure [])
    (tk : Takes ((cxOf CXg X.prog X.w X.K X.mg X.base Ng qg sg g cdg X.A X.stack s H Eg).tr pn xe) W) (hr : Room (k + 1) (X.A.deeper (envOfC qg sg s.heap.objs.size g cdg)))
    (hbody : ∀ (E : XK) (A : Around) (outer : List Env) (s : Shared) (H : Hp), Room k (A.deeper (lamEnv X scope s.heap.objs.size f c')) → PE (lamCx X A outer s H E scope f c') body (t E))
    (hN : Ng[i]? = some a) (hv : Vis sg a) (hd : (a == ("__debug__" : Str)) = false := by decide) (hcd : (a == ("__classdict__" : Str)) = false := by decide) :
    PE ((cxOf CXg X.prog X.w X.K X.mg X.base Ng qg sg g cdg X.A X.stack s H Eg).tr pn xe) (.Call (.Name a p1) [] [] p2)
      (fun σZ HZ Q => σZ[i]? = some (some (.ref f)) ∧ HZ c' = some (CodeO c' (X.env.qual ++ "<lambda>")) ∧ t (fun cls d H' => W cls d σZ H') σ HZ Q) where
  run := by
    rintro pinsZ sZ σZ HZ Q IZ ⟨hs, hc, ht⟩
    refine wpAny_Call_Name_kw (thn ((pe_var (pos := p1) (i := i) hN hv hd hcd).run pinsZ sZ σZ HZ (fun v H1 => v = .ref f ∧ H1 = HZ) IZ ⟨.ref f, hs, rfl, rfl⟩) ?_)
    rintro u s1 ⟨v, H1, I1, r1, rfl, eH⟩
    rw [eH] at I1
    cases (show u = Value.ref f from r1)
    have nof : f ∉ ([] : List Addr) := fun z => nomatch z
    have atF := I1.base.keep f _ hf hfn hfr nof
    refine PySem.W.callWith_F0 ⟨_, _, _, _, atF⟩ ?_
    have un : Un (frs X.stack) [] H HZ s.heap s1.heap := I1.base
    obtain ⟨⟨oc, cvs, ct, hoc, hdc, hvc⟩, _, _⟩ := I1.hok c' _ hc
    have go : codeAny (model X.prog X.w) (X.A.deeper (envOfC qg sg s.heap.objs.size g cdg)) (.call (.ref f) ⟨[], []⟩)
        (CR (L2.CX X.prog X.w) (envOfC qg sg s.heap.objs.size g cdg :: X.stack) X.prog X.w HZ s1 Q fun cls d H' => W cls d σZ H') s1 := by
      refine PySem.W.kla_callFunE hr.depth atF rfl L.co L.gen rfl ⟨c', oc, cvs, ct, rfl, hoc, hdc, hvc⟩ ?_
      rw [hbind]
      refine wpAny_pure (wpAny_newFunctionEnv (fun y hy => (L.own y hy).2) (fun y hy => absurd hy (by simp)) (fun h₁ hns hsb => ⟨I1.nolimit.fresh _ hsb, ?_⟩) L.kind)
      show codeAny _ _ (.expr body (lamEnv X scope s1.heap.objs.size f c')) _ _
      have grow : ∀ b o, s1.heap.get? b = some o → h₁.get? b = some o := fun b o e =>
        hsb.extBut b o (Nat.ne_of_lt (Heap.lt_size e)) (Heap.get?_push_of_some _ e)
      have J := lam_start2 (E := fun cls d H' => W cls d σZ H') (f := f) (c' := c') I L I1.env0 hr.hd un hns grow (tk := s1.toks + ([] : List (Str × Value)).length)
      refine PySem.W.kla_codeExpr (wpAny_mono ((hbody (fun cls d H' => W cls d σZ H') _ _ s1 HZ (hr.deeper _)).run [] _ _ HZ Q J ht) ?_ fun e s' hq => hq)
      rintro v s' ⟨w', H', J', rv, q⟩
      exact ⟨w', H', J'.os, J'.bare, J'.base, J'.hok, rv, q⟩
    refine wpAny_call (codeAny_mono go ?_)
    intro res s' hq
    match res, hq with
    | .error e, hq => exact tk e s' (XE.of_call I1 (fun _ _ _ z => z) hq)
    | .ok (.ret u), hq => exact I1.after hq
end
/-- what such a def gives, the lambda's call known by tl -/
def Gives2 (X : Cx) (Ng : List Str) (x : Str) (sg : Scope) (g : Addr) (cdg : Value) (bg : List Stmt) (a : Str) (q : Str) (TT : (XK → Hp → VK → Prop) → Hp → VK → Prop) : Prop :=
  ∀ (f c' : Addr) (s : Shared) (H : Hp) (Q : VK) (tl : XK → Hp → VK → Prop),
    (∀ (W : WX) (pn : List (Addr × Obj)) (xe : Value → Shared → Prop) (p1 p2 : Pos), Takes ((cxOf CX0 X.prog X.w X.K X.mg X.base Ng x sg g cdg X.A X.stack s H E0).tr pn xe) W →
      PE ((cxOf CX0 X.prog X.w X.K X.mg X.base Ng x sg g cdg X.A X.stack s H E0).tr pn xe) (.Call (.Name a p1) [] [] p2)
        (fun σZ HZ Q => σZ[0]? = some (some (.ref f)) ∧ HZ c' = some (CodeO c' q) ∧ tl (fun cls d H' => W cls d σZ H') HZ Q)) →
    H c' = some (CodeO c' q) → TT tl H Q →
    ∃ t, PSs (cxOf CX0 X.prog X.w X.K X.mg X.base Ng x sg g cdg X.A X.stack s H E0).nox bg t ∧ t { nx := fun _ H' => Q .non H', rt := Q } (L2.start Ng [.ref f]) H
section
variable {X : Cx}
/-- x(lambda: body) -/
theorem pe_lam2 {T : List (Addr × Str)} {TT : (XK → Hp → VK → Prop) → Hp → VK → Prop} {x a : Str} {g c P : Addr} {k : Nat} {pg : Arguments} {bg : List Stmt} {sg : Scope} {dV kV doc pm cdv ct oc : Value} {an od : Option Addr}
    {osl : Array (Option Value)} {Ng : List Str} {params : Arguments} {body : Expr} {scope : Scope} {t : XK → TE} {p lpos pos : Pos} (hg : Gl X x) (hm : X.mg x = some (.ref g)) (hk : PySem.W.keepIn X.K (.ref g) = true)
    (lk : X.K.lookup g = some ⟨oc, od, .func (PySem.W.fnOf x x pg bg sg dV kV doc pm an cdv ct), osl⟩) (hcg : PySem.W.codeIn X.K cdv x = true) (hb : L2.Binds X.K (PySem.W.fnOf x x pg bg sg dV kV doc pm an cdv ct) [a] [])
    (Sg : FnScope Ng [a] sg) (hNg : Ng[0]? = some a) (hva : Vis sg a) (hG : Gives2 X Ng x sg g cdv bg a (X.env.qual ++ "<lambda>") TT) (TB : TabB X.base X.mg c P) (hcode : X.env.code = .ref c)
    (hmT : (P, X.env.qual ++ "<lambda>") ∈ T) (hu : ∀ p ∈ T, p.1 = P → p.2 = X.env.qual ++ "<lambda>") (hr : Room (k + 2) X.A) (L : LamS X.env.scope scope) (hdef : defaultsOf params X.env = ([], []))
    (hbind : ∀ (q : Str) (cl : List (Str × Addr)) (pm cv ctv : Value), bindArgs (PySem.W.kla_fn "<lambda>" q params body scope cl pm cv ctv) ⟨[], []⟩ = pure [])
    (hbody : ∀ (E : XK) (A : Around) (outer : List Env) (s : Shared) (H : Hp) (f c' : Addr), Room k (A.deeper (lamEnv X scope s.heap.objs.size f c')) → PE (lamCx X A outer s H E scope f c') body (t E))
    (hdb : (x == ("__debug__" : Str)) = false := by decide) (hd : (a == ("__debug__" : Str)) = false := by decide) (hcd : (a == ("__classdict__" : Str)) = false := by decide) :
    PE X (.Call (.Name x p) [.Lambda params body scope lpos] [] pos) (tLam T TT t) where
  run := by
    rintro pins s σ H Q I ⟨hT, h⟩
    refine wpAny_Call_Name_kw (ld_glob I hg hm ?_ hdb)
    refine PySem.W.callWith_K (h₀ := X.base) I.ok.mod.kin hk ?_ (by rfl) (by rfl)
    show wpAny _ _ (spliced ((false, eval (.Lambda params body scope lpos) X.env) :: backTo pos (starEach [] X.env))) _ _ s
    refine Calls.spliced_cons (lam_make2 I TB hcode hmT hu hT hdef (L.has I.ok) ?_)
    intro f c' pm' ctv H1 s' I1 eN T1 hf hfn hfr hco
    refine Calls.spliced_nil ⟨I1.kIn, ?_⟩
    have go : codeAny (model X.prog X.w) X.A (.call (.ref g) ⟨[.ref f], []⟩) (CR CX0 X.stack X.prog X.w H1 s' Q E0) s' := by
      refine run_ofS (N := Ng) (ps := [a]) (us := [.ref f]) (vs := [.ref f]) lk hcg Sg hr I1.env0 (hb s' [.ref f] I1.kIn rfl) (.cons rfl .nil) rfl fun hr' => ?_
      obtain ⟨t', ht', hq'⟩ := hG f c' s' H1 Q (fun E H' Q' => t E σ H' Q') (fun W pn xe p1 p2 tk =>
        pe_act2 (i := 0) I1 L hf hfn hfr (hbind _ _ _ _ _) tk hr' (fun E A outer s H hr2 => hbody E A outer s H f c' hr2) hNg hva hd hcd) hco (h H1 eN T1)
      exact ⟨t', ht'.nox, hq'⟩
    refine wpAny_call (codeAny_mono go ?_)
    intro res s2 hq
    match res, hq with
    | .error e, hq => exact (show False from hq).elim
    | .ok (.ret u), hq => exact I1.after hq
end
end BJ

/-! a def whose body has a token (str.replace asks it); the part of a heap that stands while numbers are drawn and lambdas made -/
namespace BJ
open PySem PySem.Spec PyProof.Rows L2 Evl LamX
open PySem.W (Frag)
section
variable {X : Cx} {e : Expr} {es : List Expr} {te : TE} {t : TA} {pos : Pos}
theorem PAT.of' (h : PA X es t) : PAT X es t := fun pos pins s σ H Q _ I q => h.run pos pins s σ H Q I q
theorem pat_cons2 (h1 : PET X e te) (hr : PAT X es t) (hs : starEach (e :: es) X.env = (false, eval e X.env) :: starEach es X.env := by rfl) : PAT X (e :: es) (tCons te t) := by
  intro pos pins s σ H Q h0 I h
  rw [hs]
  show wpAny _ _ (spliced ((false, eval e X.env) :: backTo pos (starEach es X.env))) _ _ s
  refine Calls.spliced_cons (wpAny_mono (PySem.wpAny_toks (h1 pins s σ H _ h0 I h)) (fun u s1 q => ?_) fun _ _ z => z.2)
  obtain ⟨hk, x, H1, I1, r1, q1⟩ := q
  exact thn (hr pos pins s1 σ H1 _ (Nat.le_trans h0 hk) I1 q1) fun us s2 ⟨xs, H2, I2, r2, q2⟩ => ⟨x :: xs, H2, I2, .cons r1 r2, q2⟩
theorem pet_lst2 (h : PAT X es t) : PET X (.List es pos) (tLst t) := by
  intro pins s σ H Q h0 I hq
  refine wpAny_List_spliced (thn (h pos pins s σ H _ h0 I hq) fun us s1 ⟨xs, H1, I1, r, z, q⟩ => ⟨by rw [← r.length]; exact z, ?_⟩)
  have hf : H1 s1.heap.objs.size = none := I1.hok.fresh (Nat.le_refl _)
  refine ⟨.ref s1.heap.objs.size, upd H1 s1.heap.objs.size (.lst xs), I1.laid (t' := s1.toks) (fun b u e => Heap.get?_push_of_some _ e) (Nat.le_refl _) ?_, rfl, q _ hf⟩
  exact ⟨z, us, 0, r, Heap.get?_push_size _ rfl⟩
theorem pst_set2 {i : Nat} {x : Str} {pos' : Pos} (hN : X.N.Nodup) (hi : X.N[i]? = some x) (hx : Loc X.env.scope x) (he : PET X e te) (hs : swapsWith e (some (.Name x pos')) pos.line X.env = pure false := by rfl) (hf : X.fn x = true ∨ X.env.scope.names.lookup x = some .local := by first | exact .inl rfl | exact .inr rfl | assumption) :
    PST X (.Assign [.Name x pos'] e pos) (tAsg te (gName i)) := by
  intro pins s σ H D h0 I h
  refine wpAny_Assign_Name (thn (he pins s σ H _ h0 I h) fun v s1 ⟨y, H1, I1, r1, q1⟩ => ?_) hs
  exact store_ok I1 hN hi hx r1 (fun s2 I2 => ⟨_, H1, I2, q1⟩) hf
end
section
variable {P : Program} {w : World} {K : Frag} {mg : Str → Option Value} {base : Heap}
/-- the rule for a def of at least one parameter, none of its names a cell: a token is out when the body begins -/
theorem DefAt.okT {x qual : Str} {st : Stmt} {f : Addr} {N ps : List Str} {k : Nat} {sp : Sp} (D : DefAt K x qual st f ps) (S : FnScope N ps (defScope st)) (hnc : ∀ y ∈ (defScope st).names, y.2 ≠ .cell) (hps : 1 ≤ ps.length)
    (len : ∀ vs H Q E, sp vs H Q E → vs.length = ps.length)
    (hbody : ∀ (cdv : Value) (A : Around) (outer : List Env) (s : Shared) (H : Hp) (vs : List V) (Q : VK) (E : XK),
      Room k (A.deeper (envOfC qual (defScope st) s.heap.objs.size f cdv)) → sp vs H Q E →
      ∃ t, PSsT (cxOf (L2.CX P w) P w K mg base N qual (defScope st) f cdv A outer s H E) (defBody st) t ∧ t { nx := fun _ H' => Q .non H', rt := Q } (start N vs) H) :
    ∃ fd, FnOk P w K mg base (L2.CX P w) (k + 1) f fd ps sp ∧ Binds K fd ps [] ∧ Fun K x qual st f fd := by
  obtain ⟨fd, F, hb⟩ := D.fn
  refine ⟨fd, ?_, hb, F⟩
  obtain ⟨oc, od, kV, doc, pm, an, cdv, ct, osl, rfl, lk, hcd⟩ := F.ex
  exact fn_ofT lk hcd S hnc hps len fun A outer s H vs Q E hr hsp => hbody cdv A outer s H vs Q E hr hsp
end
/-! ### what stands while numbers are drawn and lambdas made -/
def cutH (d : Addr) (H : Hp) : Hp := fun p => if p = d then none else match H p with
  | some (.tbl _) => none
  | o => o
/-- S: the draws' dict is not in it, nor a table -/
structure Stab (d : Addr) (S : Hp) : Prop where
  off : S d = none
  tbl : ∀ p ps, S p ≠ some (.tbl ps)
theorem cut_stab (d : Addr) (H : Hp) : Stab d (cutH d H) := ⟨if_pos rfl, fun p ps h => by
  unfold cutH at h
  split at h
  · cases h
  · split at h
    · cases h
    · rename_i hh
      exact hh _ h⟩
theorem cut_ex (d : Addr) (H : Hp) : Ex (cutH d H) H := fun p o h => by
  unfold cutH at h
  split at h
  · cases h
  · split at h
    · cases h
    · exact h
theorem cut_at {d p : Addr} {H : Hp} {o : HO} (h : H p = some o) (hp : p ≠ d) (ht : ∀ ps, o ≠ .tbl ps) : cutH d H p = some o := by
  unfold cutH
  rw [if_neg hp, h]
  cases o <;> first | rfl | exact absurd rfl (ht _)
theorem Stab.to_cut {d : Addr} {S H : Hp} (st : Stab d S) (e : Ex S H) : Ex S (cutH d H) := fun p o h => cut_at (e p o h) (fun q => by rw [q, st.off] at h; cases h) (fun ps q => st.tbl p ps (q ▸ h))
theorem Stab.but {d : Addr} {S H H' : Hp} (st : Stab d S) (e : Ex S H) (b : SameBut d H H') : Ex S H' := fun p o h => b p o (fun q => by rw [q, st.off] at h; cases h) (e p o h)
theorem Stab.extN {d : Addr} {S H H' : Hp} (st : Stab d S) (e : Ex S H) (b : ExtN H H') : Ex S H' := fun p o h => b p o (e p o h) (fun ps q => st.tbl p ps (q ▸ h))
theorem Dr.extN {H H' : Hp} {d c : Addr} {cells : List Int} {n : Nat} (D : Dr H d c cells n) (s : ExtN H H') : Dr H' d c cells n := by
  obtain ⟨⟨a, l, u, h1, h2⟩, hl, hn, hz⟩ := D
  exact ⟨⟨a, l, u, s _ _ h1 (fun ps z => nomatch z), h2⟩, s _ _ hl (fun ps z => nomatch z), hn, hz⟩
theorem Tabs.but {T : List (Addr × Str)} {d : Addr} {H H' : Hp} {kvs : List (Key × V)} (t : Tabs T H) (hd : H d = some (.dK kvs)) (b : SameBut d H H') : Tabs T H' := fun p hp => by
  obtain ⟨ps, h1, h2, h3⟩ := t p hp
  refine ⟨ps, b _ _ (ne_of h1 hd (fun z => nomatch z)) h1, h2, fun pos cv hc => ?_⟩
  obtain ⟨c, e1, e2⟩ := h3 pos cv hc
  exact ⟨c, e1, b _ _ (ne_of e2 hd (fun z => nomatch z)) e2⟩
theorem Dr.atd {H : Hp} {d c : Addr} {cells : List Int} {n : Nat} (D : Dr H d c cells n) : ∃ kvs, H d = some (.dK kvs) := by
  obtain ⟨a, l, u, h, _⟩ := D.dict
  exact ⟨_, h⟩
end BJ

/-! calls by promises for every Around: keywords, stars, a class, a method, a property, a classmethod; the receiver's class is told by the reading -/
namespace BJ
open PySem PySem.Spec PyProof.Rows L2 Evl StX ClX
open PySem.W (Frag)
abbrev SpK := List V → List V → Hp → VK → XK → Prop
/-- a promise for every Around, with the keywords ks -/
def CallX (P : Program) (w : World) (K : Frag) (mg : Str → Option Value) (base : Heap) (k : Nat) (u : Value) (ks : List Str) (sp : SpK) : Prop :=
  ∀ (A : Around) (outer : List Env) (s : Shared) (H : Hp) (us ws : List Value) (vs zs : List V) (Q : VK) (E : XK),
    Room k A → Env0 P w K mg base A outer s H → Vals vs us → Vals zs ws → sp vs zs H Q E → codeAny (model P w) A (.call u ⟨us, ks.zip ws⟩) (CR (L2.CX P w) outer P w H s Q E) s
section
variable {P : Program} {w : World} {K : Frag} {mg : Str → Option Value} {base : Heap}
theorem CallX.mono {j k : Nat} {u : Value} {ks : List Str} {sp : SpK} (F : CallX P w K mg base j u ks sp) (h : j ≤ k) : CallX P w K mg base k u ks sp := fun A o s H us ws vs zs Q E hr => F A o s H us ws vs zs Q E (hr.mono h)
theorem CallX.imp {k : Nat} {u : Value} {ks : List Str} {sp sp' : SpK} (F : CallX P w K mg base k u ks sp) (h : ∀ vs zs H Q E, sp' vs zs H Q E → sp vs zs H Q E) : CallX P w K mg base k u ks sp' := fun A o s H us ws vs zs Q E hr e r rz q => F A o s H us ws vs zs Q E hr e r rz (h _ _ _ _ _ q)
theorem CallO.imp {k : Nat} {u : Value} {sp sp' : Sp} (F : BJ.CallO P w K mg base k u sp) (h : ∀ vs H Q E, sp' vs H Q E → sp vs H Q E) : BJ.CallO P w K mg base k u sp' := fun A o s H us vs Q E hr e r q => F A o s H us vs Q E hr e r (h _ _ _ _ q)
theorem CallO.x {k : Nat} {u : Value} {sp : Sp} (F : BJ.CallO P w K mg base k u sp) : CallX P w K mg base k u [] fun vs zs H Q E => zs = [] ∧ sp vs H Q E := by
  rintro A o s H us ws vs zs Q E hr e r rz ⟨rfl, q⟩
  cases rz
  exact F A o s H us vs Q E hr e r q
theorem CallX.o {k : Nat} {u : Value} {sp : SpK} (F : CallX P w K mg base k u [] sp) : BJ.CallO P w K mg base k u fun vs H Q E => sp vs [] H Q E := fun A o s H us vs Q E hr e r q => F A o s H us [] vs [] Q E hr e r .nil q
theorem CallX.g {k : Nat} {u : Value} {ks : List Str} {sp : SpK} (F : CallX P w K mg base k u ks sp) : CallG P w K mg base k u ks sp := fun A o s H us ws vs zs Q E hr _ e r rz q => F A o s H us ws vs zs Q E hr e r rz q
/-- from a def's promise by a way its parameters are bound -/
theorem callX_of {k : Nat} {f : Addr} {fd : FuncData} {ps ks : List Str} {sp : Sp} {n : Nat} {g : List Value → List Value → List Value} {gV : List V → List V → List V} (F : FnOk P w K mg base (L2.CX P w) k f fd ps sp)
    (hb : KBn K fd ps n ks g gV) : CallX P w K mg base k (.ref f) ks fun vs zs H Q E => vs.length = n ∧ zs.length = ks.length ∧ sp (gV vs zs) H Q E := by
  rintro A outer s H us ws vs zs Q E hr e0 r rz ⟨hn, hm, q⟩
  have KX : K.In s.heap := e0.mod.kin.keeps fun b o e => (e0.bs b o e).1
  have r2 := hb.rel r rz
  have hl : (g us ws).length = ps.length := r2.length.symm.trans (F.len _ _ _ _ q)
  exact F.run A outer s H ⟨us, ks.zip ws⟩ (g us ws) (gV vs zs) Q E hr e0 (hb.to s us ws KX (r.length.symm.trans hn) (rz.length.symm.trans hm)) r2 q
/-- a class by its __init__ -/
def spMk (C : Addr) (sp : SpK) : SpK := fun vs zs H Q E => ∀ x dx, H x = none → H dx = none → dx ≠ x → sysModules < x → sp (.ref x :: vs) zs (upd (upd H dx (.own x)) x (.ins C dx [])) (fun v H2 => v = .non ∧ Q (.ref x) H2) E
theorem CallX.make {k : Nat} {C f : Addr} {ks : List Str} {sp : SpK} (M : Mk K C f) (F : CallX P w K mg base k (.ref f) ks sp) : CallX P w K mg base (k + 1) (.ref C) ks (spMk C sp) := by
  intro A outer s H us ws vs zs Q E hr e0 r rz h
  have KX : K.In s.heap := e0.mod.kin.keeps fun b o e => (e0.bs b o e).1
  have n1 : H s.heap.objs.size = none := e0.hok.fresh (Nat.le_refl _)
  have n2 : H (s.heap.objs.size + 1) = none := e0.hok.fresh (Nat.le_succ _)
  have big := env0_big e0
  have hq := h (s.heap.objs.size + 1) s.heap.objs.size n2 n1 (Nat.ne_of_lt (Nat.lt_succ_self _)) (Nat.lt_succ_of_lt big)
  have e1' : (s.heap.push PySem.W.emptyDict).get? s.heap.objs.size = some PySem.W.emptyDict := Heap.get?_push_size s.heap rfl
  have z1 : (s.heap.push PySem.W.emptyDict).objs.size = s.heap.objs.size + 1 := Heap.size_push _ _
  have e2' : ((s.heap.push PySem.W.emptyDict).push (PySem.W.instObj C s.heap.objs.size)).get? (s.heap.objs.size + 1) = some (PySem.W.instObj C s.heap.objs.size) := by
    have := Heap.get?_push_size (s.heap.push PySem.W.emptyDict) (o := PySem.W.instObj C s.heap.objs.size) rfl
    rwa [Heap.size_push] at this
  have e3 : (s.heap.push PySem.W.emptyDict).Ns s.heap.objs.size (fun _ => none) := ⟨PySem.W.emptyDict, #[], _, e1', rfl, (fun e he => absurd he (by simp)), fun _ => rfl⟩
  have E1 := env0_laid (o := PySem.W.emptyDict) (u := .own (s.heap.objs.size + 1)) e0 ⟨_, e1'⟩
  have ne : s.heap.objs.size ≠ s.heap.objs.size + 1 := Nat.ne_of_lt (Nat.lt_succ_self _)
  have E2 : Env0 P w K mg base A outer { s with heap := (s.heap.push PySem.W.emptyDict).push (PySem.W.instObj C s.heap.objs.size) } (upd (upd H s.heap.objs.size (.own (s.heap.objs.size + 1))) (s.heap.objs.size + 1) (.ins C s.heap.objs.size [])) := by
    have new : ObjOk P w (upd (upd H s.heap.objs.size (.own (s.heap.objs.size + 1))) (s.heap.push PySem.W.emptyDict).objs.size (.ins C s.heap.objs.size [])) ((s.heap.push PySem.W.emptyDict).push (PySem.W.instObj C s.heap.objs.size)) (s.heap.push PySem.W.emptyDict).objs.size (.ins C s.heap.objs.size []) := by
      rw [z1]
      exact ⟨by rw [upd_ne ne, upd_same], Nat.zero_le _, ne, e2', fun _ => none, (Heap.Ns1.of_empty e3).at fun o q => Heap.get?_push_of_some _ q, fun _ => True.intro, fun y hy => absurd rfl hy⟩
    have := env0_laid (s := { s with heap := s.heap.push PySem.W.emptyDict }) (o := PySem.W.instObj C s.heap.objs.size) (u := .ins C s.heap.objs.size []) E1 new
    have e : ({ s with heap := s.heap.push PySem.W.emptyDict } : Shared).heap.objs.size = s.heap.objs.size + 1 := z1
    rw [e] at this
    exact this
  have un : Un (frs outer) [] H (upd (upd H s.heap.objs.size (.own (s.heap.objs.size + 1))) (s.heap.objs.size + 1) (.ins C s.heap.objs.size [])) s.heap ((s.heap.push PySem.W.emptyDict).push (PySem.W.instObj C s.heap.objs.size)) := by
    have u1 := un_laid (fs := frs outer) (s := s) (o := PySem.W.emptyDict) (u := .own (s.heap.objs.size + 1)) n1
    have u2 := un_laid (fs := frs outer) (s := { s with heap := s.heap.push PySem.W.emptyDict }) (H := upd H s.heap.objs.size (.own (s.heap.objs.size + 1))) (o := PySem.W.instObj C s.heap.objs.size) (u := .ins C s.heap.objs.size []) (by
      show upd H s.heap.objs.size (.own (s.heap.objs.size + 1)) (s.heap.push PySem.W.emptyDict).objs.size = none
      rw [z1, upd_ne ne.symm]
      exact n2)
    have e : ({ s with heap := s.heap.push PySem.W.emptyDict } : Shared).heap.objs.size = s.heap.objs.size + 1 := z1
    rw [e] at u2
    exact u1.trans u2
  refine make_map (f := f) KX M.makes M.init (beq_iff_eq.mp M.fn) (codeAny_mono (F _ outer _ _ (Value.ref (s.heap.objs.size + 1) :: us) ws (V.ref (s.heap.objs.size + 1) :: vs) zs _ E (hr.make C us (ks.zip ws)) (E2.make C us (ks.zip ws)) (.cons rfl r) rz hq) fun res s' hq' => ?_)
  cases res with
  | error e => exact cxUp (P := P) (w := w) outer s H { s with heap := (s.heap.push PySem.W.emptyDict).push (PySem.W.instObj C s.heap.objs.size) } _ E e s' un (fun b o q => Heap.get?_push_of_some _ (Heap.get?_push_of_some _ q)) rfl hq'
  | ok fl =>
    cases fl with
    | ret u =>
      obtain ⟨v, H', os, bare, u3, hok, rv, ev, q3⟩ := hq'
      subst ev
      exact ⟨rv, V.ref (s.heap.objs.size + 1), H', os, bare, un.trans u3, hok, rfl, q3⟩
    | next => exact False.elim hq'
    | brk => exact False.elim hq'
    | cont => exact False.elim hq'
end

section
variable {X : Cx} {k : Nat} {u : Value} {ks : List Str} {sp : Sp} {spk : SpK} {W : WX} {x m f : Str} {p p2 pos apos : Pos} {e o : Expr} {es : List Expr} {kws : List Keyword} {ta te : TE} {t tk : TA} {pl : Sem Bool}
theorem run_callX {pins : List (Addr × Obj)} {σ : L2.St} {H : Hp} {s : Shared} {Q : VK} {us ws : List Value} {vs zs : List V}
    (F : CallX X.prog X.w X.K X.mg X.base k u ks spk) (hr : Room k X.A) (tkW : Takes X W) (I : Inv X pins σ H s) (r : Vals vs us) (rz : Vals zs ws) (h : spk vs zs H Q fun cls d H' => W cls d σ H') :
    wpAny (model X.prog X.w) X.A (call u us (ks.zip ws)) (EP X pins σ Q) X.xe s := by
  refine wpAny_call (codeAny_mono (F X.A X.stack s H us ws vs zs Q _ hr I.env0 r rz h) ?_)
  intro res s' hq
  match res, hq with
  | .error e, hq => exact tkW e s' (XE.of_call I (fun _ _ _ z => z) hq)
  | .ok (.ret u), hq => exact I.after hq
/-- f(e, .., k = v, ..) | f(k = v, ..) | f() -/
theorem pe_cx (F : CallX X.prog X.w X.K X.mg X.base k u ks spk) (hr : Room k X.A) (hg : Gl X x) (hm : X.mg x = some u)
    (hk : PySem.W.keepIn X.K u = true) (tkW : Takes X W) (ha : PA X (e :: es) t) (hkw : PK X kws tk)
    (hall : (backToKw pos (keywordEach kws X.env)).all (·.1.isSome) = true := by rfl) (hks : (backToKw pos (keywordEach kws X.env)).filterMap (·.1) = ks := by rfl)
    (hdb : (x == ("__debug__" : Str)) = false := by decide) (he : starEach (e :: es) X.env = (false, eval e X.env) :: starEach es X.env := by rfl)
    (hpl : ((backTo pos (starEach (e :: es) X.env)).any (·.1) || (backToKw pos (keywordEach kws X.env)).any (·.1.isNone)) = false := by rfl) :
    PE X (.Call (.Name x p) (e :: es) kws pos) (tCaK spk W t tk) where
  run := by
    intro pins s σ H Q I h
    refine wpAny_Call_Name_kw (ld_glob I hg hm ?_ hdb)
    refine PySem.W.callWith_KW (h₀ := X.base) I.ok.mod.kin hk hall (thn (ha.run pos pins s σ H _ I h) ?_) hpl he
    rintro us s1 ⟨vs, H1, I1, r, q⟩
    refine thn (hkw.run pos pins s1 σ H1 _ I1 q) ?_
    rintro ws s2 ⟨zs, H2, I2, rz, q2⟩
    rw [hks]
    exact ⟨I2.kIn, run_callX F hr tkW I2 r rz q2⟩
theorem pe_cx0 (F : CallX X.prog X.w X.K X.mg X.base k u ks spk) (hr : Room k X.A) (hg : Gl X x) (hm : X.mg x = some u)
    (hk : PySem.W.keepIn X.K u = true) (tkW : Takes X W) (hkw : PK X kws tk)
    (hall : (backToKw pos (keywordEach kws X.env)).all (·.1.isSome) = true := by rfl) (hks : (backToKw pos (keywordEach kws X.env)).filterMap (·.1) = ks := by rfl)
    (hdb : (x == ("__debug__" : Str)) = false := by decide)
    (hpl : ((backTo pos (starEach [] X.env)).any (·.1) || (backToKw pos (keywordEach kws X.env)).any (·.1.isNone)) = false := by rfl) :
    PE X (.Call (.Name x p) [] kws pos) (tCaK spk W tNil tk) where
  run := by
    intro pins s σ H Q I h
    refine wpAny_Call_Name_kw (ld_glob I hg hm ?_ hdb)
    refine PySem.W.callWith_KW0 (h₀ := X.base) I.ok.mod.kin hk hall (thn (hkw.run pos pins s σ H _ I h) ?_) hpl
    rintro ws s2 ⟨zs, H2, I2, rz, q2⟩
    rw [hks]
    exact ⟨I2.kIn, run_callX (us := []) (vs := []) F hr tkW I2 .nil rz q2⟩
theorem pe_co0 (F : BJ.CallO X.prog X.w X.K X.mg X.base k u sp) (hr : Room k X.A) (hg : Gl X x) (hm : X.mg x = some u)
    (hk : PySem.W.keepIn X.K u = true) (tkW : Takes X W) (hdb : (x == ("__debug__" : Str)) = false := by decide) : PE X (.Call (.Name x p) [] [] pos) (tCa sp W tNil) where
  run := by
    intro pins s σ H Q I h
    refine wpAny_Call_Name_kw (ld_glob I hg hm ?_ hdb)
    exact PySem.W.callWith_K0 I.kIn hk (BJ.run_callO (us := []) (vs := []) F hr tkW I .nil h)
/-- v(*e), v() where v is a name of the def that holds a def or a class of the text -/
def tVs (X : Cx) (W : WX) (i : Nat) (te : TE) : TE := fun σ H Q => ∃ (u : Addr) (k : Nat) (sp : Sp), σ[i]? = some (some (.ref u)) ∧ PySem.W.keepIn X.K (.ref u) = true ∧ BJ.CallO X.prog X.w X.K X.mg X.base k (.ref u) sp ∧ Room k X.A ∧
  te σ H fun y H1 => ∃ a xs, y = V.ref a ∧ (SqT X.K H1 a xs ∨ SqL X.K H1 a xs) ∧ sp xs H1 Q fun cls d H' => W cls d σ H'
theorem pe_vs {i : Nat} {sp_ : Pos} (hN : X.N[i]? = some x) (hv : Vis X.env.scope x) (tkW : Takes X W) (he : PE X e te) (hd : (x == ("__debug__" : Str)) = false := by decide) (hcd : (x == ("__classdict__" : Str)) = false := by decide)
    (hst : starEach [.Starred e sp_] X.env = [(true, eval e X.env)] := by rfl) :
    PE X (.Call (.Name x p) [.Starred e sp_] [] pos) (tVs X W i te) where
  run := by
    rintro pins s σ H Q I ⟨u, k, sp, hi, hk, F, hr, h⟩
    refine wpAny_Call_Name_kw (thn ((pe_var (pos := p) (i := i) hN hv hd hcd).run pins s σ H (fun v H1 => v = .ref u ∧ H1 = H) I ⟨.ref u, hi, rfl, rfl⟩) ?_)
    rintro uu s1 ⟨v, H1, I1, r1, rfl, eH⟩
    subst eH
    cases (show uu = Value.ref u from r1)
    refine PySem.W.callWith_S (h₀ := X.base) I1.ok.mod.kin hk (thn (he.run pins s1 σ H1 _ I1 h) fun v s2 ⟨y, H2, I2, ry, a, xs, ey, hxs, q⟩ => ?_) hst
    subst ey
    obtain rfl : v = Value.ref a := ry
    exact star_any I2 hxs fun us s3 I3 rv => ⟨I3.kIn, BJ.run_callO F hr tkW I3 rv q⟩
def tV0 (X : Cx) (W : WX) (i : Nat) : TE := fun σ H Q => ∃ (u : Addr) (k : Nat) (sp : Sp), σ[i]? = some (some (.ref u)) ∧ PySem.W.keepIn X.K (.ref u) = true ∧ BJ.CallO X.prog X.w X.K X.mg X.base k (.ref u) sp ∧ Room k X.A ∧ sp [] H Q fun cls d H' => W cls d σ H'
theorem pe_v0 {i : Nat} (hN : X.N[i]? = some x) (hv : Vis X.env.scope x) (tkW : Takes X W) (hd : (x == ("__debug__" : Str)) = false := by decide) (hcd : (x == ("__classdict__" : Str)) = false := by decide) :
    PE X (.Call (.Name x p) [] [] pos) (tV0 X W i) where
  run := by
    rintro pins s σ H Q I ⟨u, k, sp, hi, hk, F, hr, h⟩
    refine wpAny_Call_Name_kw (thn ((pe_var (pos := p) (i := i) hN hv hd hcd).run pins s σ H (fun v H1 => v = .ref u ∧ H1 = H) I ⟨.ref u, hi, rfl, rfl⟩) ?_)
    rintro uu s1 ⟨v, H1, I1, r1, rfl, eH⟩
    subst eH
    cases (show uu = Value.ref u from r1)
    exact PySem.W.callWith_K0 I1.kIn hk (BJ.run_callO (us := []) (vs := []) F hr tkW I1 .nil h)
/-- o.m(..): the receiver's class and the method's promise are told by the reading -/
def tMe (X : Cx) (m : Str) (W : WX) (ta : TE) (t tk : TA) (ks : List Str) : TE := fun σ H Q => ta σ H fun x H1 => ∃ (a C dx g : Addr) (fs : List (Str × V)) (k : Nat) (spk : SpK), x = .ref a ∧ H1 a = some (.ins C dx fs) ∧ fs.lookup m = none ∧ Cls X.K C ∧ Meth X.K C m g ∧
  CallX X.prog X.w X.K X.mg X.base k (.ref g) ks spk ∧ Room k X.A ∧ t σ H1 fun vs H2 => tk σ H2 fun zs H3 => spk (x :: vs) zs H3 Q fun cls d H' => W cls d σ H'
theorem pe_me (he : PE X o ta) (tkW : Takes X W) (ha : PA X (e :: es) t) (hkw : PK X kws tk)
    (hall : (backToKw pos (keywordEach kws X.env)).all (·.1.isSome) = true := by rfl) (hks : (backToKw pos (keywordEach kws X.env)).filterMap (·.1) = ks := by rfl)
    (hst : starEach (e :: es) X.env = (false, eval e X.env) :: starEach es X.env := by rfl)
    (hpl : ((backTo pos (starEach (e :: es) X.env)).any (·.1) || (backToKw pos (keywordEach kws X.env)).any (·.1.isNone)) = false := by rfl)
    (ht : eval (.Call (.Attribute o m apos) (e :: es) kws pos) X.env = (do
      let ov ← eval o X.env
      standAt apos.atName
      let (f, first) ← holding [ov] (getMethod ov m pl)
      callWith pos f first (backTo pos (starEach (e :: es) X.env)) (backToKw pos (keywordEach kws X.env))) := by rfl) :
    PE X (.Call (.Attribute o m apos) (e :: es) kws pos) (tMe X m W ta t tk ks) := by
  refine ⟨fun pins s σ H Q I h => ?_⟩
  refine PySem.W.methodCall_KW (pl := pl) (thn (he.run pins s σ H _ I h) fun u s1 ⟨x, H1, I1, rx, a, C, dx, g, fs, k, spk, ex, ea, l, c, hm, F, hr, q⟩ => ?_) ht
  subst ex
  obtain rfl : u = Value.ref a := rx
  refine getmeth_ok I1 ea c hm l ?_
  refine PySem.W.callWith_KW (first := [.ref a]) (h₀ := X.base) I.ok.mod.kin hm.kp hall (thn (ha.run pos pins s1 σ H1 _ I1 q) fun us s2 ⟨vs, H2, I2, r, q2⟩ => ?_) hpl hst
  refine thn (hkw.run pos pins s2 σ H2 _ I2 q2) ?_
  rintro ws s3 ⟨zs, H3, I3, rz, q3⟩
  rw [hks]
  exact ⟨I3.kIn, run_callX (us := .ref a :: us) (vs := .ref a :: vs) F hr tkW I3 (.cons rfl r) rz q3⟩
theorem pe_me0 (he : PE X o ta) (tkW : Takes X W) (hkw : PK X kws tk)
    (hall : (backToKw pos (keywordEach kws X.env)).all (·.1.isSome) = true := by rfl) (hks : (backToKw pos (keywordEach kws X.env)).filterMap (·.1) = ks := by rfl)
    (hpl : ((backTo pos (starEach [] X.env)).any (·.1) || (backToKw pos (keywordEach kws X.env)).any (·.1.isNone)) = false := by rfl)
    (ht : eval (.Call (.Attribute o m apos) [] kws pos) X.env = (do
      let ov ← eval o X.env
      standAt apos.atName
      let (f, first) ← holding [ov] (getMethod ov m pl)
      callWith pos f first (backTo pos (starEach [] X.env)) (backToKw pos (keywordEach kws X.env))) := by rfl) :
    PE X (.Call (.Attribute o m apos) [] kws pos) (tMe X m W ta tNil tk ks) := by
  refine ⟨fun pins s σ H Q I h => ?_⟩
  refine PySem.W.methodCall_KW (pl := pl) (thn (he.run pins s σ H _ I h) fun u s1 ⟨x, H1, I1, rx, a, C, dx, g, fs, k, spk, ex, ea, l, c, hm, F, hr, q⟩ => ?_) ht
  subst ex
  obtain rfl : u = Value.ref a := rx
  refine getmeth_ok I1 ea c hm l ?_
  refine PySem.W.callWith_KW0 (first := [.ref a]) (h₀ := X.base) I.ok.mod.kin hm.kp hall (thn (hkw.run pos pins s1 σ H1 _ I1 q) ?_) hpl
  rintro ws s3 ⟨zs, H3, I3, rz, q3⟩
  rw [hks]
  exact ⟨I3.kIn, run_callX (us := [.ref a]) (vs := [.ref a]) F hr tkW I3 (.cons rfl .nil) rz q3⟩
/-- o.f, a property: its def raises nothing -/
def tPr (X : Cx) (f : Str) (ta : TE) : TE := fun σ H Q => ta σ H fun x H1 => ∃ (a C dx p g : Addr) (fs : List (Str × V)) (k : Nat) (sp : Sp), x = .ref a ∧ H1 a = some (.ins C dx fs) ∧ Cls X.K C ∧ PropOf X.K C f p g ∧
  BJ.CallO X.prog X.w X.K X.mg X.base k (.ref g) sp ∧ Room (k + 1) X.A ∧ sp [x] H1 Q fun _ _ _ => False
theorem pe_pr (he : PE X o ta) (hab : attributeBase o f X.env (eval o X.env) = eval o X.env := by rfl) : PE X (.Attribute o f pos) (tPr X f ta) := by
  refine ⟨fun pins s σ H Q I h => ?_⟩
  refine attr_of hab (thn (he.run pins s σ H _ I h) fun u s1 ⟨x, H1, I1, rx, a, C, dx, p, g, fs, k, sp, ex, ea, c, hp, F, hr, q⟩ => ?_)
  subst ex
  obtain rfl : u = Value.ref a := rx
  obtain ⟨mA, O, _, _, _, _⟩ := ins_get I1.hok ea
  obtain ⟨od, J, _⟩ := O.look
  obtain ⟨rest, hrec⟩ := hp.rec_
  have I2 := I1.tok (s1.toks + 1)
  have hc : (PySem.W.clsIn X.K C).isSome = true := by
    obtain ⟨cd, hc, _⟩ := PySem.W.any_some c.hd
    rw [hc]
    rfl
  refine PySem.W.get_bind I1.kIn J (PySem.W.plainGet_of (c.get f)).1 (PySem.W.findObj_data hc hp.at_ hp.get hp.tak) (PySem.W.plainGet_of (c.get f)).2 (wpAny_call (PySem.W.prop_get (s := { s1 with toks := s1.toks + 1 }) I1.kIn hrec ?_))
  refine codeAny_mono (F X.A.in1 X.stack { s1 with toks := s1.toks + 1 } H1 [.ref a] [.ref a] Q _ hr.in1 I2.env0.in1 (.cons rfl .nil) q) fun r s' hq => ?_
  cases r with
  | error er =>
    obtain ⟨_, _, _, _, _, _, _, _, _, _, _, _, z⟩ := hq
    exact z.elim
  | ok fl =>
    cases fl with
    | ret u =>
      obtain ⟨v, H', I3, rv, q3⟩ := I2.after hq
      show wpAny _ _ (handedOut u) _ _ _
      rw [PySem.W.handedOut_of (handed_of rv)]
      exact wpAny_pure ⟨v, H', I3, rv, q3⟩
    | next => exact False.elim hq
    | brk => exact False.elim hq
    | cont => exact False.elim hq
/-- C.m(..), a classmethod of the class at C -/
def tCm (sp : SpK) (C : Addr) (W : WX) (ta : TE) (t tk : TA) : TE := fun σ H Q => ta σ H fun x H1 => x = .ref C ∧ t σ H1 fun vs H2 => tk σ H2 fun zs H3 => sp (.ref C :: vs) zs H3 Q fun cls d H' => W cls d σ H'
theorem run_cmX {C g : Addr} {pins : List (Addr × Obj)} {σ : L2.St} {H : Hp} {s : Shared} {q : Addr} {Q : VK} {us ws : List Value} {vs zs : List V} (F : CallX X.prog X.w X.K X.mg X.base k (.ref g) ks spk) (hr : Room k X.A) (tkW : Takes X W) (I : Inv X ((q, PySem.W.methodObj (.ref g) (.ref C)) :: pins) σ H s)
    (r : Vals vs us) (rz : Vals zs ws) (h : spk (.ref C :: vs) zs H Q fun cls d H' => W cls d σ H') : wpAny (model X.prog X.w) X.A (call (.ref q) us (ks.zip ws)) (EP X pins σ Q) X.xe s := by
  have z : wpAny (model X.prog X.w) X.A (call (.ref q) us (ks.zip ws)) (EP X ((q, PySem.W.methodObj (.ref g) (.ref C)) :: pins) σ Q) X.xe s := by
    refine wpAny_call (PySem.W.method_call (pin_at I) (codeAny_mono (F X.A X.stack s H (.ref C :: us) ws (.ref C :: vs) zs Q _ hr I.env0 (.cons rfl r) rz h) ?_))
    intro res s' hq
    match res, hq with
    | .error e, hq => exact tkW e s' (XE.of_call I (fun _ _ _ z => z) hq)
    | .ok (.ret u), hq => exact I.after hq
  exact thn z fun _ _ y => unpinE y
theorem pe_cm {C p g : Addr} {mc : Value} (he : PE X o ta) (r : CRead X.K C mc) (c : CMet X.K C mc m p g) (F : CallX X.prog X.w X.K X.mg X.base k (.ref g) ks spk) (hr : Room k X.A) (tkW : Takes X W) (ha : PA X (e :: es) t) (hkw : PK X kws tk)
    (hall : (backToKw pos (keywordEach kws X.env)).all (·.1.isSome) = true := by rfl) (hks : (backToKw pos (keywordEach kws X.env)).filterMap (·.1) = ks := by rfl)
    (hst : starEach (e :: es) X.env = (false, eval e X.env) :: starEach es X.env := by rfl)
    (hpl : ((backTo pos (starEach (e :: es) X.env)).any (·.1) || (backToKw pos (keywordEach kws X.env)).any (·.1.isNone)) = false := by rfl)
    (ht : eval (.Call (.Attribute o m apos) (e :: es) kws pos) X.env = (do
      let ov ← eval o X.env
      standAt apos.atName
      let (f, first) ← holding [ov] (getMethod ov m pl)
      callWith pos f first (backTo pos (starEach (e :: es) X.env)) (backToKw pos (keywordEach kws X.env))) := by rfl) :
    PE X (.Call (.Attribute o m apos) (e :: es) kws pos) (tCm spk C W ta t tk) := by
  refine ⟨fun pins s σ H Q I h => ?_⟩
  refine PySem.W.methodCall_KW (pl := pl) (thn (he.run pins s σ H _ I h) fun u s1 ⟨x, H1, I1, rx, ex, q⟩ => ?_) ht
  subst ex
  obtain rfl : u = Value.ref C := rx
  refine getmethcm_ok I1 r c fun s2 I2 => ?_
  refine PySem.W.callWith_of hpl (PySem.W.keeps_M (self := .ref C) c.fi) (evalArgs_kw2 hall (thn (ha.run pos _ s2 σ H1 _ I2 q) fun us s3 ⟨vs, H2, I3, rv, q2⟩ => ?_) hst)
  refine thn (hkw.run pos _ s3 σ H2 _ I3 q2) ?_
  rintro ws s4 ⟨zs, H3, I4, rz, q3⟩
  rw [hks]
  exact ⟨⟨pin_at I4, I4.kIn⟩, run_cmX F hr tkW I4 rv rz q3⟩
theorem pe_cm0 {C p g : Addr} {mc : Value} (he : PE X o ta) (r : CRead X.K C mc) (c : CMet X.K C mc m p g) (F : CallX X.prog X.w X.K X.mg X.base k (.ref g) ks spk) (hr : Room k X.A) (tkW : Takes X W) (hkw : PK X kws tk)
    (hall : (backToKw pos (keywordEach kws X.env)).all (·.1.isSome) = true := by rfl) (hks : (backToKw pos (keywordEach kws X.env)).filterMap (·.1) = ks := by rfl)
    (hpl : ((backTo pos (starEach [] X.env)).any (·.1) || (backToKw pos (keywordEach kws X.env)).any (·.1.isNone)) = false := by rfl)
    (ht : eval (.Call (.Attribute o m apos) [] kws pos) X.env = (do
      let ov ← eval o X.env
      standAt apos.atName
      let (f, first) ← holding [ov] (getMethod ov m pl)
      callWith pos f first (backTo pos (starEach [] X.env)) (backToKw pos (keywordEach kws X.env))) := by rfl) :
    PE X (.Call (.Attribute o m apos) [] kws pos) (tCm spk C W ta tNil tk) := by
  refine ⟨fun pins s σ H Q I h => ?_⟩
  refine PySem.W.methodCall_KW (pl := pl) (thn (he.run pins s σ H _ I h) fun u s1 ⟨x, H1, I1, rx, ex, q⟩ => ?_) ht
  subst ex
  obtain rfl : u = Value.ref C := rx
  refine getmethcm_ok I1 r c fun s2 I2 => ?_
  refine PySem.W.callWith_of hpl (PySem.W.keeps_M (self := .ref C) c.fi) (evalArgs_kw2_nil hall (thn (hkw.run pos _ s2 σ H1 _ I2 q) ?_))
  rintro ws s4 ⟨zs, H3, I4, rz, q3⟩
  rw [hks]
  exact ⟨⟨pin_at I4, I4.kIn⟩, run_cmX (us := []) (vs := []) F hr tkW I4 .nil rz q3⟩
end
end BJ

/-! generators whose body is one «yield from»; what consumes them may change objects of its own between two items -/
namespace BJ
open PySem PySem.Spec PyProof.Rows L2 Evl GenW
open PySem.W (Frag)
/-- while a generator sleeps only the objects at ws change -/
structure Doze (ws : List Addr) (s t : Shared) : Prop where
  os : t.os = s.os
  bare : AllBare t.gens
  keep : ∀ b o, b ∉ ws → s.heap.get? b = some o → t.heap.get? b = some o
  there : ∀ b ∈ ws, ∃ o, t.heap.get? b = some o ∧ ∀ v, o.data ≠ .cell v
/-- what stands around a generator that was made at sc, its object go at a: the heap was H, is H' -/
structure Cn (P : Program) (w : World) (outer : List Env) (H H' : Hp) (sc : Shared) (ws : List Addr) (a : Addr) (go : Obj) (s : Shared) : Prop where
  os : s.os = sc.os
  bare : AllBare s.gens
  un : Un (frs outer) [] H H' sc.heap s.heap
  hok : HOk P w H' s.heap
  lim : s.heap.NoLimit
  gen : s.heap.get? a = some go
  off : ∀ b ∈ ws, H' b = none
section
variable {P : Program} {w : World} {outer : List Env} {H H' : Hp} {sc s t : Shared} {ws : List Addr} {a : Addr} {go : Obj}
/-- the objects at ch change, none of them known to anybody -/
theorem Cn.step (c : Cn P w outer H H' sc ws a go s) {ch : List Addr} (ho : t.os = s.os) (hb : AllBare t.gens) (k : ∀ b o, b ∉ ch → s.heap.get? b = some o → t.heap.get? b = some o)
    (hf : ∀ b ∈ ch, sc.heap.objs.size ≤ b ∧ H' b = none ∧ b ≠ cStatics ∧ b ≠ a) : Cn P w outer H H' sc ws a go t := by
  have old : ∀ b o, sc.heap.get? b = some o → b ∉ ch := fun b o e hm => absurd (Nat.lt_of_lt_of_le (Heap.lt_size e) (hf b hm).1) (Nat.lt_irrefl _)
  refine ⟨ho.trans c.os, hb, ⟨fun b o e n h1 h2 => k b o (old b o e) (c.un.keep b o e n h1 h2), fun b o e n h1 h2 => ?_, c.un.free, fun b o e hx => ?_, c.un.tups, c.un.frzs, c.un.tbls⟩, fun b u q => ?_, ?_, k a go (fun hm => (hf a hm).2.2.2 rfl) c.gen, c.off⟩
  · obtain ⟨sl, q⟩ := c.un.slot b o e n h1 h2
    exact ⟨sl, k b _ (old b o e) q⟩
  · obtain ⟨o', q⟩ := c.un.there b o e hx
    exact ⟨o', k b _ (old b o e) q⟩
  · refine (c.hok b u q).stay (fun x y hc e => k x y (fun hm => ?_) e) (fun _ z => z) (fun _ _ z => z)
    have n := (hf x hm).2.1
    rcases hc with z | z
    · rw [z, q] at n
      cases n
    · rw [z] at n
      cases n
  · obtain ⟨mc, hns, hnn⟩ := c.lim
    exact ⟨mc, hns.at' fun o e => k _ o (fun hm => (hf _ hm).2.2.1 rfl) e, hnn⟩
end
/-- the protocol of a generator that hands out xs: item n from the end -/
def YItm (P : Program) (w : World) (outer : List Env) (H : Hp) (sc : Shared) (ws : List Addr) (a : Addr) (go : Obj) (xs : List V) (Q : Hp → Prop) : Protocol := fun n s₀ v s kap =>
  ∃ (x : V) (H' : Hp), xs[xs.length - (n + 1)]? = some x ∧ RelV x v ∧ n < xs.length ∧ Cn P w outer H H' sc ws a go s ∧ Q H' ∧ (∀ b ∈ ws, ∀ o, s₀.heap.get? b = some o → s.heap.get? b = some o) ∧ ∀ t, Doze ws s t → kap (.send .none) t
def YEnd (P : Program) (w : World) (outer : List Env) (H : Hp) (sc : Shared) (ws : List Addr) (a : Addr) (go : Obj) (Q : Hp → Prop) : GenEnd := fun n s₀ r s =>
  (r = .ok (.ret .none) ∨ r = .ok .next) ∧ n = 0 ∧ ∃ H', Cn P w outer H H' sc ws a go s ∧ Q H' ∧ ∀ b ∈ ws, ∀ o, s₀.heap.get? b = some o → s.heap.get? b = some o
section
variable {X : Cx} {A : Around} {outer : List Env} {H H' : Hp} {sc : Shared} {ws : List Addr} {a it : Addr} {go : Obj} {fs : List Frame} {xs : List V} {St : Nat → Heap → Prop} {Q : Hp → Prop} {R : GenEnd}
/-- it hands out what is left of xs -/
theorem seg_yg (q : QIt X H' it xs St) (hq : Q H') (hw : ∀ b ∈ ws, sc.heap.objs.size ≤ b ∧ b ≠ cStatics ∧ b ≠ a) (hit : sc.heap.objs.size ≤ it) (hH : H' it = none) (hs : it ≠ cStatics) (hia : it ≠ a) (hiw : it ∉ ws)
    (ho : (A.over (.builtin "proto.yield_from" ⟨[.ref it, .bool false, .none], []⟩) fs).handled = none) (hsp : splitAtGen fs = none) (hgd : fs.any Frame.guarded = false)
    (hend : ∀ (s₀ s : Shared), Cn X.prog X.w outer H H' sc ws a go s → (∀ b ∈ ws, ∀ o, s₀.heap.get? b = some o → s.heap.get? b = some o) →
      Seg (model X.prog X.w) A R (YItm X.prog X.w outer H sc ws a go xs Q) 0 s₀ (.builtin "proto.yield_from" ⟨[.ref it, .bool false, .none], []⟩) (.pure (.done (.ret .none))) fs s) :
    ∀ (n : Nat) (s₀ s : Shared), n ≤ xs.length → Cn X.prog X.w outer H H' sc ws a go s → (∀ b ∈ ws, ∀ o, s₀.heap.get? b = some o → s.heap.get? b = some o) → St (xs.length - n) s.heap →
      Seg (model X.prog X.w) A R (YItm X.prog X.w outer H sc ws a go xs Q) n s₀ (.builtin "proto.yield_from" ⟨[.ref it, .bool false, .none], []⟩) ((model X.prog X.w).den (.builtin "proto.yield_from" ⟨[.ref it, .bool false, .none], []⟩)) fs s := by
  obtain ⟨T, hT, hcl, hng⟩ := q.ty
  have turn : ∀ {s : Shared} {h' : Heap} {tk : Nat}, Cn X.prog X.w outer H H' sc ws a go s → (∀ b o, b ≠ it → s.heap.get? b = some o → h'.get? b = some o) → Cn X.prog X.w outer H H' sc ws a go { s with heap := h', toks := tk } := fun {s h' tk} c k =>
    c.step (t := { s with heap := h', toks := tk }) (ch := [it]) rfl c.bare (fun b o hb e => k b o (fun z => hb (by rw [z]; exact List.mem_singleton.mpr rfl)) e) (fun b hb => by rw [List.mem_singleton.mp hb]; exact ⟨hit, hH, hs, hia⟩)
  intro n
  induction n with
  | zero =>
    intro s₀ s hn c k0 st
    rw [Nat.sub_zero] at st
    rw [den_yf]; unfold Builtin.«proto.yield_from»; (try dsimp only); refine seg_bind (wpAny_pure ?_); (try dsimp only)
    refine seg_bind (wpAny_attempt (wpAny_holding ?_)); rw [if_neg Bool.false_ne_true, if_pos (show (Value.none == Value.none) = true from rfl)]
    refine wpAny_bind (wpAny_rule (wpAny_bind ?_)); refine q.done _ s _ _ ho st fun e h' tk hS hk => ?_
    obtain ⟨x, o, vs, rfl, hoa, hcls, hdat, h5⟩ := hS
    (try dsimp only); refine seg_bind (wpAny_endsTurn hoa hcls ?_); (try dsimp only); rw [if_pos rfl]
    (first | refine seg_bind (wpAny_rule ?_) | (rw [if_neg Bool.false_ne_true]; refine seg_bind (wpAny_rule ?_)) | (rw [if_neg Bool.false_ne_true]; refine seg_bind (wpAny_pure ?_); refine seg_bind (wpAny_rule ?_)))
    refine seg_bind (wpAny_field hoa hdat h5 ?_)
    exact hend s₀ _ (turn c hk) fun b hb o e => hk b o (fun z => hiw (z ▸ hb)) (k0 b hb o e)
  | succ n ih =>
    intro s₀ s hn c k0 st
    obtain ⟨x, hx⟩ : ∃ x, xs[xs.length - (n + 1)]? = some x := ⟨xs[xs.length - (n + 1)]'(by omega), List.getElem?_eq_getElem (by omega)⟩
    rw [den_yf]; unfold Builtin.«proto.yield_from»; (try dsimp only); refine seg_bind (wpAny_pure ?_); (try dsimp only)
    refine seg_bind (wpAny_attempt (wpAny_holding ?_)); rw [if_neg Bool.false_ne_true, if_pos (show (Value.none == Value.none) = true from rfl)]
    refine wpAny_bind (wpAny_rule (wpAny_bind ?_)); refine q.item _ _ x s _ _ ho hx st fun v h' tk rv st' hk => ?_
    have e1 : xs.length - (n + 1) + 1 = xs.length - n := by omega
    rw [e1] at st'
    have c' := turn (tk := tk) c hk
    obtain ⟨oi, hoi, hoc⟩ := hT _ h' st'
    refine wpAny_pure ?_; (try dsimp only); refine seg_bind (wpAny_typeOf (T := T) ⟨oi, hoi, hoc⟩ ?_); (try dsimp only)
    (first | (refine seg_bind (wpAny_of_eq hcl ?_); refine seg_bind (wpAny_pure ?_)) | refine seg_bind (wpAny_bind (wpAny_of_eq hcl (wpAny_pure ?_))) | refine seg_bind (wpAny_of_eq hcl ?_))
    (try dsimp only); refine seg_bind (wpAny_sleptOver hoi hoc hng ?_); refine seg_yield hsp rfl hgd ?_
    refine ⟨x, H', hx, rv, by omega, c', hq, fun b hb o e => hk b o (fun z => hiw (z ▸ hb)) (k0 b hb o e), fun t z => ?_⟩
    have st2 : St (xs.length - n) t.heap := q.frame _ h' t.heap st' fun b o hb e => z.keep b o (fun hm => by
      rcases hb with y | y
      · exact hiw (y ▸ hm)
      · exact y (c'.off b hm)) e
    obtain ⟨oj, hoj, hojc⟩ := hT _ t.heap st2
    show Seg _ _ _ _ n t _ (Builtin.Generator.sleptOver (.ref it) false >>= fun _ => _) fs t
    refine seg_bind (wpAny_sleptOver hoj hojc hng ?_); (try dsimp only); refine seg_bind (wpAny_pure ?_)
    have c2 : Cn X.prog X.w outer H H' sc ws a go t := c'.step (ch := ws) z.os z.bare z.keep fun b hb => ⟨(hw b hb).1, c'.off b hb, (hw b hb).2.1, (hw b hb).2.2⟩
    exact seg_again (plainId_quiet plain_yf _) (ih t t (by omega) c2 (fun _ _ _ e => e) st2)
end
end BJ

/-! the call of such a generator's def -/
namespace BJ
open PySem PySem.Spec PyProof.Rows L2 Evl GenW
open PySem.W (Frag)
/-- a generator def's promise: the arguments, the heap, what it hands out, what is wanted of the heap -/
abbrev SpY := List V → Hp → List V → (Hp → Prop) → Prop
/-- a generator that has not begun, and how it goes on -/
def YMade (P : Program) (w : World) (k : Nat) (outer : List Env) (H : Hp) (s : Shared) (xs : List V) (Q : Hp → Prop) (u : Value) (s' : Shared) : Prop :=
  ∃ (a : Addr) (g : Nat) (c : Code) (go : Obj), u = .ref a ∧ s.heap.objs.size ≤ a ∧ a < s'.heap.objs.size ∧ s'.heap.get? a = some go ∧ (∀ h : Heap, h.get? a = some go → h.IsGen a g) ∧ s'.gens[g]? = some (.fresh c) ∧ s'.os = s.os ∧ AllBare s'.gens ∧ s'.heap.NoLimit ∧
    (∀ b o, s.heap.get? b = some o → s'.heap.get? b = some o) ∧ ∀ (A : Around) (ws : List Addr) (t : Shared), Room k A → A.frames = some outer → (∀ b ∈ ws, s'.heap.objs.size ≤ b) → (∀ b o, s'.heap.get? b = some o → t.heap.get? b = some o) →
      (∀ b ∈ ws, ∃ o, t.heap.get? b = some o ∧ ∀ v, o.data ≠ .cell v) → t.os = s.os → AllBare t.gens → Seg (model P w) A (YEnd P w outer H s ws a go Q) (YItm P w outer H s ws a go xs Q) xs.length t c ((model P w).den c) [] t
def YFn (P : Program) (w : World) (K : Frag) (mg : Str → Option Value) (base : Heap) (k : Nat) (f : Addr) (sp : SpY) : Prop :=
  ∀ (A : Around) (outer : List Env) (s : Shared) (H : Hp) (us : List Value) (vs xs : List V) (Q : Hp → Prop), Room k A → Env0 P w K mg base A outer s H → Vals vs us → sp vs H xs Q →
    codeAny (model P w) A (.call (.ref f) ⟨us, []⟩) (fun r s' => match r with | .ok (.ret u) => YMade P w k outer H s xs Q u s' | _ => False) s
section
variable {P : Program} {w : World} {K : Frag} {mg : Str → Option Value} {base : Heap}
theorem yfn_of {k : Nat} {f : Addr} {name qual : Str} {params : Arguments} {body : List Stmt} {e : Expr} {yp pos : Pos} {scope : Scope} {dV kV doc pm cdv ct oc : Value} {an od : Option Addr} {osl : Array (Option Value)} {N ps : List Str} {sp : SpY}
    (lk : K.lookup f = some ⟨oc, od, .func (PySem.W.fnOf name qual params body scope dV kV doc pm an cdv ct), osl⟩) (hbo : body = [.Expr (.YieldFrom e yp) pos]) (hcd : PySem.W.codeIn K cdv qual = true) (S : GScope N ps scope) (hi : ∀ n : Addr, interactive (envOfC qual scope n f cdv) = false) (hb : Binds K (PySem.W.fnOf name qual params body scope dV kV doc pm an cdv ct) ps [])
    (len : ∀ vs H xs Q, sp vs H xs Q → vs.length = ps.length)
    (hbody : ∀ (A : Around) (outer : List Env) (s : Shared) (H : Hp) (vs xs : List V) (Q : Hp → Prop) (pn : List (Addr × Obj)), Room k (A.deeper (envOfC qual scope s.heap.objs.size f cdv)) → sp vs H xs Q →
      ∃ t, YfE (gcxOf P w K mg base N qual scope f cdv A outer s H (fun _ _ _ => False) pn).nox e t ∧ t (L2.start N vs) H fun ys H' => ys = xs ∧ Q H') : YFn P w K mg base (k + 1) f sp := by
  subst hbo
  intro A outer s H us vs xs Q hr e0 r hsp
  have hl := len _ _ _ _ hsp
  have KX : K.In s.heap := e0.mod.kin.keeps fun b o e => (e0.bs b o e).1
  have lim : s.heap.NoLimit := e0.mod.nolimit.keeps fun b o e => (e0.bs b o e).1
  have hul : (us ++ []).length = ps.length := by rw [List.append_nil, ← r.length, hl]
  have hbind := hb s us KX hul
  rw [List.append_nil] at hbind
  refine codeAny_call_generator hr.depth (KX _ _ lk) rfl S.co S.gen rfl (PySem.W.codeRec_of KX hcd) (hbind _ _ _ _ ?_)
  refine wpAny_newFunctionEnv_cells S.kind (fun y hy => ?_) fun env he s1 x => ?_
  · rcases S.par y.1 (List.of_mem_zip (show (y.1, y.2) ∈ _ from hy)).1 with q | q
    · exact .inl q
    · exact .inr ⟨q, PySem.W.cellsFrom_some _ _ _ (.inl q)⟩
  subst he
  have lim1 : s1.heap.NoLimit := lim.keeps x.toInCall.keep
  refine ⟨lim1, ?_⟩
  obtain ⟨h1, tk, es1, hk1⟩ := x.done
  have os1 : s1.os = s.os := by rw [es1]
  have gen1 : s1.gens = s.gens := by rw [es1]
  have lt1 : s.heap.objs.size < s1.heap.objs.size := x.toInCall.ns.lt
  have kp1 : ∀ b o, s.heap.get? b = some o → s1.heap.get? b = some o := x.toInCall.keep
  have main : ∀ (go : Obj) (nm qn : Value) (tk2 : Nat), go.cls = .type "generator" → go.data = .fields #[.int s1.gens.size 0, nm, qn] → go.slots = #[] → (∀ h : Heap, (h.push go).get? h.objs.size = some go) →
      YMade P w (k + 1) outer H s xs Q (.ref s1.heap.objs.size) { s1 with gens := s1.gens.push (.fresh (.func [.Expr (.YieldFrom e yp) pos] (envOfC qual scope s.heap.objs.size f cdv))), toks := tk2, heap := s1.heap.push go } := by
    intro go nm qn tk2 hgc hgd0 hgs hgp
    have hpushed : (s1.heap.push go).get? s1.heap.objs.size = some go := hgp _
    refine ⟨s1.heap.objs.size, s1.gens.size, _, go, rfl, Nat.le_of_lt lt1, ?_, hpushed, fun h e => ⟨go, nm, qn, e, hgc, hgd0, hgs⟩, Array.getElem?_push_size .., os1, AllBare.push (by rw [gen1]; exact e0.bare) rfl, lim1.keeps fun b o e => Heap.get?_push_of_some _ e, fun b o e => Heap.get?_push_of_some _ (kp1 b o e), ?_⟩
    · show _ < (s1.heap.push _).objs.size
      rw [Heap.size_push]
      exact Nat.lt_succ_self _
    intro Aw ws t hrw hfr hws hkt hwo hos hba
    have hws' : ∀ b ∈ ws, s1.heap.objs.size < b := fun b hb => by
      have := hws b hb
      have z : (s1.heap.push go).objs.size ≤ b := this
      rw [Heap.size_push] at z
      exact z
    have e0w : Env0 P w K mg base Aw outer s H := ⟨hfr, e0.mod, e0.bs, e0.bsz, e0.funs, e0.frf, e0.hok, e0.bare⟩
    have I1 : Inv (gcxOf P w K mg base N qual scope f cdv Aw outer s H (fun _ _ _ => False) []) [] (L2.start N vs) H s1 := inv_startG S hrw.hd e0w hl r x
    have kpt : ∀ b o, s1.heap.get? b = some o → t.heap.get? b = some o := fun b o e => hkt b o (Heap.get?_push_of_some _ e)
    have I2 : Inv (gcxOf P w K mg base N qual scope f cdv Aw outer s H (fun _ _ _ => False) []) [] (L2.start N vs) H t := I1.call' (ch := []) (hos.trans os1.symm) (Un.kept kpt) (I1.hok.kept kpt) hba fun b z => by simp at z
    have hea : t.heap.get? s1.heap.objs.size = some go := hkt s1.heap.objs.size go hpushed
    have young : ∀ b, s1.heap.objs.size ≤ b → H b = none ∧ b ≠ s.heap.objs.size ∧ b ∉ frs outer := fun b hb => ⟨I1.hok.fresh hb, Nat.ne_of_gt (Nat.lt_of_lt_of_le lt1 hb), I1.nofs hb⟩
    have I3 : Inv (gcxOf P w K mg base N qual scope f cdv Aw outer s H (fun _ _ _ => False) [(s1.heap.objs.size, go)]) (pinsAt ws t.heap) (L2.start N vs) H t := Inv.pinnedG I2 fun p hp => by
      rcases List.mem_append.mp hp with z | z
      · rw [List.mem_singleton.mp z]
        obtain ⟨y1, y2, y3⟩ := young s1.heap.objs.size (Nat.le_refl _)
        exact ⟨hea, y1, y2, y3, fun v q => by rw [hgd0] at q; cases q⟩
      · obtain ⟨hb, e⟩ := of_pinsAt z
        obtain ⟨y1, y2, y3⟩ := young p.1 (Nat.le_of_lt (hws' p.1 hb))
        obtain ⟨o, e2, hd⟩ := hwo p.1 hb
        rw [e] at e2
        cases e2
        exact ⟨e, y1, y2, y3, hd⟩
    obtain ⟨ty, hty, hq⟩ := hbody Aw outer s H vs xs Q [(s1.heap.objs.size, go)] (hrw.deeper _) hsp
    have hcs : cStatics < s.heap.objs.size := by
      obtain ⟨mc, hns, _⟩ := lim
      exact hns.lt
    refine seg_func (seg_execs_cons ?_)
    rw [exec_Expr _ _ pos (hi _) rfl]
    refine seg_at (segw_bind2 ?_)
    rw [over_func]
    refine wpAny_mono (hty.run (pinsAt ws t.heap) t _ H _ (I3.wish _) hq) (fun v s3 hv => ?_) fun x s' hx => (show False from hx).elim
    obtain ⟨T, hT, hne, hit⟩ := hv
    refine seg_at ?_
    show Seg _ _ _ _ _ _ _ ((yieldFrom _ v).wrap _ _ id id) [] s3
    unfold yieldFrom
    refine seg_bind_wrap (wpAny_typeOf hT ?_)
    rw [if_neg (by rw [hne]; exact Bool.false_ne_true)]
    refine seg_bind_wrap (wpAny_holding ?_)
    rw [over_func]
    refine wpAny_mono hit (fun u s4 hu => ?_) fun x s' hx => (show False from hx).elim
    obtain ⟨it, H', ys, St, rfl, I4, q1, q2, q3, q4, q5, q6, q7, rfl, hQ⟩ := hu
    refine seg_call fun p => ?_
    have q1' : s.heap.objs.size ≤ it := q1.resolve_left (fun z => by cases z)
    have c4 : Cn P w outer H H' s ws s1.heap.objs.size go s4 := ⟨I4.os, I4.bare, I4.base, I4.hok, I4.nolimit, (I4.pin (s1.heap.objs.size, go) (List.mem_append_left _ (List.mem_singleton.mpr rfl))).1, fun b hb => by
      obtain ⟨o, e, _⟩ := hwo b hb
      exact (I4.pin (b, o) (List.mem_append_right _ (mem_pinsAt hb e))).2.1⟩
    have hitw : it ∉ ws := fun hm => by
      obtain ⟨o, e, _⟩ := hwo it hm
      exact q5 (it, o) (List.mem_append_right _ (mem_pinsAt hm e)) rfl
    have hita : it ≠ s1.heap.objs.size := fun z => q5 (s1.heap.objs.size, go) (List.mem_append_left _ (List.mem_singleton.mpr rfl)) z.symm
    refine seg_yg (X := (gcxOf P w K mg base N qual scope f cdv Aw outer s H (fun _ _ _ => False) [(s1.heap.objs.size, go)]).nox) (outer := outer) (H := H) (sc := s) (ws := ws) (a := s1.heap.objs.size) (go := go) (Q := Q) q7 hQ (fun b hb => ⟨Nat.le_trans (Nat.le_of_lt lt1) (Nat.le_of_lt (hws' b hb)), Nat.ne_of_gt (Nat.lt_of_lt_of_le hcs (Nat.le_trans (Nat.le_of_lt lt1) (Nat.le_of_lt (hws' b hb)))), Nat.ne_of_gt (hws' b hb)⟩)
      q1' q4 (Nat.ne_of_gt (Nat.lt_of_lt_of_le hcs q1')) hita hitw ?_ rfl rfl (fun s₀ s' c k0 => ?_) ys.length t s4 (Nat.le_refl _) c4 (fun b hb o e => (I4.pin (b, o) (List.mem_append_right _ (mem_pinsAt hb e))).1) (by rw [Nat.sub_self]; exact q6)
    · show (Aw.over (.func [.Expr (.YieldFrom e yp) pos] (envOfC qual scope s.heap.objs.size f cdv)) []).handled = none
      rw [over_func]
      exact hrw.hd
    · have fin : Seg (model P w) Aw (YEnd P w outer H s ws s1.heap.objs.size go Q) (YItm P w outer H s ws s1.heap.objs.size go ys Q) 0 s₀ (.func [.Expr (.YieldFrom e yp) pos] (envOfC qual scope s.heap.objs.size f cdv)) (leafOf (.ok (.ret .none))) [] s' :=
        seg_end (.ok (.ret .none)) ⟨.inl rfl, rfl, H', c, hQ, k0⟩
      exact seg_leaf (.ok (.ret .none)) fin
  exact main _ _ _ _ rfl rfl rfl fun h => Heap.get?_push_size _ rfl
end
end BJ

/-! [x for x in g] where g is such a generator -/
namespace BJ
open PySem PySem.Spec PyProof.Rows L2 Evl GenW
open PySem.W (Frag)
/-- an expression whose value is such a generator, not begun -/
abbrev TYx := L2.St → Hp → (List V → Hp → Prop) → Prop
structure PY (X : Cx) (k : Nat) (e : Expr) (ty : TYx) : Prop where
  run : ∀ (pins : List (Addr × Obj)) (s : Shared) (σ : L2.St) (H : Hp) (cont : List V → Hp → Prop), Inv X pins σ H s → ty σ H cont → wpAny (model X.prog X.w) X.A (eval e X.env)
    (fun u s1 => ∃ sc H1 xs, Inv X pins σ H1 sc ∧ YMade X.prog X.w k X.stack H1 sc xs (cont xs) u s1) X.xe s
/-- the comprehension's list and its names are no cells -/
theorem two_there {h : Heap} {D : Addr} {acc : Array Value} {cc : Nat} {m : Str → Option Value} (h1 : h.get? D = some (lstObj acc cc)) (h2 : h.Ns (D + 1) m) : ∀ b ∈ [D, D + 1], ∃ o, h.get? b = some o ∧ ∀ v, o.data ≠ .cell v := fun b hb => by
  simp only [List.mem_cons, List.not_mem_nil, or_false] at hb
  rcases hb with rfl | rfl
  · exact ⟨_, h1, fun v z => nomatch z⟩
  · obtain ⟨o, es, ep, e, d, _⟩ := h2
    exact ⟨o, e, fun v z => by rw [d] at z; cases z⟩
def tLcY (ty : TYx) : TE := fun σ H Q => ty σ H fun xs H1 => xs.length ≤ sizeLine ∧ ∀ D, H1 D = none → sysModules < D → Q (.ref D) (upd H1 D (.lst xs))
section
variable {X : Cx} {k : Nat} {iter : Expr} {ty : TYx} {x : Str} {p1 p2 pos : Pos} {scope : Scope}
theorem pe_lcY (hc : X.calm = true) (h : PY X k iter ty) (hr : Room (k + 1) X.A) (hk : scope.kind = .function) (hn : scope.names = [((".0" : Str), NameKind.local), (x, NameKind.local)]) (hx0 : (x == (".0" : Str)) = false := by decide) (hd : (x == ("__debug__" : Str)) = false := by decide)
    (hs : ∀ y, foldedSetIterable iter X.env y = pure y := by intro _; rfl) : PE X (.ListComp (.Name x p1) [⟨.Name x p2, iter, [], 0⟩] scope pos) (tLcY ty) := by
  refine ⟨fun pins s σ H Q I hq => ?_⟩
  have lk0 : scope.names.lookup (".0" : Str) = some .local := by rw [hn]; rfl
  have lkx : scope.names.lookup x = some .local := by rw [hn, List.lookup_cons, hx0, List.lookup_cons_self]
  refine wpAny_ListComp (fun y hy => ?_) hk (fun y hy e => ?_) (thn (h.run pins s σ H _ I hq) fun u s1 hu => ?_) hs
  · rw [hn] at hy
    simp only [List.mem_cons, List.not_mem_nil, or_false] at hy
    rcases hy with rfl | rfl <;> exact fun z => nomatch z
  · rw [hn] at hy
    simp only [List.mem_cons, List.not_mem_nil, or_false] at hy
    rcases hy with rfl | rfl
    · exact lk0
    · exact lkx
  obtain ⟨sc, H1, xs, Ic, a, g, c, go, rfl, ha1, ha2, hgo, hgen, hgs, hos, hb, hl, hkp, wake⟩ := hu
  refine wpAny_pyIter_gen (hgen _ hgo) ?_
  refine wpAny_newObj_type (newEnv_comp ?_) (by show 0 ≤ sizeLine; decide)
  have hcs : cStatics < s1.heap.objs.size := by
    obtain ⟨mc, hns, _⟩ := hl
    exact hns.lt
  have hsz : sc.heap.objs.size ≤ s1.heap.objs.size := Nat.le_of_lt (Nat.lt_of_le_of_lt ha1 ha2)
  generalize hD : s1.heap.objs.size = D at *
  have zC : (s1.heap.push ({ cls := .type "list", data := .seq ([] : List Value).toArray } : Obj)).objs.size = D + 1 := by rw [Heap.size_push, hD]
  have ec : ∀ (n : Nat), cellsFrom n scope.names [] = [] := fun n => by rw [hn]; rfl
  have pc : ∀ hh : Heap, pushCells hh scope.names = hh := fun hh => by rw [hn]; rfl
  show codeAny _ _ (.compStart _ 0 (.ref a) (.ref D) { newEnv scope (s1.heap.push ({ cls := .type "list", data := .seq ([] : List Value).toArray } : Obj)).objs.size X.env.globals (cellsFrom ((s1.heap.push ({ cls := .type "list", data := .seq ([] : List Value).toArray } : Obj)).objs.size + 1) scope.names []) X.env.qual none .none (some X.env) builtinsNs with scope := scope }) _
    { s1 with heap := pushCells ((s1.heap.push ({ cls := .type "list", data := .seq ([] : List Value).toArray } : Obj)).push { cls := .type "dict", data := .dict #[] }) scope.names }
  rw [zC, ec, pc]
  generalize hce : ({ newEnv scope (D + 1) X.env.globals [] X.env.qual none .none (some X.env) builtinsNs with scope := scope } : Env) = ce
  have cL : ce.locals = D + 1 := by rw [← hce]; rfl
  have csc : ce.scope = scope := by rw [← hce]
  have hko : ce.kindOf x = some .local := by
    unfold Env.kindOf
    rw [csc]
    exact lkx
  generalize hh4 : (s1.heap.push ({ cls := .type "list", data := .seq ([] : List Value).toArray } : Obj)).push { cls := .type "dict", data := .dict #[] } = h4
  have k4 : ∀ b o, s1.heap.get? b = some o → h4.get? b = some o := fun b o e => by rw [← hh4]; exact Heap.get?_push_of_some _ (Heap.get?_push_of_some _ e)
  have gD : h4.get? D = some (lstObj #[] 0) := by
    rw [← hh4, ← hD]
    exact Heap.get?_push_of_some _ (Heap.get?_push_size _ rfl)
  have gC : h4.get? (D + 1) = some { cls := .type "dict", data := .dict #[] } := by
    rw [← hh4, ← zC]
    exact Heap.get?_push_size _ rfl
  have nC : h4.Ns (D + 1) (fun _ => none) := ⟨_, #[], _, gC, rfl, fun e he => absurd he (by simp), fun _ => rfl⟩
  have hcalm : X.A.handled = none := I.ok.hd hc
  -- the run's end, its steps
  have Dne : D ≠ cStatics := Nat.ne_of_gt hcs
  have Cne : D + 1 ≠ cStatics := Nat.ne_of_gt (Nat.lt_succ_of_lt hcs)
  have aD : a ≠ D := Nat.ne_of_lt ha2
  have aC : a ≠ D + 1 := Nat.ne_of_lt (Nat.lt_succ_of_lt ha2)
  let F : Nat → Shared → Shared → Prop := fun n s₀ s => n = 0 ∧ ∃ H', Cn X.prog X.w X.stack H1 H' sc [D, D + 1] a go s ∧ (xs.length ≤ sizeLine ∧ ∀ D, H' D = none → sysModules < D → Q (.ref D) (upd H' D (.lst xs))) ∧ ∀ b ∈ [D, D + 1], ∀ o, s₀.heap.get? b = some o → s.heap.get? b = some o
  let R' : GenEnd := fun n s₀ r s => ((r = .ok (.ret .none) ∨ r = .ok .next) ∧ F n s₀ s) ∨ ∃ e, r = .error e ∧ False
  let Y' : Protocol := YItm X.prog X.w X.stack H1 sc [D, D + 1] a go xs fun H' => xs.length ≤ sizeLine ∧ ∀ D, H' D = none → sysModules < D → Q (.ref D) (upd H' D (.lst xs))
  have wf : ∀ b ∈ [D, D + 1], sc.heap.objs.size ≤ b ∧ b ≠ cStatics ∧ b ≠ a := fun b hb => by
    simp only [List.mem_cons, List.not_mem_nil, or_false] at hb
    rcases hb with rfl | rfl
    · exact ⟨hsz, Dne, aD.symm⟩
    · exact ⟨Nat.le_succ_of_le hsz, Cne, aC.symm⟩
  let LI : Nat → Shared → Prop := fun n t => n ≤ xs.length ∧ ∃ (acc : Array Value) (cc : Nat) (m : Str → Option Value) (gs : GenState), t.heap.get? D = some (lstObj acc cc) ∧ Vals (xs.take (xs.length - n)) acc.toList ∧ t.heap.Ns (D + 1) m ∧ t.heap.get? a = some go ∧ t.heap.NoLimit ∧
    t.gens[g]? = some gs ∧ gs.Goes (model X.prog X.w) X.A.in1 R' Y' n (.send .none) (t.setGen g .running)
  have gsz : g < s1.gens.size := (Array.getElem?_eq_some_iff.mp hgs).1
  have start : LI xs.length { s1 with heap := h4 } := by
    refine ⟨Nat.le_refl _, #[], 0, _, _, gD, by rw [Nat.sub_self]; exact .nil, nC, k4 _ _ hgo, hl.keeps k4, hgs, rfl, ?_⟩
    have w0 := wake X.A.in1 [D, D + 1] ({ s1 with heap := h4 }.setGen g .running) hr.in1 (show X.A.in1.frames = some X.stack from I.ok.frames) (fun b hb => ?_) k4 (fun b hb => ?_) hos (allBare_setGen (s := { s1 with heap := h4 }) hb rfl)
    · exact seg_imp (fun n s₀ r s hR => .inl ⟨hR.1, hR.2.1, hR.2.2⟩) (fun n s₀ v s kap kap' hkk hY => by
        obtain ⟨x, H', y1, y2, y3, y4, y5, y6, y7⟩ := hY
        exact ⟨x, H', y1, y2, y3, y4, y5, y6, fun t z => hkk _ _ (y7 t z)⟩) _ w0
    · simp only [List.mem_cons, List.not_mem_nil, or_false] at hb
      rcases hb with rfl | rfl
      · exact Nat.le_refl _
      · exact Nat.le_succ _
    · simp only [List.mem_cons, List.not_mem_nil, or_false] at hb
      rcases hb with rfl | rfl
      · exact ⟨_, gD, fun v z => nomatch z⟩
      · exact ⟨_, gC, fun v z => nomatch z⟩
  have loop : codeAny (model X.prog X.w) X.A (.compLoop (.ListComp (.Name x p1) [⟨.Name x p2, iter, [], 0⟩] scope pos) 0 (.ref a) (.ref D) ce) (fun r s' => ∃ m, s'.heap.Ns (D + 1) m ∧ ∀ h', Heap.SameBut (D + 1) s'.heap h' →
      match r with | .ok _ => EP X pins σ Q (.ref D) { s' with heap := h' } | .error x => wpAny (model X.prog X.w) X.A (passOn "comprehension.variables-let-go" x ce) (EP X pins σ Q) X.xe { s' with heap := h' }) { s1 with heap := h4 } := by
    refine compLoop_any LI ?_ xs.length start
    rintro n t ⟨hnl, acc, cc, m, gs, tD, tV, tN, ta, tl, tg, tgo⟩
    have tsz := (Array.getElem?_eq_some_iff.mp tg).1
    have mD : D ∈ [D, D + 1] := List.mem_cons_self
    have mC : D + 1 ∈ [D, D + 1] := List.mem_cons_of_mem _ List.mem_cons_self
    refine wpAny_gsz (n := g + 1) tsz (next_genG (F := F) (Er := fun _ _ => False) (Y := Y') hcalm tl hr.depth (hgen _ ta) tg tgo (fun v s₁ gs' hbare hY => ?_) (fun s₁ hF h' hk' => ?_) fun e s₁ he => he.elim)
    · intro hsz2
      obtain ⟨y, H', y1, y2, y3, y4, y5, y6, y7⟩ := hY
      cases n with
      | zero => exact (show False from y7 s₁ ⟨rfl, y4.bare, fun _ _ _ e => e, two_there (y6 D mD _ tD) (let ⟨o, es, ep, ho, r⟩ := tN; ⟨o, es, ep, y6 (D + 1) mC _ ho, r⟩)⟩).elim
      | succ n =>
        have e1 : xs.length - (n + 1 - 1 + 1) = xs.length - (n + 1) := by omega
        rw [e1] at y1
        have gD1 : s₁.heap.get? D = some (lstObj acc cc) := y6 D mD _ tD
        have nC1 : s₁.heap.Ns (D + 1) m := by
          obtain ⟨o, es, ep, ho, r⟩ := tN
          exact ⟨o, es, ep, y6 (D + 1) mC _ ho, r⟩
        have al : acc.size = xs.length - (n + 1) := by
          have q1 := tV.length
          rw [List.length_take] at q1
          have q2 : acc.toList.length = acc.size := by simp
          omega
        refine wpAny_pure ?_
        refine wpAny_assign_Name (wpAny_storeName_local hko (m := m) (by rw [cL]; exact nC1) (fun h' hn' sb => ?_) (by rw [csc, hk]; rfl))
        rw [cL] at hn' sb
        refine wpAny_tests_nil ?_
        rw [if_pos rfl]
        refine wpAny_Name (wpAny_loadName_local (m := fun z => if z = x then some v else m z) (v := v) (by rw [csc]; exact hk) hko (by rw [cL]; exact hn') (if_pos rfl) ?_) hd
        have gD2 : h'.get? D = some (lstObj acc cc) := (sb.2 D (Nat.ne_of_lt (Nat.lt_succ_self _))).trans gD1
        refine append_at (hsz := by have := y5.1; omega) gD2 fun h2 sb2 hD2 => ⟨n, Nat.lt_succ_self _, ?_⟩
        have g1 : g < s₁.gens.size := by
          have q := setGen_size s₁ g gs'
          have q2 : g + 1 ≤ (s₁.setGen g gs').gens.size := hsz2
          omega
        have keep : ∀ b o, b ∉ [D, D + 1] → s₁.heap.get? b = some o → h2.get? b = some o := fun b o hb e => by
          have b1 : b ≠ D := fun z => hb (z ▸ mD)
          have b2 : b ≠ D + 1 := fun z => hb (z ▸ mC)
          exact (sb2.2 b b1).trans ((sb.2 b b2).trans e)
        have aw : a ∉ [D, D + 1] := fun hm => (wf a hm).2.2 rfl
        have etk : xs.take (xs.length - n) = xs.take (xs.length - (n + 1)) ++ [y] := by
          rw [show xs.length - n = xs.length - (n + 1) + 1 by omega, List.take_add_one, y1]
          rfl
        refine ⟨Nat.le_of_succ_le hnl, acc.push v, cc + 1, _, gs', hD2, ?_, hn'.sameBut sb2 (Nat.ne_of_gt (Nat.lt_succ_self _)), keep a go aw y4.gen, ?_, setGen_at g1, ?_⟩
        · rw [etk, Array.toList_push]
          exact tV.append (.cons y2 .nil)
        · obtain ⟨mc, hns, hnn⟩ := y4.lim
          exact ⟨mc, hns.at' fun o e => keep _ o (fun hm => (wf _ hm).2.1 rfl) e, hnn⟩
        · exact y7 _ ⟨rfl, allBare_setGen (allBare_setGen y4.bare hbare) rfl, keep, two_there hD2 (hn'.sameBut sb2 (Nat.ne_of_gt (Nat.lt_succ_self _)))⟩
    · intro hsz2
      obtain ⟨hn0, H', c', ⟨hl1, hq'⟩, same⟩ := hF
      subst hn0
      rw [Nat.sub_zero, List.take_length] at tV
      have gD1 : s₁.heap.get? D = some (lstObj acc cc) := same D mD _ tD
      refine ⟨m, ?_, fun h2 sb => ?_⟩
      · obtain ⟨o, es, ep, ho, r⟩ := tN
        exact ⟨o, es, ep, hk' _ _ (same (D + 1) mC _ ho), r⟩
      have gD2 : h2.get? D = some (lstObj acc cc) := (sb.2 D (Nat.ne_of_lt (Nat.lt_succ_self _))).trans (hk' _ _ gD1)
      have c2 := c'.step (t := { s₁.setGen g .finished with heap := h2 }) (ch := [D + 1]) rfl (allBare_setGen c'.bare rfl) (fun b o hb e => (sb.2 b (fun z => hb (by rw [z]; exact List.mem_singleton.mpr rfl))).trans (hk' _ _ e)) (fun b hb => by
        rw [List.mem_singleton.mp hb]
        exact ⟨(wf _ mC).1, c'.off _ mC, (wf _ mC).2.1, (wf _ mC).2.2⟩)
      exact ⟨.ref D, _, Inv.drained Ic hsz hl1 gD2 tV ExOk.nil c2.os c2.bare c2.un c2.hok (c2.off D mD), rfl, hq' D (c2.off D mD) (Nat.lt_of_lt_of_le Ic.big hsz)⟩
  exact codeAny_compStart_list loop (wpAny_pyIter_gen (hgen _ (k4 _ _ hgo)) loop)
end
end BJ

/-! «yield from» a list; o.m() of a generator method -/
namespace BJ
open PySem PySem.Spec PyProof.Rows L2 Evl GenW
open PySem.W (Frag)
section
variable {prog : Program} {w : World} {A : Around} {E : Value → Shared → Prop} {s : Shared}
theorem lit_item {it l : Addr} {i : Nat} {items : Array Value} {x : Value} {Q : Option Value → Shared → Prop} (hit : s.heap.IsListIter it l i) (ht : s.heap.IsList l items) (hx : items[i]? = some x)
    (hQ : ∀ h', h'.IsListIter it l (i + 1) → Heap.SameBut it s.heap h' → Q (some x) { s with heap := h' }) : wpAny (model prog w) A (callSpecial? (.ref it) "__next__") Q E s := by
  obtain ⟨o, ho, hc, hd⟩ := id hit
  obtain ⟨ol, hol, _, nl, hdl⟩ := ht
  refine wpAny_callSpecial?_slot (name := Str.ofString "__next__") hit.typeIs slot_listiter_next (wpAny_call_entry slot_listiter_next hit.typeIs entry_listiter_next ?_ (args_listiter_next _)); show wpAny _ _ (field (.ref it) 0 >>= _) _ _ s
  refine wpAny_bind (wpAny_field ho hd (x := .ref l) rfl ?_); show wpAny _ _ (if (Value.ref l == Value.none) = true then _ else _) _ _ s
  rw [if_neg (show ¬ ((Value.ref l == Value.none) = true) from Bool.false_ne_true)]; show wpAny _ _ (field (.ref it) 1 >>= _) _ _ s
  refine wpAny_bind (wpAny_field ho hd (x := .int i 0) rfl ?_); show wpAny _ _ (seqItems? (.ref l) >>= _) _ _ s
  refine wpAny_bind (wpAny_seqItems hol hdl ?_); simp only [Int.toNat_natCast, hx]
  refine wpAny_bind (wpAny_setField ho hd (by simp) (wpAny_pure ⟨x, rfl, hQ _ ⟨_, Heap.get?_update_self _ ho (Obj.isFreed_of_fields (Obj.data_mapFields hd _)), (Obj.cls_mapFields ..).trans hc, by rw [Obj.data_mapFields hd]; simp [rawInt]⟩ (Heap.SameBut.update ..)⟩))
theorem lit_end {it l : Addr} {i : Nat} {items : Array Value} {Q : Option Value → Shared → Prop} (hh : A.handled = none) (hit : s.heap.IsListIter it l i) (ht : s.heap.IsList l items) (hx : items[i]? = none)
    (hE : ∀ e h', StopX e h' → Heap.ExtBut it s.heap h' → E e { s with heap := h' }) : wpAny (model prog w) A (callSpecial? (.ref it) "__next__") Q E s := by
  obtain ⟨o, ho, hc, hd⟩ := id hit
  obtain ⟨ol, hol, _, nl, hdl⟩ := ht
  refine wpAny_callSpecial?_slot (name := Str.ofString "__next__") hit.typeIs slot_listiter_next (wpAny_call_entry slot_listiter_next hit.typeIs entry_listiter_next ?_ (args_listiter_next _)); show wpAny _ _ (field (.ref it) 0 >>= _) _ _ s
  refine wpAny_bind (wpAny_field ho hd (x := .ref l) rfl ?_); show wpAny _ _ (if (Value.ref l == Value.none) = true then _ else _) _ _ s
  rw [if_neg (show ¬ ((Value.ref l == Value.none) = true) from Bool.false_ne_true)]; show wpAny _ _ (field (.ref it) 1 >>= _) _ _ s
  refine wpAny_bind (wpAny_field ho hd (x := .int i 0) rfl ?_); show wpAny _ _ (seqItems? (.ref l) >>= _) _ _ s
  refine wpAny_bind (wpAny_seqItems hol hdl ?_); simp only [Int.toNat_natCast, hx]
  refine wpAny_bind (wpAny_rule (wpAny_bind (wpAny_setField ho hd (by simp) ?_))); show wpAny _ _ (newExc (.type "StopIteration") [] >>= _) _ _ _
  refine wpAny_bind ?_; simp only [newExc, newTuple]; refine wpAny_bind (wpAny_newObj_type ?_ (by size_fits))
  refine wpAny_bind (m := firstArgMember _ _) (wpAny_of_eq (a := Value.none) (by first | rfl | (simp only [firstArgMember]; rfl)) ?_); refine wpAny_newObj_type ?_ (by size_fits)
  simp only [raiseNew]; refine wpAny_bind (wpAny_handled ?_); first | rw [show A.in1.handled = none from hh] | rw [hh]
  refine wpAny_bind (wpAny_pure (wpAny_throw ?_)); refine hE _ _ ⟨_, _, _, rfl, Heap.get?_push_size _ rfl, rfl, rfl, ?_⟩ (((Heap.SameBut.update ..).extBut.push _).push _)
  first | rfl | (rw [Array.getElem?_append_left (by decide)]; rfl) | kernel_rfl
end
theorem close_lst : typeLookup (.type "list_iterator") "close" = pure none := by rw [typeLookup_type, builtinLookup_eq_fast]; kernel_rfl
section
variable {X : Cx} {e o : Expr} {te ta : TE} {m : Str} {apos pos : Pos} {k : Nat} {pl : Sem Bool}
def tYfLst (te : TE) : TYf := fun σ H Q => te σ H fun x H1 => ∃ a xs, x = .ref a ∧ H1 a = some (.lst xs) ∧ Q xs H1
theorem yf_lst (he : PE X e te) : YfE X e (tYfLst te) := by
  refine ⟨fun pins s σ H Q I h => ?_⟩
  refine thn (he.run pins s σ H _ I h) fun v s1 ⟨x, H1, I1, r1, a, xs, ex, ha, hq⟩ => ?_
  subst ex
  obtain rfl : v = Value.ref a := r1
  obtain ⟨hlen, its, nn, rits, hea⟩ := I1.hok a _ ha
  have ht : s1.heap.IsList a its.toArray := ⟨_, hea, rfl, nn, rfl⟩
  refine ⟨"list", ht.typeIs, by decide, wpAny_pyIter_list ht ?_⟩
  have ksz : ∀ b o, s1.heap.get? b = some o → b ≠ s1.heap.objs.size := fun b o e => Nat.ne_of_lt (Heap.lt_size e)
  have kp : ∀ b o, s1.heap.get? b = some o → (s1.heap.push { cls := .type "list_iterator", data := .fields #[.ref a, .int 0 0] }).get? b = some o := fun b o e => Heap.get?_push_of_some _ e
  refine ⟨s1.heap.objs.size, H1, xs, fun j h => h.IsListIter s1.heap.objs.size a j ∧ h.get? a = some { cls := .type "list", data := .seq its.toArray nn }, rfl, I1.kept (t' := s1.toks) kp, .inr I1.sz, Nat.ne_of_gt I1.lt, fun y c hy => ?_, I1.hok.fresh (Nat.le_refl _), fun p hp => ?_,
    ⟨⟨_, Heap.get?_push_size _ rfl, rfl, rfl⟩, kp _ _ hea⟩, ⟨⟨"list_iterator", fun j h q => ?_, close_lst, by decide⟩, fun j h h' q hk => ?_, fun A' j x s2 Q' E' hA hx q hQ => ?_, fun A' s2 Q' E' hA q hE => ?_⟩, hq⟩
  · obtain ⟨v, o, ho, _⟩ := I1.cell y c hy
    exact ksz c o ho
  · exact ksz p.1 _ (I1.pin p hp).1
  · obtain ⟨⟨o, ho, hc, _⟩, _⟩ := q
    exact ⟨o, ho, hc⟩
  · obtain ⟨⟨o, ho, r⟩, q2⟩ := q
    exact ⟨⟨o, hk _ o (.inl rfl) ho, r⟩, hk _ _ (.inr (by rw [ha]; exact fun z => nomatch z)) q2⟩
  · obtain ⟨q1, q2⟩ := q
    obtain ⟨u, hu, ru⟩ := rits.get hx
    have hne : a ≠ s1.heap.objs.size := Nat.ne_of_lt (Heap.lt_size hea)
    exact lit_item q1 ⟨_, q2, rfl, nn, rfl⟩ (x := u) (by simpa using hu) fun h' q1' hs => hQ u h' s2.toks ru ⟨q1', (hs.2 a hne).trans q2⟩ fun b o hb eb => hs.extBut b o hb eb
  · obtain ⟨q1, q2⟩ := q
    have hnone : its.toArray[xs.length]? = none := by
      have e := rits.length
      have e2 : its[xs.length]? = none := List.getElem?_eq_none_iff.mpr (by omega)
      simpa using e2
    exact lit_end hA q1 ⟨_, q2, rfl, nn, rfl⟩ hnone fun e h' hS hk => hE e h' s2.toks hS fun b o hb eb => hk b o hb eb
/-- o.m(), m a generator method; the receiver's class is told by the reading -/
def tYMe (X : Cx) (m : Str) (k : Nat) (ta : TE) : TYx := fun σ H cont => ta σ H fun x H1 => ∃ (a C dx g : Addr) (fs : List (Str × V)) (sp : SpY) (xs : List V), x = .ref a ∧ H1 a = some (.ins C dx fs) ∧ fs.lookup m = none ∧ Cls X.K C ∧ Meth X.K C m g ∧
  YFn X.prog X.w X.K X.mg X.base k g sp ∧ sp [x] H1 xs (cont xs)
theorem py_me0 (he : PE X o ta) (hr : Room k X.A)
    (ht : eval (.Call (.Attribute o m apos) [] [] pos) X.env = (do
      let ov ← eval o X.env
      standAt apos.atName
      let (f, first) ← holding [ov] (getMethod ov m pl)
      callWith pos f first (backTo pos (starEach [] X.env)) (backToKw pos (keywordEach [] X.env))) := by rfl) : PY X k (.Call (.Attribute o m apos) [] [] pos) (tYMe X m k ta) := by
  refine ⟨fun pins s σ H cont I h => ?_⟩
  refine PySem.W.methodCall_KW (pl := pl) (thn (he.run pins s σ H _ I h) fun u s1 ⟨x, H1, I1, rx, a, C, dx, g, fs, sp, xs, ex, ea, l, c, hm, F, q⟩ => ?_) ht
  subst ex
  obtain rfl : u = Value.ref a := rx
  refine getmeth_ok I1 ea c hm l (PySem.W.callWith_K0 (first := [.ref a]) I1.kIn hm.kp (wpAny_call (codeAny_mono (F X.A X.stack s1 H1 [.ref a] [.ref a] xs (cont xs) hr I1.env0 (.cons rfl .nil) q) fun r s' hq => ?_)))
  match r, hq with
  | .ok (.ret u), hq => exact ⟨s1, H1, xs, I1, hq⟩
end
end BJ

/-! defs with one default, with a star, generator defs of one yield from, as they stand in the text -/
namespace BJ
open PySem PySem.Spec PyProof.Rows L2 Evl GenW StX
open PySem.W (Frag)
/-- def m(self, q=dv) -/
structure DefD (K : Frag) (x qual : Str) (st : Stmt) (f : Addr) (p q : Str) (dv : V) : Prop where
  ex : ∃ (oc : Value) (od : Option Addr) (T : Addr) (kV doc pm : Value) (an : Option Addr) (cdv ct : Value) (osl : Array (Option Value)) (o : Obj) (d : Value) (n : Nat),
    K.lookup f = some ⟨oc, od, .func (PySem.W.fnOf x qual (defArgs st) (defBody st) (defScope st) (.ref T) kV doc pm an cdv ct), osl⟩ ∧ PySem.W.codeIn K cdv qual = true ∧ K.lookup T = some o ∧ o.data = .seq #[d] n ∧ RelV dv d ∧
    (∀ u v z : Value, ∃ k, bindArgs (PySem.W.fnOf x qual (defArgs st) (defBody st) (defScope st) (.ref T) kV doc pm an cdv ct) ⟨[u, v], []⟩ = seqItems? (.ref T) >>= k ∧ k (some #[z]) = pure [(p, u), (q, v)]) ∧
    (∀ u v z : Value, ∃ k, bindArgs (PySem.W.fnOf x qual (defArgs st) (defBody st) (defScope st) (.ref T) kV doc pm an cdv ct) ⟨[u], [(q, v)]⟩ = seqItems? (.ref T) >>= k ∧ k (some #[z]) = pure [(p, u), (q, v)]) ∧
    (∀ u v : Value, ∃ k, bindArgs (PySem.W.fnOf x qual (defArgs st) (defBody st) (defScope st) (.ref T) kV doc pm an cdv ct) ⟨[u], []⟩ = seqItems? (.ref T) >>= k ∧ k (some #[v]) = pure [(p, u), (q, v)])
/-- def m(self, .., *pv) -/
structure DefS (K : Frag) (x qual : Str) (st : Stmt) (f : Addr) (ps : List Str) (pv : Str) : Prop where
  ex : ∃ (oc : Value) (od : Option Addr) (dV kV doc pm : Value) (an : Option Addr) (cdv ct : Value) (osl : Array (Option Value)),
    K.lookup f = some ⟨oc, od, .func (PySem.W.fnOf x qual (defArgs st) (defBody st) (defScope st) dV kV doc pm an cdv ct), osl⟩ ∧ PySem.W.codeIn K cdv qual = true ∧
    (∀ us rest : List Value, us.length = ps.length → bindArgs (PySem.W.fnOf x qual (defArgs st) (defBody st) (defScope st) dV kV doc pm an cdv ct) ⟨us ++ rest, []⟩ = (newTuple rest >>= fun t => pure (ps.zip us ++ [(pv, t)])))
section
variable {P : Program} {w : World} {K : Frag} {mg : Str → Option Value} {base : Heap} {x qual : Str} {st : Stmt} {f : Addr} {p q : Str} {dv : V} {N : List Str} {k : Nat} {sp : Sp}
/-- the three ways it is called -/
theorem DefD.ok (D : DefD K x qual st f p q dv) (S : FnScope N [p, q] (defScope st)) (len : ∀ vs H Q E, sp vs H Q E → vs.length = [p, q].length)
    (hbody : ∀ (cdv : Value) (A : Around) (outer : List Env) (s : Shared) (H : Hp) (vs : List V) (Q : VK) (E : XK),
      Room k (A.deeper (envOfC qual (defScope st) s.heap.objs.size f cdv)) → sp vs H Q E →
      ∃ t, PSs (cxOf (L2.CX P w) P w K mg base N qual (defScope st) f cdv A outer s H E) (defBody st) t ∧ t { nx := fun _ H' => Q .non H', rt := Q } (start N vs) H) :
    (CallX P w K mg base (k + 1) (.ref f) [] fun vs zs H Q E => vs.length = 2 ∧ zs.length = 0 ∧ sp vs H Q E) ∧
    (CallX P w K mg base (k + 1) (.ref f) [q] fun vs zs H Q E => vs.length = 1 ∧ zs.length = 1 ∧ sp (vs ++ zs) H Q E) ∧
    (CallX P w K mg base (k + 1) (.ref f) [] fun vs zs H Q E => vs.length = 1 ∧ zs.length = 0 ∧ sp (vs ++ [dv]) H Q E) := by
  obtain ⟨oc, od, T, kV, doc, pm, an, cdv, ct, osl, o, d, n, lk, hcd, lT, oT, rd, b2, b1k, b1⟩ := D.ex
  have F : FnOk P w K mg base (L2.CX P w) (k + 1) f _ [p, q] sp := fn_of lk hcd S len fun A outer s H vs Q E hr hsp => hbody cdv A outer s H vs Q E hr hsp
  refine ⟨(callX_of F (n := 2) (g := fun us ws => us) (gV := fun vs zs => vs) ⟨fun s us ws X hu hw => ?_, fun r _ => r⟩), (callX_of F (n := 1) (g := fun us ws => us ++ ws) (gV := fun vs zs => vs ++ zs) ⟨fun s us ws X hu hw => ?_, fun r r2 => r.append r2⟩),
    (callX_of F (n := 1) (g := fun us ws => us ++ [d]) (gV := fun vs zs => vs ++ [dv]) ⟨fun s us ws X hu hw => ?_, fun r _ => r.append (.cons rd .nil)⟩)⟩
  · match us, ws, hu, hw with
    | [u, v], [], _, _ =>
      obtain ⟨k, e1, e2⟩ := b2 u v d
      refine BindsTo.of_looks fun M => ?_
      show PySem.W.Looks M s.heap (bindArgs _ ⟨[u, v], []⟩) _
      rw [e1]
      exact looks_items X lT oT (.of_pure e2)
  · match us, ws, hu, hw with
    | [u], [v], _, _ =>
      obtain ⟨k, e1, e2⟩ := b1k u v d
      refine BindsTo.of_looks fun M => ?_
      show PySem.W.Looks M s.heap (bindArgs _ ⟨[u], [(q, v)]⟩) _
      rw [e1]
      exact looks_items X lT oT (.of_pure e2)
  · match us, ws, hu, hw with
    | [u], [], _, _ =>
      obtain ⟨k, e1, e2⟩ := b1 u d
      refine BindsTo.of_looks fun M => ?_
      show PySem.W.Looks M s.heap (bindArgs _ ⟨[u], []⟩) _
      rw [e1]
      exact looks_items X lT oT (.of_pure e2)
theorem DefS.ok {ps : List Str} {pv : Str} (D : DefS K x qual st f ps pv) (S : FnScope N (ps ++ [pv]) (defScope st))
    (hbody : ∀ (cdv : Value) (A : Around) (outer : List Env) (s : Shared) (H : Hp) (vs : List V) (Q : VK) (E : XK),
      Room k (A.deeper (envOfC qual (defScope st) s.heap.objs.size f cdv)) → sp vs H Q E →
      ∃ t, PSs (cxOf (L2.CX P w) P w K mg base N qual (defScope st) f cdv A outer s H E) (defBody st) t ∧ t { nx := fun _ H' => Q .non H', rt := Q } (start N vs) H) :
    BJ.CallO P w K mg base (k + 1) (.ref f) fun vs H Q E => ∃ ws rest, vs = ws ++ rest ∧ ws.length = ps.length ∧ rest.length ≤ sizeLine ∧ ∀ p, H p = Option.none → sp (ws ++ [V.ref p]) (upd H p (.tup rest)) Q E := by
  obtain ⟨oc, od, dV, kV, doc, pm, an, cdv, ct, osl, lk, hcd, hb⟩ := D.ex
  exact fn_star lk hcd S cxUp hb fun A outer s H vs Q E hr hsp => hbody cdv A outer s H vs Q E hr hsp
/-- a generator def whose body is one yield from -/
theorem DefAt.okY {e : Expr} {yp pos : Pos} {ps : List Str} {sp : SpY} (D : DefAt K x qual st f ps) (S : GScope N ps (defScope st)) (hi : ∀ n c, interactive (envOfC qual (defScope st) n f c) = false) (hbo : defBody st = [.Expr (.YieldFrom e yp) pos]) (len : ∀ vs H xs Q, sp vs H xs Q → vs.length = ps.length)
    (hbody : ∀ (cdv : Value) (A : Around) (outer : List Env) (s : Shared) (H : Hp) (vs xs : List V) (Q : Hp → Prop) (pn : List (Addr × Obj)), Room k (A.deeper (envOfC qual (defScope st) s.heap.objs.size f cdv)) → sp vs H xs Q →
      ∃ t, YfE (gcxOf P w K mg base N qual (defScope st) f cdv A outer s H (fun _ _ _ => False) pn).nox e t ∧ t (L2.start N vs) H fun ys H' => ys = xs ∧ Q H') : YFn P w K mg base (k + 1) f sp := by
  obtain ⟨fd, F, hb⟩ := D.fn
  obtain ⟨oc, od, kV, doc, pm, an, cdv, ct, osl, rfl, lk, hcd⟩ := F.ex
  exact yfn_of lk hbo hcd S (fun n => hi n cdv) hb len fun A outer s H vs xs Q pn hr hsp => hbody cdv A outer s H vs xs Q pn hr hsp
end
end BJ

/-! == of two instances of one class without an __eq__ of its own -/
namespace BJ
open PySem PySem.Spec PyProof.Rows PySem.SeqAt
open PySem.W (Frag)
section
variable {prog : Program} {w : World} {A : Around} {E : Value → Shared → Prop} {s : Shared} {K : PySem.W.Frag} {x y C : Addr} {ox oy : Obj} {od oe : Option Obj}
theorem rc_insSame (hu : A.units < cLine) (X : K.In s.heap) (I : PySem.W.InstAt s.heap x ox C od) (hm : PySem.W.mroIn K C (.type "object") = some true) (hs : PySem.W.findIn K (.ref C) "__eq__" = some (some (.builtin "object.__eq__"))) :
    RcAt A s (.ref x) (.ref x) true := fun prog w E Q h => by
  have one : wpAny (model prog w) A (tryCompare (.ref x) "__eq__" (.ref x)) (fun r s' => r = some (.bool true) ∧ s' = s) E s := by
    unfold tryCompare
    exact wpAny_bind (HN.ifBound_objEq X I hs (wpAny_call (codeAny_call_builtin F.cmp_object.eq.plain F.cmpEntry_eq (PySem.W.check_slot F.cmpKind_eq F.cmpSplit_eq (I.type.andThen (PySem.W.looks_mroIn X hm)) (F.cmpArgs_eq _ _) (objEq_entry_same (wpAny_pure ⟨rfl, rfl⟩))))))
  simp only [richCompare, cmpInfo_Eq, oneThing_ref]
  refine wpAny_holding (wpAny_bind (wpAny_cRoomFor hu ?_))
  refine wpAny_bind (I.type.here ?_)
  refine wpAny_bind (I.type.here ?_)
  split
  · rename_i q
    simp at q
  · refine wpAny_bind (wpAny_pure ?_)
    simp only [Bool.false_eq_true, if_false, Bool.not_false, if_true]
    refine wpAny_bind (m := tryCompare (.ref x) _ (.ref x)) (wpAny_mono one (fun r s1 z => ?_) fun _ _ e => e)
    obtain ⟨z1, z2⟩ := z
    subst z1
    subst z2
    exact wpAny_pure h
theorem rc_insOther (hu : A.units < cLine) (X : K.In s.heap) (I : PySem.W.InstAt s.heap x ox C od) (J : PySem.W.InstAt s.heap y oy C oe) (hxy : x ≠ y) (hm : PySem.W.mroIn K C (.type "object") = some true) (hs : PySem.W.findIn K (.ref C) "__eq__" = some (some (.builtin "object.__eq__"))) :
    RcAt A s (.ref x) (.ref y) false := fun prog w E Q h => by
  have nt : ox.cls ≠ .type "tuple" := by rw [I.cls]; exact fun z => nomatch z
  have nt2 : oy.cls ≠ .type "tuple" := by rw [J.cls]; exact fun z => nomatch z
  have one : wpAny (model prog w) A (tryCompare (.ref x) "__eq__" (.ref y)) (fun r s' => r = none ∧ s' = s) E s := by
    unfold tryCompare
    exact wpAny_bind (HN.ifBound_objEq X I hs (wpAny_call (codeAny_call_builtin F.cmp_object.eq.plain F.cmpEntry_eq (PySem.W.check_slot F.cmpKind_eq F.cmpSplit_eq (I.type.andThen (PySem.W.looks_mroIn X hm)) (F.cmpArgs_eq _ _) (objEq_entry_other hxy I.at_ J.at_ nt (wpAny_pure ⟨rfl, rfl⟩))))))
  have two : wpAny (model prog w) A (tryCompare (.ref y) "__eq__" (.ref x)) (fun r s' => r = none ∧ s' = s) E s := by
    unfold tryCompare
    exact wpAny_bind (HN.ifBound_objEq X J hs (wpAny_call (codeAny_call_builtin F.cmp_object.eq.plain F.cmpEntry_eq (PySem.W.check_slot F.cmpKind_eq F.cmpSplit_eq (J.type.andThen (PySem.W.looks_mroIn X hm)) (F.cmpArgs_eq _ _) (objEq_entry_other hxy.symm J.at_ I.at_ nt2 (wpAny_pure ⟨rfl, rfl⟩))))))
  simp only [richCompare, cmpInfo_Eq, oneThing_ref]
  refine wpAny_holding (wpAny_bind (wpAny_cRoomFor hu ?_))
  refine wpAny_bind (I.type.here ?_)
  refine wpAny_bind (J.type.here ?_)
  split
  · rename_i q
    simp at q
  · refine wpAny_bind (wpAny_pure ?_)
    simp only [Bool.false_eq_true, if_false, Bool.not_false, if_true]
    refine wpAny_bind (m := tryCompare (.ref x) _ (.ref y)) (wpAny_mono one (fun r s1 z => ?_) fun _ _ e => e)
    obtain ⟨z1, z2⟩ := z
    subst z1
    subst z2
    refine wpAny_bind (m := tryCompare (.ref y) _ (.ref x)) (wpAny_mono two (fun r s2 z => ?_) fun _ _ e => e)
    obtain ⟨z1, z2⟩ := z
    subst z1
    subst z2
    exact wpAny_bind (wpAny_rule (wpAny_bind (wpAny_isSame_ref_other hxy I.at_ J.at_ nt (wpAny_pure h))))
end
/-- what the text says of a class whose instances are equal only to themselves -/
structure IdEq (K : Frag) (C : Addr) : Prop where
  m : PySem.W.mroIn K C (.type "object") = some true
  e : PySem.W.findIn K (.ref C) "__eq__" = some (some (.builtin "object.__eq__"))
open L2 in
def rEqI (K : Frag) : R2 := fun x y H Q => ∃ a b C dx dy fs gs, x = .ref a ∧ y = .ref b ∧ H a = some (.ins C dx fs) ∧ H b = some (.ins C dy gs) ∧ IdEq K C ∧ Q (.bl (decide (a = b))) H
open L2 in
theorem op_eqI {X : Cx} (hu : X.A.units < cLine) : OpR X (compareOp .Eq) (rEqI X.K) := by
  rintro pins s σ H x y v u Q I rx ry ⟨a, b, C, dx, dy, fs, gs, rfl, rfl, ha, hb, ie, q⟩
  cases rx
  cases ry
  obtain ⟨mA, O, _⟩ := ins_get I.hok ha
  obtain ⟨od, J, _⟩ := O.look
  obtain ⟨mB, O2, _⟩ := ins_get I.hok hb
  obtain ⟨oe, J2, _⟩ := O2.look
  by_cases e : a = b
  · subst e
    refine rc_insSame hu I.kIn J ie.m ie.e _ _ _ _ ⟨.bl _, H, I, rfl, ?_⟩
    rw [decide_eq_true rfl] at q
    exact q
  · refine rc_insOther hu I.kIn J J2 e ie.m ie.e _ _ _ _ ⟨.bl _, H, I, rfl, ?_⟩
    rw [decide_eq_false e] at q
    exact q
end BJ

/-! sorted of ints, of texts, as functions; list(d) -/
namespace BJ
open PySem PySem.Spec PyProof.Rows L2 Evl
open PySem.W (Frag)
def srtI (ns : List Int) : List Int := ns.mergeSort (fun x y => decide (x ≤ y))
theorem uniq_int : ∀ {l m : List Int}, l.Perm m → l.Pairwise (· ≤ ·) → m.Pairwise (· ≤ ·) → l = m := fun h h1 h2 => List.Perm.eq_of_pairwise (le := (· ≤ ·)) (fun a b _ _ q1 q2 => Int.le_antisymm q1 q2) h1 h2 h
theorem srtI_is {ns ns' : List Int} (h : ns'.Perm ns) (hs : ns'.Pairwise (· ≤ ·)) : ns' = srtI ns := by
  have h2 : (srtI ns).Pairwise (· ≤ ·) := (List.pairwise_mergeSort (le := fun x y => decide (x ≤ y)) (fun a b c q1 q2 => by simp only [decide_eq_true_eq] at *; omega) (fun a b => by simp only [Bool.or_eq_true, decide_eq_true_eq]; omega) ns).imp (fun q => by simpa using q)
  exact uniq_int (h.trans (List.mergeSort_perm ns _).symm) hs h2
def leS (x y : Str) : Bool := decide (x.cps.toList ≤ y.cps.toList)
def srtS (xs : List Str) : List Str := xs.mergeSort leS
theorem rising_le {x y : Str} (h : (!PySem.Spec.ltCps y.cps.toList x.cps.toList) = true) : leS x y = true := by
  rw [ltCps_eq] at h
  simp only [leS, decide_eq_true_eq]
  simpa using h
theorem risingS_pw : ∀ {l : List Str} {x : Str}, risingS x l = true → (x :: l).Pairwise (fun x y => leS x y = true)
  | [], x, _ => List.pairwise_singleton _ _
  | y :: l, x, h => by
    simp only [risingS, Bool.and_eq_true] at h
    have h1 := rising_le h.1
    have ih := risingS_pw h.2
    refine List.pairwise_cons.mpr ⟨fun z hz => ?_, ih⟩
    rcases List.mem_cons.mp hz with e | hz
    · rw [e]
      exact h1
    · have h2 := (List.pairwise_cons.mp ih).1 z hz
      simp only [leS, decide_eq_true_eq] at *
      exact List.le_trans h1 h2
theorem sortedS_pw : ∀ {l : List Str}, sortedS l = true → l.Pairwise (fun x y => leS x y = true)
  | [], _ => .nil
  | x :: l, h => risingS_pw h
theorem srtS_is {xs ys : List Str} (h : ys.Perm xs) (hs : sortedS ys = true) : ys = srtS xs := by
  have h2 : (srtS xs).Pairwise (fun x y => leS x y = true) := List.pairwise_mergeSort (fun a b c q1 q2 => by simp only [leS, decide_eq_true_eq] at *; exact List.le_trans q1 q2) (fun a b => by simp only [leS, Bool.or_eq_true, decide_eq_true_eq]; exact List.le_total _ _) xs
  exact List.Perm.eq_of_pairwise (le := fun x y => leS x y = true) (fun a b _ _ q1 q2 => by
    simp only [leS, decide_eq_true_eq] at *
    exact str_ext (List.le_antisymm q1 q2)) (sortedS_pw hs) h2 (h.trans (List.mergeSort_perm xs _).symm)
/-- a ** b, a of any size -/
def CPowB (i j : Int) : Prop := 0 ≤ j ∧ Builtin.Int.intBits i * j ≤ 1000000
theorem op_powB {X : Cx} : OpR X (binaryOp .Pow) (rI CPowB fun i j => .int (i ^ j.toNat)) := opI fun _ _ _ _ _ _ _ hc q => pow_int hc.1 (by have := hc.2; omega) q
section
variable {K : Frag} {σ : L2.St} {H : Hp} {te : TE}
theorem el_sortI {ns : List Int} (h : EvL te σ H (ns.map V.int)) : EvL (tCB (rSortedI K) (tCons te tNil)) σ H ((srtI ns).map V.int) := fun H1 e Q q => h H1 e _ fun p H2 hp e2 hx => ⟨p, ns, rfl, sq_of hx, fun ns' q' hperm hs hq' => by
  rw [srtI_is hperm hs]
  exact q q' _ (fresh_back e2 hq') (e2.trans (Ex.new hq')) upd_same⟩
theorem el_sortS {xs : List Str} (h : EvL te σ H (xs.map V.str)) (hl : xs.length < 64) : EvL (tCB (rSortedS K) (tCons te tNil)) σ H ((srtS xs).map V.str) := fun H1 e Q q => h H1 e _ fun p H2 hp e2 hx => ⟨p, xs, rfl, sq_of hx, hl, fun ys q' hperm hs hq' => by
  rw [srtS_is hperm hs]
  exact q q' _ (fresh_back e2 hq') (e2.trans (Ex.new hq')) upd_same⟩
theorem el_keys {p : Addr} {kvs : List (Key × V)} (h : Ev te σ H (.ref p)) (hp : H p = some (.dK kvs)) : EvL (tCB rListD (tCons te tNil)) σ H (kvs.map fun kv => kV kv.1) := fun H1 e Q q =>
  h H1 e _ fun H2 e2 => ⟨p, kvs, rfl, (e.trans e2) _ _ hp, fun l hl => q l _ (fresh_back e2 hl) (e2.trans (Ex.new hl)) upd_same⟩
end
end BJ

/-! tuples by what is in them (slices and sums may be old objects); list(x) that tells its place; the part of a heap that stands -/
namespace BJ
open PySem PySem.Spec PyProof.Rows L2 Evl
open PySem.W (Frag)
def rListN (K : Frag) : List V → Hp → VK → Prop := fun xs H Q => ∃ p ys, xs = [.ref p] ∧ (SqL K H p ys ∨ SqT K H p ys) ∧ ∀ l, H l = none → sysModules < l → Q (.ref l) (upd H l (.lst ys))
theorem call_list_ofN {X : Cx} : CallR X (.type "list") (rListN X.K) := by
  intro pins s σ H xs us Q I r h
  obtain ⟨p, ys, rfl, hq, q⟩ := h
  obtain ⟨u, rfl, rx⟩ := vals1 r
  cases rx
  have fin : ∀ (its : List Value), Vals ys its → ys.length ≤ sizeLine → ∀ (h' : Heap) (c' : Nat), (∀ b o', s.heap.get? b = some o' → h'.get? b = some o') →
      h'.get? s.heap.objs.size = some { cls := .type "list", dict := none, data := .seq its.toArray c', slots := #[] } → EP X pins σ Q (.ref s.heap.objs.size) { s with heap := h' } := fun its r' hz h' c' kp e =>
    ⟨.ref s.heap.objs.size, _, I.laid (t' := s.toks) kp (Nat.le_refl _) (show ObjOk X.prog X.w _ h' _ (.lst ys) from ⟨hz, its, c', r', e⟩), rfl, q _ (I.hok.fresh (Nat.le_refl _)) I.big⟩
  rcases hq with hq | hq
  · obtain ⟨its, r', pl, hz⟩ := I.list hq
    have hlen := r'.length
    obtain ⟨o, ho, hc, n, hd⟩ := pl.isList
    exact call_list_seq p (.inl rfl) ho hc hd (fun h' c' kp e => fin its r' hz h' c' kp e) (by simp only [List.size_toArray] <;> omega)
  · obtain ⟨its, r', pl, hz⟩ := I.tuple hq
    have hlen := r'.length
    obtain ⟨o, ho, hc, n, hd⟩ := pl
    exact call_list_seq p (.inr rfl) ho hc hd (fun h' c' kp e => fin its r' hz h' c' kp e) (by simp only [List.size_toArray] <;> omega)
section
variable {K : Frag} {σ : L2.St} {H : Hp} {te t1 t2 : TE} {xs ys : List V}
/-- a tuple of xs, new or old -/
def EvS (K : Frag) (te : TE) (σ : L2.St) (H : Hp) (xs : List V) : Prop := ∀ H1, Ex H H1 → ∀ Q : VK, (∀ p H2, Ex H1 H2 → SqT K H2 p xs → Q (.ref p) H2) → te σ H1 Q
theorem es_var {i : Nat} {p : Addr} (h : σ[i]? = some (some (.ref p))) (hs : SqT K H p xs) : EvS K (tVar i) σ H xs := fun H1 e Q q => ⟨_, h, q p H1 (Ex.refl _) (ex_t e hs)⟩
theorem es_U (h : EvU te σ H xs) : EvS K te σ H xs := fun H1 e Q q => h H1 e _ fun p H2 _ e2 hp => q p H2 e2 (st_of hp)
theorem EvS.mono {H' : Hp} (h : EvS K te σ H xs) (e : Ex H H') : EvS K te σ H' xs := fun H1 e1 Q q => h H1 (e.trans e1) Q q
theorem cutV_all {lo hi : Option Int} (h : HT.sIx xs.length 0 lo = 0 ∧ HT.sIx xs.length xs.length hi = xs.length) : cutV xs lo hi = xs := by
  unfold cutV
  rw [h.1, h.2, List.drop_zero, Nat.sub_zero, List.take_length]
theorem es_sl {tl th : TO} {lo hi : Option Int} (h : EvS K te σ H xs) (h1 : EvO tl σ H lo) (h2 : EvO th σ H hi) : EvS K (tSl (rSlA K) te tl th) σ H (cutV xs lo hi) := fun H1 e Q q =>
  h H1 e _ fun p H2 e2 hp => h1 H2 (e.trans e2) _ fun H3 e3 => h2 H3 ((e.trans e2).trans e3) _ fun H4 e4 => ⟨p, xs, rfl, ex_t (e3.trans e4) hp,
    fun hw => by
      refine q p H4 ((e2.trans e3).trans e4) ?_
      rw [cutV_all hw]
      exact ex_t (e3.trans e4) hp,
    fun _ z hz => q z _ (((e2.trans e3).trans e4).trans (Ex.new hz)) (st_of upd_same)⟩
theorem es_cat (h1 : EvS K t1 σ H xs) (h2 : EvS K t2 σ H ys) (hl : xs.length + ys.length ≤ 1000000) : EvS K (tOp (rCatA K) t1 t2) σ H (xs ++ ys) := fun H1 e Q q =>
  h1 H1 e _ fun p H2 e2 hp => h2 H2 (e.trans e2) _ fun r H3 e3 hr => ⟨p, r, xs, ys, rfl, rfl, ex_t e3 hp, hr, (by rw [sizeLine_eq]; omega),
    fun hx => by
      subst hx
      exact q r H3 (e2.trans e3) hr,
    fun _ hy => by
      subst hy
      refine q p H3 (e2.trans e3) ?_
      rw [List.append_nil]
      exact ex_t e3 hp,
    fun _ _ z hz => q z _ ((e2.trans e3).trans (Ex.new hz)) (st_of upd_same)⟩
end
section
variable {K : Frag} {H : Hp} {d p : Addr} {kvs : List (Key × V)} {xs : List V}
theorem sqT_cut (hd : H d = some (.dK kvs)) (h : SqT K H p xs) : SqT K (cutH d H) p xs := by
  rcases h with (h | ⟨o, h⟩) | h
  · exact .inl (.inl (cut_at h (ne_of h hd (fun z => nomatch z)) (fun ps z => nomatch z)))
  · exact .inl (.inr ⟨o, cut_at h (ne_of h hd (fun z => nomatch z)) (fun ps z => nomatch z)⟩)
  · exact .inr h
theorem sqL_cut (hd : H d = some (.dK kvs)) (h : SqL K H p xs) : SqL K (cutH d H) p xs := by
  rcases h with (h | ⟨o, h⟩) | h
  · exact .inl (.inl (cut_at h (ne_of h hd (fun z => nomatch z)) (fun ps z => nomatch z)))
  · exact .inl (.inr ⟨o, cut_at h (ne_of h hd (fun z => nomatch z)) (fun ps z => nomatch z)⟩)
  · exact .inr h
end
end BJ

/-! lists compared that may hold anything: a list with itself, lists of different lengths, empty lists -/
namespace BJ
open PySem PySem.Spec PyProof.Rows L2 Evl
open PySem.W (Frag)
section
variable {X : Cx} {K : Frag}
def rNeSelf (K : Frag) : R2 := fun x y H Q => ∃ p xs, x = .ref p ∧ y = .ref p ∧ SqL K H p xs ∧ Q (.bl false) H
theorem op_neSelf (hK : X.K = K) (hu : X.A.units < cLine) : OpR X (compareOp .NotEq) (rNeSelf K) := by
  subst hK
  rintro pins s σ H x y v u Q I rx ry ⟨p, xs, rfl, rfl, hs, q⟩
  cases rx
  cases ry
  obtain ⟨us, r1, p1, _⟩ := I.list hs
  refine SeqAt.RcNeAt.lists (e := fun _ => true) p1.isList p1.isList rfl hu (fun j h1 h2 => SeqAt.EqAt.same _) X.prog X.w _ _ ?_
  refine ⟨.bl false, H, I, ?_, q⟩
  rw [show ((List.range us.toArray.size).all fun _ => true) = true from List.all_eq_true.mpr fun _ _ => rfl]
  rfl
/-- lists of different lengths, or both empty -/
def rEqLen (K : Frag) : R2 := fun x y H Q => ∃ p q xs ys, x = .ref p ∧ y = .ref q ∧ SqL K H p xs ∧ SqL K H q ys ∧ ((xs.length ≠ ys.length ∧ Q (.bl false) H) ∨ (xs = [] ∧ ys = [] ∧ Q (.bl true) H))
theorem op_eqLen (hK : X.K = K) (hu : X.A.units < cLine) : OpR X (compareOp .Eq) (rEqLen K) := by
  subst hK
  rintro pins s σ H x y v u Q I rx ry ⟨p, p2, xs, ys, rfl, rfl, hs, hs2, h⟩
  cases rx
  cases ry
  obtain ⟨us, r1, p1, _⟩ := I.list hs
  obtain ⟨ws, r2, p2, _⟩ := I.list hs2
  rcases h with ⟨hl, q⟩ | ⟨rfl, rfl, q⟩
  · refine SeqAt.RcAt.lists_lengths p1.isList p2.isList ?_ hu X.prog X.w _ _ ⟨.bl false, H, I, rfl, q⟩
    rw [List.size_toArray, List.size_toArray, ← r1.length, ← r2.length]
    simpa using hl
  · cases r1
    cases r2
    refine SeqAt.RcAt.lists (e := fun _ => true) p1.isList p2.isList rfl hu (fun j h1 h2 => absurd h1 (Nat.not_lt_zero j)) X.prog X.w _ _ ?_
    exact ⟨.bl true, H, I, rfl, q⟩
end
end BJ

/-! the dict of the modules is tracked from the law's call on: what is new is not it -/
namespace BJ
open PySem PySem.Spec PyProof.Rows L2 Evl
open PySem.W (Frag)
/-- the dict of the modules is known -/
def Tr (H : Hp) : Prop := ∃ o, H sysModules = some (.frz o (.ext fun _ => True))
theorem Tr.ex {H H' : Hp} (t : Tr H) (e : Ex H H') : Tr H' := t.imp fun _ h => e _ _ h
theorem Tr.ne {H : Hp} (t : Tr H) {p : Addr} (h : H p = none) : sysModules ≠ p := fun z => by
  obtain ⟨o, q⟩ := t
  rw [z, h] at q
  cases q
theorem Tr.but {H H' : Hp} {d : Addr} {kvs : List (Key × V)} (t : Tr H) (hd : H d = some (.dK kvs)) (b : SameBut d H H') : Tr H' := by
  obtain ⟨o, h⟩ := t
  exact ⟨o, b _ _ (ne_of h hd fun z => nomatch z) h⟩
theorem Tr.cut {H : Hp} {d : Addr} {kvs : List (Key × V)} (t : Tr H) (hd : H d = some (.dK kvs)) : Tr (cutH d H) := by
  obtain ⟨o, h⟩ := t
  exact ⟨o, cut_at h (ne_of h hd fun z => nomatch z) fun ps z => nomatch z⟩
theorem lawG2 {P : Program} {w : World} {K : Frag} {mg mb : Str → Option Value} {k : Nat} {fa a : Addr} {sp : Sp} {s₁ : Shared} {vs : List Value} {ns : List Int}
    (KX : K.In s₁.heap) (k1 : K.lookup sysModules = none) (hm : ∃ mm, s₁.heap.Ns sysModules mm) (hns : s₁.heap.Ns mainGlobals mg) (hb : s₁.heap.Ns builtinsNs mb) (hbb : ∀ x : Str, x ≠ "__name__" → mb x = bootBuiltins x) (hlim : s₁.heap.NoLimit) (hg : s₁.gens = #[])
    (ha : s₁.heap.get? a = some { cls := .type "list", data := .seq vs.toArray }) (hi : IntsAre vs ns) (hl : ns.length ≤ sizeLine) (hr : Room k callerA)
    (F : ∀ base : Heap, K.In base → base.Ns mainGlobals mg → CallP P w K mg base k (.ref fa) sp)
    (hsp : ∀ H : Hp, Tr H → Scr K H a (ns.map V.int) → sp [.ref a] H (fun v _ => v = .bl true) fun _ _ _ => False) :
    codeAny (model P w) callerA (.call (.ref fa) ⟨[.ref a], []⟩) (fun r s' => r = .ok (.ret (.bool true)) ∧ OldK s₁.heap s'.heap ∧ s'.os = s₁.os ∧ AllBare s'.gens) s₁ := by
  have rv := vals_ints hi
  obtain ⟨mm, om, em, pm, gm, dm, _⟩ := hm
  have ea : a ≠ sysModules := fun z => by
    rw [← z, ha] at gm
    cases gm
    cases dm
  -- what is tracked: the modules' dict; the script, if it is no object of the top
  have core : ∀ H : Hp, (∀ b u, H b = some u → (b = sysModules ∨ (b = a ∧ K.lookup a = none)) ∧ ∃ o x, u = .frz o x) → HOk P w H s₁.heap → Tr H → Scr K H a (ns.map V.int) →
      codeAny (model P w) callerA (.call (.ref fa) ⟨[.ref a], []⟩) (fun r s' => r = .ok (.ret (.bool true)) ∧ OldK s₁.heap s'.heap ∧ s'.os = s₁.os ∧ AllBare s'.gens) s₁ := by
    intro H hA hok hT hS
    have seen : ∀ {b : Addr} {o : Obj}, s₁.heap.get? b = some o → H b = none → (hidT s₁.heap H).get? b = some o := fun e n => hidT_get e n
    have spaces : ∀ {b : Addr} {m : Str → Option Value}, b ≠ sysModules → s₁.heap.Ns b m → (hidT s₁.heap H).Ns b m := by
      rintro b m hb ⟨o, es, ep, e, d, r⟩
      refine ⟨o, es, ep, seen e ?_, d, r⟩
      cases q : H b with
      | none => rfl
      | some u =>
        obtain ⟨z | ⟨rfl, _⟩, _⟩ := hA b u q
        · exact absurd z hb
        · rw [ha] at e
          cases e
          cases d
    have inK : K.In (hidT s₁.heap H) := by
      intro b o e
      refine seen (KX b o e) ?_
      cases q : H b with
      | none => rfl
      | some u =>
        obtain ⟨z | ⟨rfl, z⟩, _⟩ := hA b u q
        · rw [z, k1] at e
          cases e
        · rw [z] at e
          cases e
    obtain ⟨mc, l1, l2⟩ := id hlim
    have facts : Mod K mg (hidT s₁.heap H) := ⟨inK, spaces (by decide) hns, ⟨mb, spaces (by decide) hb, hbb⟩, ⟨mc, spaces (by decide) l1, l2⟩⟩
    have start : Env0 P w K mg (hidT s₁.heap H) callerA [] s₁ H :=
      ⟨rfl, facts, fun b o e => of_hidT e, Nat.le_of_eq (hidT_size _ _), trivial, (fun b hb => absurd (show b ∈ ([] : List Addr) from hb) (by simp)), hok, AllBare.of_eq hg⟩
    refine codeAny_mono (F _ inK (spaces (by decide) hns) callerA [] s₁ H [.ref a] [] [.ref a] [] _ _ hr rfl start (.cons rfl .nil) .nil ⟨rfl, hsp H hT hS⟩) ?_
    intro r s' h
    match r, h with
    | .error e, ⟨_, _, _, _, _, _, _, _, _, _, _, _, z⟩ => exact z.elim
    | .ok (.ret u), ⟨v, H', os, bare, un, hok', r', q⟩ =>
      obtain rfl : v = .bl true := q
      obtain rfl : u = Value.bool true := r'
      refine ⟨rfl, OldK.of_keep fun b o e => ?_, os, bare⟩
      cases q : H b with
      | none => exact un.keep b o e q (fun z => nomatch (show b ∈ ([] : List Addr) from z)) (fun z => nomatch z)
      | some u =>
        obtain ⟨_, ob, x, rfl⟩ := hA b u q
        have e1 := (hok b _ q).1
        have e2 := (hok' b _ (un.frzs b ob _ q)).1
        rw [e] at e1
        cases e1
        exact e2
  have okM : ∀ H : Hp, H sysModules = some (.frz om (.ext fun _ => True)) → ObjOk P w H s₁.heap sysModules (.frz om (.ext fun _ => True)) := fun H _ => ⟨gm, trivial, ⟨_, gm⟩, fun _ _ _ _ => trivial⟩
  cases hk : K.lookup a with
  | some o =>
    have e := KX a o hk
    rw [ha] at e
    cases e
    refine core (fun b => if b = sysModules then some (.frz om (.ext fun _ => True)) else none) (fun b u z => ?_) (fun b u z => ?_) ⟨om, if_pos rfl⟩ (.inr ⟨vs, 0, hk, rv, by rw [List.length_map]; exact hl⟩)
    · by_cases h : b = sysModules
      · cases (if_pos h).symm.trans z
        exact ⟨.inl h, _, _, rfl⟩
      · exact nomatch (if_neg h).symm.trans z
    · by_cases h : b = sysModules
      · cases (if_pos h).symm.trans z
        subst h
        exact okM _ (if_pos rfl)
      · exact nomatch (if_neg h).symm.trans z
  | none =>
    have cases3 : ∀ b u, (if b = a then some (HO.frz { cls := .type "list", data := .seq vs.toArray } (.lst (ns.map V.int))) else if b = sysModules then some (.frz om (.ext fun _ => True)) else none) = some u →
        (b = a ∧ u = .frz { cls := .type "list", data := .seq vs.toArray } (.lst (ns.map V.int))) ∨ (b = sysModules ∧ u = .frz om (.ext fun _ => True)) := fun b u z => by
      split at z
      · rename_i h
        cases z
        exact .inl ⟨h, rfl⟩
      · split at z
        · rename_i h
          cases z
          exact .inr ⟨h, rfl⟩
        · cases z
    refine core (fun b => if b = a then some (.frz { cls := .type "list", data := .seq vs.toArray } (.lst (ns.map V.int))) else if b = sysModules then some (.frz om (.ext fun _ => True)) else none) (fun b u z => ?_) (fun b u z => ?_)
      ⟨om, (if_neg fun z => ea z.symm).trans (if_pos rfl)⟩ (.inl (.inr ⟨_, if_pos rfl⟩))
    · rcases cases3 b u z with ⟨h, rfl⟩ | ⟨h, rfl⟩
      · exact ⟨.inr ⟨h, hk⟩, _, _, rfl⟩
      · exact ⟨.inl h, _, _, rfl⟩
    · rcases cases3 b u z with ⟨h, rfl⟩ | ⟨h, rfl⟩
      · subst h
        exact ⟨ha, by rw [List.length_map]; exact hl, vs, _, rv, ha⟩
      · subst h
        exact ⟨gm, trivial, ⟨_, gm⟩, fun _ _ _ _ => trivial⟩
open PySem.W in
theorem walkG2 {l : OpenLaw} {n k : Nat} {q : Program} {loose : List Str} {XP : (Str → Option Value) → Heap → Prop} {YP : World → Heap → Prop} {d : DefRec} {K : Params → Frag} {sp : World → Sp}
    (hn : l.most = some n) (hn2 : n ≤ sizeLine) (hdf : d.params.defaults = []) (hr : Room k callerA) (hY : ∀ (w : World) (h : Heap), YP w h → (K w.params).In h) (hi : importsNone q = true)
    (hk1 : ∀ w : World, (K w.params).lookup sysModules = none)
    (F : ∀ (w : World) (mg : Str → Option Value) (fa : Addr) (h : Heap), (K w.params).In h → h.Ns mainGlobals mg → mg d.name = some (.ref fa) →
      ∀ base : Heap, (K w.params).In base → base.Ns mainGlobals mg → CallP l.prog w (K w.params) mg base k (.ref fa) (sp w))
    (hsp : ∀ (w : World) (H : Hp) (a : Addr) (ns : List Int), Tr H → ns.length ≤ n → (∀ z ∈ ns, Builtin.Int.intBits z ≤ 1048576) → Scr (K w.params) H a (ns.map V.int) → sp w [.ref a] H (fun v _ => v = .bl true) fun _ _ _ => False) :
    WalkO q loose XP YP l.row.toRowW d [] (fun f vs => PySem.call f vs) := by
  refine Att.attach_callB hn hdf fun w s₀ s₁ mg mb fa o pm cd doc a vs ns G Y ho hd hcd hmg hobj hints hlen hbits hg => ?_
  have KX := hY w _ Y
  obtain ⟨mm, hmm, _⟩ := (G.T.seer hi).mods
  exact lawG2 KX (hk1 w) ⟨mm, hmm⟩ G.T.g G.T.b G.T.builtins G.T.nolimit hg hobj hints (Nat.le_trans hlen hn2) hr (F w mg fa _ KX G.T.g hmg) fun H hT hS => hsp w H a ns hT hlen hbits hS
end BJ

/-! what evaluates: chained comparisons, fields -/
namespace BJ
open PySem PySem.Spec PyProof.Rows L2 Evl
open PySem.W (Frag)
section
variable {σ : L2.St} {H : Hp} {x y z v : V} {r r' : R2} {ta tb tc te : TE} {K : Frag}
theorem ev_chain {k : Bool} (ha : Ev ta σ H x) (hb : Ev tb σ H y) (h1 : RV r x y H (.bl k)) (h2 : k = true → Ev tc σ H z ∧ RV r' y z H v) (h3 : k = false → v = .bl false) : Ev (tChain r r' ta tb tc) σ H v := fun H1 e Q q =>
  ha H1 e _ fun H2 e2 => hb H2 (e.trans e2) _ fun H3 e3 => h1 H3 ((e.trans e2).trans e3) _ fun H4 e4 => ⟨k, rfl, by
    have e14 := (e2.trans e3).trans e4
    cases k with
    | true =>
      rw [if_pos rfl]
      exact (h2 rfl).1 H4 (e.trans e14) _ fun H5 e5 => (h2 rfl).2 H5 ((e.trans e14).trans e5) _ fun H6 e6 => q H6 ((e14.trans e5).trans e6)
    | false =>
      rw [if_neg Bool.false_ne_true]
      rw [h3 rfl] at q
      exact q H4 e14⟩
theorem ev_fld {f : Str} {p C dx : Addr} {fs : List (Str × V)} (he : Ev te σ H (.ref p)) (hp : H p = some (.ins C dx fs)) (c : Cls K C) (n : NoAttr K C f) (l : fs.lookup f = some v) : Ev (tFld K te f) σ H v := fun H1 e Q q =>
  he H1 e _ fun H2 e2 => ⟨p, C, dx, fs, v, rfl, (e.trans e2) _ _ hp, c, n, l, q H2 e2⟩
end
section
variable {X : Cx} {K : Frag}
def rTupOf (K : Frag) : List V → Hp → VK → Prop := fun xs H Q => ∃ p ys, xs = [.ref p] ∧ ((SqL K H p ys ∧ ∀ l, H l = none → Q (.ref l) (upd H l (.tup ys))) ∨ (SqT K H p ys ∧ Q (.ref p) H))
theorem pi_list' {tg l : Expr} {tl : TE} (hK : X.K = K) (hl : PE X l tl) : PI X tg l (iList K tl) := by subst hK; exact pi_list hl
theorem pi_tup' {tg l : Expr} {tl : TE} (hK : X.K = K) (hl : PE X l tl) : PI X tg l (iTup K tl) := by subst hK; exact pi_tup hl
theorem call_len_seq' (hK : X.K = K) : CallR X (.builtin "len") (rLenS K) := by subst hK; exact call_len_seq
theorem call_tuple_of' (hK : X.K = K) : CallR X (.type "tuple") (rTupOf K) := by subst hK; exact call_tuple_of
theorem call_list_of' (hK : X.K = K) : CallR X (.type "list") (rListS K) := by subst hK; exact call_list_of
end
end BJ

/-! calls of methods within try: the reading names the context ahead of the try -/
namespace BJ
open PySem PySem.Spec PyProof.Rows L2 Evl
open PySem.W (Frag)
structure SameCx (X X0 : Cx) : Prop where
  p : X.prog = X0.prog
  w : X.w = X0.w
  k : X.K = X0.K
  m : X.mg = X0.mg
  b : X.base = X0.base
  a : X.A = X0.A
section
variable {X X0 : Cx} {o e : Expr} {es : List Expr} {kws : List Keyword} {m : Str} {apos pos : Pos} {pl : Sem Bool} {W : WX} {ta : TE} {t tk : TA} {ks : List Str}
theorem tMe_same (h : SameCx X X0) : tMe X0 m W ta t tk ks = tMe X m W ta t tk ks := by
  unfold tMe
  rw [h.p, h.w, h.k, h.m, h.b, h.a]
theorem tPr_same {f : Str} (h : SameCx X X0) : tPr X0 f ta = tPr X f ta := by
  unfold tPr
  rw [h.p, h.w, h.k, h.m, h.b, h.a]
theorem pe_pr' {f : Str} (sc : SameCx X X0) (he : PE X o ta) (hab : attributeBase o f X.env (eval o X.env) = eval o X.env := by rfl) : PE X (.Attribute o f pos) (tPr X0 f ta) := by
  rw [tPr_same sc]
  exact pe_pr he hab
theorem pe_me' (sc : SameCx X X0) (he : PE X o ta) (tkW : Takes X W) (ha : PA X (e :: es) t) (hkw : PK X kws tk)
    (hall : (backToKw pos (keywordEach kws X.env)).all (·.1.isSome) = true := by rfl) (hks : (backToKw pos (keywordEach kws X.env)).filterMap (·.1) = ks := by rfl)
    (hst : starEach (e :: es) X.env = (false, eval e X.env) :: starEach es X.env := by rfl)
    (hpl : ((backTo pos (starEach (e :: es) X.env)).any (·.1) || (backToKw pos (keywordEach kws X.env)).any (·.1.isNone)) = false := by rfl)
    (ht : eval (.Call (.Attribute o m apos) (e :: es) kws pos) X.env = (do
      let ov ← eval o X.env
      standAt apos.atName
      let (f, first) ← holding [ov] (getMethod ov m pl)
      callWith pos f first (backTo pos (starEach (e :: es) X.env)) (backToKw pos (keywordEach kws X.env))) := by rfl) :
    PE X (.Call (.Attribute o m apos) (e :: es) kws pos) (tMe X0 m W ta t tk ks) := by
  rw [tMe_same sc]
  exact pe_me he tkW ha hkw hall hks hst hpl ht
theorem pe_me0' (sc : SameCx X X0) (he : PE X o ta) (tkW : Takes X W) (hkw : PK X kws tk)
    (hall : (backToKw pos (keywordEach kws X.env)).all (·.1.isSome) = true := by rfl) (hks : (backToKw pos (keywordEach kws X.env)).filterMap (·.1) = ks := by rfl)
    (hpl : ((backTo pos (starEach [] X.env)).any (·.1) || (backToKw pos (keywordEach kws X.env)).any (·.1.isNone)) = false := by rfl)
    (ht : eval (.Call (.Attribute o m apos) [] kws pos) X.env = (do
      let ov ← eval o X.env
      standAt apos.atName
      let (f, first) ← holding [ov] (getMethod ov m pl)
      callWith pos f first (backTo pos (starEach [] X.env)) (backToKw pos (keywordEach kws X.env))) := by rfl) :
    PE X (.Call (.Attribute o m apos) [] kws pos) (tMe X0 m W ta tNil tk ks) := by
  rw [tMe_same sc]
  exact pe_me0 he tkW hkw hall hks hpl ht
end
end BJ

/-! some places change, all else stands -/
namespace BJ
open PySem PySem.Spec PyProof.Rows L2 Evl
open PySem.W (Frag)
/-- what stands in H stands in H', the places L aside -/
def ButL (L : List Addr) (H H' : Hp) : Prop := ∀ p o, p ∉ L → H p = some o → H' p = some o
section
variable {L L' : List Addr} {H H1 H2 : Hp}
theorem ButL.refl : ButL L H H := fun _ _ _ h => h
theorem ButL.trans (a : ButL L H H1) (b : ButL L H1 H2) : ButL L H H2 := fun p o n h => b p o n (a p o n h)
theorem ButL.ex (e : Ex H H1) : ButL L H H1 := fun p o _ h => e p o h
theorem ButL.sb {d : Addr} (b : SameBut d H H1) (hd : d ∈ L) : ButL L H H1 := fun p o n h => b p o (fun z => n (z ▸ hd)) h
theorem ButL.upd {a : Addr} {o : HO} (ha : a ∈ L) : ButL L H (upd H a o) := fun p u n h => by
  have hp : p ≠ a := fun z => n (by rw [z]; exact ha)
  rw [upd_ne hp]
  exact h
theorem ButL.mono (b : ButL L H H1) (h : ∀ p ∈ L, p ∈ L') : ButL L' H H1 := fun p o n q => b p o (fun z => n (h p z)) q
/-- of the places in L only d was there -/
theorem ButL.only {d : Addr} (b : ButL L H H1) (h : ∀ p ∈ L, p = d ∨ H p = none) : SameBut d H H1 := fun p o n q => b p o (fun z => by
  rcases h p z with e | e
  · exact n e
  · rw [e] at q; cases q) q
theorem ButL.sqT {K : Frag} {p : Addr} {xs : List V} (b : ButL L H H1) (hL : ∀ q ∈ L, (∃ kvs, H q = some (.dK kvs)) ∨ (∃ ys, H q = some (.lst ys)) ∨ H q = none) (h : SqT K H p xs) : SqT K H1 p xs := by
  have off : ∀ {o}, H p = some o → (∀ kvs, o ≠ .dK kvs) → (∀ ys, o ≠ .lst ys) → p ∉ L := fun ho h1 h2 hm => by
    rcases hL p hm with ⟨kvs, q⟩ | ⟨ys, q⟩ | q
    · rw [ho] at q; cases q; exact h1 _ rfl
    · rw [ho] at q; cases q; exact h2 _ rfl
    · rw [ho] at q; cases q
  rcases h with (h | ⟨o, h⟩) | h
  · exact .inl (.inl (b p _ (off h (fun _ z => nomatch z) (fun _ z => nomatch z)) h))
  · exact .inl (.inr ⟨o, b p _ (off h (fun _ z => nomatch z) (fun _ z => nomatch z)) h⟩)
  · exact .inr h
end
end BJ

/-! generators of any body: yields, loops, statements; they raise nothing -/
namespace BJ
open PySem PySem.Spec PyProof.Rows L2 Evl GenW
open PySem.W (Frag)
/-- what a generator's context is, ahead of its run: ws are the consumer's objects, go at a its own -/
structure YX (X : Cx) (ws : List Addr) (a : Addr) (go : Obj) : Prop where
  ex : X.ex = []
  gen : (a, go) ∈ X.pn
  pn : ∀ p ∈ X.pn, p.1 ∉ ws
  young : ∀ b ∈ ws, X.s_0.heap.objs.size ≤ b
  none : ∀ e s, X.xe e s → False
  calm : X.calm = true
/-- it runs, woken at s₀; ip: its own iterators -/
structure RY (X : Cx) (ws : List Addr) (ip : List (Addr × Obj)) (s₀ s : Shared) (σ : L2.St) (H : Hp) : Prop where
  inv : Inv X (pinsAt ws s₀.heap ++ ip) σ H s
  there : ∀ b ∈ ws, ∃ o, s₀.heap.get? b = some o ∧ ∀ v, o.data ≠ .cell v
  off : ∀ p ∈ ip, p.1 ∉ ws
section
variable {X : Cx} {ws : List Addr} {a : Addr} {go : Obj} {ip : List (Addr × Obj)} {s₀ s t : Shared} {σ : L2.St} {H : Hp}
theorem RY.ws0 (r : RY X ws ip s₀ s σ H) : ∀ b ∈ ws, H b = none ∧ b ≠ X.env.locals ∧ b ∉ X.fs := fun b hb => by
  obtain ⟨o, e, _⟩ := r.there b hb
  obtain ⟨_, h2, h3, h4, _⟩ := r.inv.pin (b, o) (List.mem_append_right _ (List.mem_append_left _ (mem_pinsAt hb e)))
  exact ⟨h2, h3, h4⟩
theorem RY.same (r : RY X ws ip s₀ s σ H) : ∀ b ∈ ws, ∀ o, s₀.heap.get? b = some o → s.heap.get? b = some o := fun b hb o e =>
  (r.inv.pin (b, o) (List.mem_append_right _ (List.mem_append_left _ (mem_pinsAt hb e)))).1
theorem RY.cn (Y : YX X ws a go) (r : RY X ws ip s₀ s σ H) : Cn X.prog X.w X.outer X.H_0 H X.s_0 ws a go s := by
  have hb := r.inv.base
  rw [Y.ex] at hb
  exact ⟨r.inv.os, r.inv.bare, hb, r.inv.hok, r.inv.nolimit, (r.inv.pin (a, go) (List.mem_append_left _ Y.gen)).1, fun b hb => (r.ws0 b hb).1⟩
/-- woken again -/
theorem RY.woken (Y : YX X ws a go) (r : RY X ws ip s₀ s σ H) (z : Doze ws s t) : RY X ws ip t t σ H := by
  have w0 := r.ws0
  have I0 : Inv X ip σ H s := r.inv.pins_of fun p hp => r.inv.pin p (List.mem_append_right _ (List.mem_append_right _ hp))
  have cellW : ∀ x c, X.env.cells.lookup x = some c → c ∉ ws := fun x c e hm => by
    obtain ⟨o, e1, d⟩ := r.there c hm
    obtain ⟨v, o2, e2, d2⟩ := r.inv.cell x c e
    rw [r.same c hm o e1] at e2
    cases e2
    exact d _ d2
  obtain ⟨hh, g, dd, tk, o⟩ := t
  have ho : o = s.os := z.os
  subst ho
  have J : Inv X ip σ H { s with heap := hh, gens := g, drawn := dd, toks := tk } := by
    refine I0.step (ch := ws) (fun b hb => ⟨.inr (Y.young b hb), (w0 b hb).2.1, fun x c e h => cellW x c e (h ▸ hb), fun p hp h => ?_⟩) (fun b u _ _ hc e _ => z.keep b u hc e) (fun b u _ _ hc e _ => ⟨u.slots, z.keep b u hc e⟩)
      (fun _ _ _ _ n => n) (fun b u hc e => ⟨u, z.keep b u hc e⟩) (fun _ _ q => q) (fun _ _ _ q => q) (fun b ps q => ⟨#[], by rw [q]; simp⟩) (fun m hm => ?_) (fun b u q => ?_) z.bare
    · rcases List.mem_append.mp hp with h2 | h2
      · exact Y.pn p h2 (h ▸ hb)
      · exact r.off p h2 (h ▸ hb)
    · obtain ⟨u, es, ep, hu, rr⟩ := hm
      exact ⟨u, es, ep, z.keep _ u (fun hb => (w0 _ hb).2.1 rfl) hu, rr⟩
    · refine (I0.hok b u q).stay (fun c v hc y => z.keep c v (fun hb => ?_) y) (fun _ y => y) fun _ _ y => y
      have n := (w0 c hb).1
      rcases hc with h | h
      · rw [h, q] at n; cases n
      · rw [h] at n; cases n
  refine ⟨J.pins_of fun p hp => ?_, z.there, r.off⟩
  rcases List.mem_append.mp hp with h | h
  · obtain ⟨hb, e⟩ := of_pinsAt h
    obtain ⟨q1, q2, q3⟩ := w0 p.1 hb
    obtain ⟨o2, e2, d2⟩ := z.there p.1 hb
    refine ⟨e, q1, q2, q3, ?_⟩
    have e3 : hh.get? p.1 = some p.2 := e
    have e4 : hh.get? p.1 = some o2 := e2
    rw [e3] at e4
    cases e4
    exact d2
  · exact J.pin p (List.mem_append_right _ h)
end
/-- what is wanted behind a statement: by how many items are out -/
structure YEnds where
  nx : Nat → L2.St → Hp → Prop
  bk : Nat → L2.St → Hp → Prop := fun _ _ _ => False
  ct : Nat → L2.St → Hp → Prop := fun _ _ _ => False
def YEnds.at (D : YEnds) (i : Nat) : Ends := { nx := D.nx i, rt := fun _ _ => False, bk := D.bk i, ct := D.ct i }
/-- reading: what is handed out in all, what is wanted of the heap at each item -/
abbrev TYs := List V → (Hp → Prop) → YEnds → Nat → L2.St → Hp → Prop
def YSP (X : Cx) (ws : List Addr) (ip : List (Addr × Obj)) (s₀ : Shared) (D : YEnds) (i : Nat) (f : Flow) (s : Shared) : Prop :=
  match f with
  | .next => ∃ σ H, RY X ws ip s₀ s σ H ∧ D.nx i σ H
  | .brk => ∃ σ H, RY X ws ip s₀ s σ H ∧ D.bk i σ H
  | .cont => ∃ σ H, RY X ws ip s₀ s σ H ∧ D.ct i σ H
  | .ret _ => False
/-- where its code stands -/
structure YC (X : Cx) (A : Around) (c : Code) (fs : List Frame) (gd : Bool → Bool) : Prop where
  (over : A.over c fs = X.A) (split : splitAtGen fs = none) (guard : fs.any Frame.guarded = false) (gd : gd false = false)
abbrev YPr (X : Cx) (ws : List Addr) (a : Addr) (go : Obj) (xs : List V) (Q : Hp → Prop) : Protocol := YItm X.prog X.w X.outer X.H_0 X.s_0 ws a go xs Q
abbrev YOk (X : Cx) (ws : List Addr) (ip : List (Addr × Obj)) (a : Addr) (go : Obj) (xs : List V) (Q : Hp → Prop) (A : Around) (R : GenEnd) (c : Code) (fs : List Frame) (K : Flow → Sem PySem.Fin) (D : YEnds) : Prop :=
  ∀ (n i : Nat) (s₀ s : Shared) (f : Flow), n + i = xs.length → YSP X ws ip s₀ D i f s → Seg (model X.prog X.w) A R (YPr X ws a go xs Q) n s₀ c (K f) fs s
structure YS (X : Cx) (st : Stmt) (t : TYs) : Prop where
  run : ∀ (ws : List Addr) (ip : List (Addr × Obj)) (a : Addr) (go : Obj) (xs : List V) (Q : Hp → Prop) (A : Around) (R : GenEnd) (n i : Nat) (s₀ : Shared) (c : Code) (fs : List Frame) (K : Flow → Sem PySem.Fin) (J : Value → Sem PySem.Fin) (gd : Bool → Bool) (lv : List Value → List Value) (s : Shared) (σ : L2.St) (H : Hp) (D : YEnds),
    YX X ws a go → YC X A c fs gd → n + i = xs.length → YOk X ws ip a go xs Q A R c fs K D → RY X ws ip s₀ s σ H → t xs Q D i σ H →
    Seg (model X.prog X.w) A R (YPr X ws a go xs Q) n s₀ c ((exec st X.env).wrap K J gd lv) fs s
structure YSs (X : Cx) (st : List Stmt) (t : TYs) : Prop where
  run : ∀ (ws : List Addr) (ip : List (Addr × Obj)) (a : Addr) (go : Obj) (xs : List V) (Q : Hp → Prop) (A : Around) (R : GenEnd) (n i : Nat) (s₀ : Shared) (c : Code) (fs : List Frame) (K : Flow → Sem PySem.Fin) (J : Value → Sem PySem.Fin) (gd : Bool → Bool) (lv : List Value → List Value) (s : Shared) (σ : L2.St) (H : Hp) (D : YEnds),
    YX X ws a go → YC X A c fs gd → n + i = xs.length → YOk X ws ip a go xs Q A R c fs K D → RY X ws ip s₀ s σ H → t xs Q D i σ H →
    Seg (model X.prog X.w) A R (YPr X ws a go xs Q) n s₀ c ((execs st X.env).wrap K J gd lv) fs s
section
variable {X : Cx} {rest : List Stmt} {st : Stmt}
def tYPs (t : TS) : TYs := fun _ _ D i σ H => t (D.at i) σ H
theorem ysp_of {ws : List Addr} {ip : List (Addr × Obj)} {s₀ s : Shared} {D : YEnds} {i : Nat} {f : Flow} (ht : ∀ b ∈ ws, ∃ o, s₀.heap.get? b = some o ∧ ∀ v, o.data ≠ .cell v) (ho : ∀ p ∈ ip, p.1 ∉ ws) (h : SP X (pinsAt ws s₀.heap ++ ip) (D.at i) f s) : YSP X ws ip s₀ D i f s := by
  cases f with
  | next => obtain ⟨σ, H, I, q⟩ := h; exact ⟨σ, H, ⟨I, ht, ho⟩, q⟩
  | brk => obtain ⟨σ, H, I, q⟩ := h; exact ⟨σ, H, ⟨I, ht, ho⟩, q⟩
  | cont => obtain ⟨σ, H, I, q⟩ := h; exact ⟨σ, H, ⟨I, ht, ho⟩, q⟩
  | ret u => obtain ⟨v, σ, H, I, r1, q⟩ := h; exact q
theorem ys_ps {t : TS} (h : PS X st t) : YS X st (tYPs t) := by
  refine ⟨fun ws ip a go xs Q A R n i s₀ c fs K J gd lv s σ H D Y g hn k r ht => seg_wrap ?_⟩
  rw [g.over]
  exact wpAny_mono (h.run _ s σ H (D.at i) r.inv ht) (fun f s' hs => k n i s₀ s' f hn (ysp_of r.there r.off hs)) fun x s' hx => (Y.none x s' hx).elim
def tY0 : TYs := fun _ _ D i σ H => D.nx i σ H
theorem yss_nil : YSs X [] tY0 := ⟨fun ws ip a go xs Q A R n i s₀ c fs K J gd lv s σ H D Y g hn k r ht => seg_execs_nil (k n i s₀ s .next hn ⟨σ, H, r, ht⟩)⟩
def tYThen (t u : TYs) : TYs := fun xs Q D i σ H => t xs Q { D with nx := u xs Q D } i σ H
theorem yss_cons {t u : TYs} (p : YS X st t) (q : YSs X rest u) : YSs X (st :: rest) (tYThen t u) := by
  refine ⟨fun ws ip a go xs Q A R n i s₀ c fs K J gd lv s σ H D Y g hn k r ht => seg_execs_cons ?_⟩
  refine p.run ws ip a go xs Q A R n i s₀ c fs _ J gd lv s σ H { D with nx := u xs Q D } Y g hn (fun n' i' s₀' s' f hn' hs => ?_) r ht
  cases f with
  | next =>
    obtain ⟨σ', H', r', h'⟩ := hs
    exact q.run ws ip a go xs Q A R n' i' s₀' c fs K J gd lv s' σ' H' D Y g hn' k r' h'
  | brk => exact k n' i' s₀' s' .brk hn' hs
  | cont => exact k n' i' s₀' s' .cont hn' hs
  | ret u => exact hs.elim
/-- yield e -/
def tYield (te : TE) : TYs := fun xs Q D i σ H => i < xs.length ∧ te σ H fun x H1 => xs[i]? = some x ∧ Q H1 ∧ D.nx (i + 1) σ H1
theorem ys_yield {e : Expr} {te : TE} {yp pos : Pos} (he : PE X e te) (hco : X.env.scope.isCoroutine = false := by rfl) (hi : interactive X.env = false := by rfl) : YS X (.Expr (.Yield (some e) yp) pos) (tYield te) := by
  refine ⟨fun ws ip a go xs Q A R n i s₀ c fs K J gd lv s σ H D Y g hn k r ht => ?_⟩
  obtain ⟨hlt, ht⟩ := ht
  obtain ⟨n, rfl⟩ : ∃ m, n = m + 1 := ⟨n - 1, by omega⟩; refine seg_Expr_Yield g.split g.gd g.guard ?_ hco hi
  rw [g.over]
  refine wpAny_mono (he.run _ s σ H _ r.inv ht) (fun v s' hv => ?_) fun x s' hx => (Y.none x s' hx).elim
  obtain ⟨x, H1, I1, rv, hx, hQ, q⟩ := hv
  have r1 : RY X ws ip s₀ s' σ H1 := ⟨I1, r.there, r.off⟩
  intro kap hk
  refine ⟨x, H1, ?_, rv, by omega, r1.cn Y, hQ, r1.same, fun s'' z => hk .none s'' ?_⟩
  · rw [show xs.length - (n + 1) = i by omega]
    exact hx
  · exact k n (i + 1) s'' s'' .next (by omega) ⟨σ, H1, r1.woken Y z, q⟩
end
end BJ

/-! generators: for loops within them; the def's promise -/
namespace BJ
open PySem PySem.Spec PyProof.Rows L2 Evl GenW
open PySem.W (Frag)
section
variable {X : Cx}
def tYFor (wi : TI) (g : TG) (tb : TYs) : TYs := fun xs Q D i σ H => wi σ H fun J H1 => ∃ W : Nat → Nat → Nat → L2.St → Hp → Prop, (∃ m, W 0 m i σ H1) ∧ ∀ k m i σ H, W k m i σ H →
  (J.stop k H ∧ D.nx i σ H) ∨ (J.go k H ∧ ∃ N : Nat → L2.St → Hp → Prop, (∀ i' σ' H', N i' σ' H' → ∃ m', m' < m ∧ W (k + 1) m' i' σ' H') ∧
    ∀ x H', J.yld k H x H' → g x σ H' fun σ2 H2 => tb xs Q { nx := N, ct := N, bk := D.nx } i σ2 H2)
theorem yc_loop {A : Around} {c c' : Code} {fs : List Frame} {gd : Bool → Bool} {k : Result → Sem PySem.Fin} {l kp : List Value} {p : Pos} (g : YC X A c fs gd) (hw : c'.weight = 0) (hu : c'.cUnits = 0) : YC X A c' (.ret k none (gd false) l c p kp :: fs) id :=
  ⟨(over_loop hw hu).trans g.over, (show (splitAtGen fs).map _ = _ by rw [g.split]; rfl), (show (gd false || fs.any Frame.guarded) = _ by rw [g.gd, g.guard]; rfl), rfl⟩
/-- what a loop's call does with what comes back -/
abbrev loopK (K : Flow → Sem PySem.Fin) (J : Value → Sem PySem.Fin) (gd : Bool → Bool) (lv : List Value → List Value) (env : Env) : Result → Sem PySem.Fin := fun r =>
  ((match r with | .ok f => (.pure f : Sem Flow) | .error e => .raise e).onRaise (cameBack env)).wrap K J gd lv
theorem ys_for {tg iter : Expr} {body : List Stmt} {wi : TI} {g : TG} {tb : TYs} {pos : Pos} (hi : PI X tg iter wi) (hg : PG X tg g) (hb : YSs X body tb) (hs : ∀ x, foldedSetIterable iter X.env x = pure x := by intro _; rfl) : YS X (.For tg iter body [] pos) (tYFor wi g tb) := by
  refine ⟨fun ws ip a go xs Q A R n i s₀ c fs K J gd lv s σ H D Y gc hn kk r ht => ?_⟩
  rw [exec_For]
  refine seg_bind_wrap (wpAny_standAt ?_); refine seg_bind_wrap ?_
  rw [gc.over]
  refine wpAny_mono (hi.run _ s σ H _ r.inv ht) (fun v s1 hv => ?_) fun x s' hx => (Y.none x s' hx).elim
  refine seg_bind_wrap (wpAny_of_eq (hs v) (seg_bind_wrap (wpAny_standAt (seg_bind_wrap (wpAny_holding ?_)))))
  rw [gc.over]
  refine wpAny_mono hv (fun u s2 hu => ?_) fun x s' hx => (Y.none x s' hx).elim
  obtain ⟨it, fp, tn, Jt, H2, rfl, I2, T, st2, f2, W, ⟨m0, w0⟩, turn⟩ := hu
  refine seg_call fun p => ?_
  have offW : ∀ b ∈ fp, b ∉ ws := fun b hb hm => by
    obtain ⟨o, e, _⟩ := r.there b hm
    exact (f2 b hb).2.2.2.2.2 (b, o) (List.mem_append_right _ (List.mem_append_left _ (mem_pinsAt hm e))) rfl
  have stat : ∀ {s₁ : Shared} {H' : Hp}, (∀ b ∈ fp, H' b = none) → ∀ b ∈ fp, FpOk X (pinsAt ws s₁.heap ++ ip) H' b := fun {s₁ H'} hn b hb => by
    obtain ⟨_, h2, h3, h4, h5, h6⟩ := f2 b hb
    refine ⟨hn b hb, h2, h3, h4, h5, fun q hq => ?_⟩
    rcases List.mem_append.mp hq with h | h
    · exact h6 q (List.mem_append_left _ h)
    · rcases List.mem_append.mp h with h | h
      · exact fun z => offW b hb (z ▸ (of_pinsAt h).1)
      · exact h6 q (List.mem_append_right _ (List.mem_append_right _ h))
  have loop : ∀ (m n k i : Nat) (s₀ s : Shared) (σ : L2.St) (H : Hp), n + i = xs.length → W k m i σ H → RY X ws ip s₀ s σ H → tn k s.heap → (∀ b ∈ fp, H b = none) →
      Seg (model X.prog X.w) A R (YPr X ws a go xs Q) n s₀ (.forLoop tg (.ref it) body [] X.env) ((model X.prog X.w).den (.forLoop tg (.ref it) body [] X.env))
        (.ret (loopK K J gd lv X.env) none (gd false) (lv []) c p [] :: fs) s := by
    intro m
    induction m using Nat.strongRecOn with
    | ind m ih =>
      intro n k i s₀ s σ H hn w3 r3 st3 fr3
      have gl := yc_loop (k := loopK K J gd lv X.env) (c' := .forLoop tg (.ref it) body [] X.env) (l := lv []) (kp := []) (p := p) gc rfl rfl
      show Seg _ _ _ _ _ _ _ ((forTurn tg (.ref it) body [] X.env).onRaise (fun x => do noteFrame x X.env; theTreesLotGoes x)) _ _
      rw [Sem.onRaise_eq_wrap]
      unfold forTurn
      refine seg_bind_wrap (wpAny_standAt ?_); refine seg_bind_wrap ?_
      rw [gl.over]
      refine wpAny_onRaise ?_
      rcases turn k m i σ H w3 with ⟨stop, qn⟩ | ⟨goes, N, hN, step⟩
      · refine wpAny_mono (T.done X rfl rfl rfl Y.calm k _ s σ H (fun _ _ => False) r3.inv (stat fr3) st3 stop) (fun q s4 hq => ?_) fun _ _ h => h.elim
        obtain ⟨rfl, I4⟩ := hq
        refine seg_again rfl ?_
        exact seg_leaf (.ok .next) (kk n i s₀ s4 .next hn ⟨σ, H, ⟨I4, r3.there, r3.off⟩, qn⟩)
      · refine wpAny_mono (T.item X rfl rfl rfl Y.calm k _ s σ H (fun _ _ => False) r3.inv (stat fr3) st3 goes) (fun q s4 hq => ?_) fun _ _ h => h.elim
        obtain ⟨u, rfl, h4⟩ := hq
        refine seg_bind_wrap ?_
        rw [gl.over]
        refine wpAny_mono h4 (fun _ s5 h5 => ?_) fun _ _ h => h.elim
        obtain ⟨x, H5, I5, r5, y5, st5, fr5⟩ := h5
        have I5' := I5.pinned (stat fr5) (T.obj _ _ st5); refine seg_bind_wrap ?_
        rw [gl.over]
        refine wpAny_mono (hg.run _ s5 σ H5 x u _ I5' r5 (step x H5 y5)) (fun _ s6 h6 => ?_) fun x s' hx => (Y.none x s' hx).elim
        obtain ⟨σ6, H6, I6, q6⟩ := h6
        rw [List.append_assoc] at I6
        have r6 : RY X ws (ip ++ pinsAt fp s5.heap) s₀ s6 σ6 H6 := ⟨I6, r3.there, fun q hq => by
          rcases List.mem_append.mp hq with h | h
          · exact r3.off q h
          · exact offW q.1 (of_pinsAt h).1⟩
        have back : ∀ {s₁ s7 : Shared} {σ7 : L2.St} {H7 : Hp}, RY X ws (ip ++ pinsAt fp s5.heap) s₁ s7 σ7 H7 → RY X ws ip s₁ s7 σ7 H7 ∧ tn (k + 1) s7.heap ∧ ∀ b ∈ fp, H7 b = none := fun {s₁ s7 σ7 H7} r7 => by
          have at7 : ∀ b ∈ fp, ∀ o, s5.heap.get? b = some o → s7.heap.get? b = some o ∧ H7 b = none := fun b hb o e => by
            obtain ⟨q1, q2, _⟩ := r7.inv.pin (b, o) (List.mem_append_right _ (List.mem_append_right _ (List.mem_append_right _ (mem_pinsAt hb e))))
            exact ⟨q1, q2⟩
          refine ⟨⟨r7.inv.pins_of fun q hq => r7.inv.pin q (List.mem_append_right _ ?_), r7.there, fun q hq => r7.off q (List.mem_append_left _ hq)⟩, T.keep _ _ _ st5 fun b hb o e => (at7 b hb o e).1, fun b hb => ?_⟩
          · rcases List.mem_append.mp hq with h | h
            · exact List.mem_append_left _ h
            · exact List.mem_append_right _ (List.mem_append_left _ h)
          · obtain ⟨o, e, _⟩ := T.obj _ _ st5 b hb
            exact (at7 b hb o e).2
        rw [Sem.bind_eq_wrap', Sem.wrap_wrap]
        refine hb.run ws (ip ++ pinsAt fp s5.heap) a go xs Q A R n i s₀ _ _ _ _ _ _ s6 σ6 H6 { nx := N, ct := N, bk := D.nx } Y gl hn (fun n' i' s₀' s7 f hn' hs7 => ?_) r6 q6
        cases f with
        | next =>
          obtain ⟨σ7, H7, r7, n7⟩ := hs7
          obtain ⟨b1, b2, b3⟩ := back r7
          obtain ⟨m', hm, w7⟩ := hN i' σ7 H7 n7
          exact seg_again rfl (ih m' hm n' (k + 1) i' s₀' s7 σ7 H7 hn' w7 b1 b2 b3)
        | cont =>
          obtain ⟨σ7, H7, r7, n7⟩ := hs7
          obtain ⟨b1, b2, b3⟩ := back r7
          obtain ⟨m', hm, w7⟩ := hN i' σ7 H7 n7
          exact seg_again rfl (ih m' hm n' (k + 1) i' s₀' s7 σ7 H7 hn' w7 b1 b2 b3)
        | brk =>
          obtain ⟨σ7, H7, r7, n7⟩ := hs7
          exact seg_leaf (.ok .next) (kk n' i' s₀' s7 .next hn' ⟨σ7, H7, (back r7).1, n7⟩)
        | ret u => exact hs7.elim
  exact loop m0 n 0 i s₀ s2 σ H2 hn w0 ⟨I2, r.there, r.off⟩ st2 fun b hb => (f2 b hb).1
end
end BJ

/-! the call of a generator def of any body -/
namespace BJ
open PySem PySem.Spec PyProof.Rows L2 Evl GenW
open PySem.W (Frag)
section
variable {P : Program} {w : World} {K : Frag} {mg : Str → Option Value} {base : Heap}
theorem yfn_body {k : Nat} {f : Addr} {name qual : Str} {params : Arguments} {body : List Stmt} {scope : Scope} {dV kV doc pm cdv ct oc : Value} {an od : Option Addr} {osl : Array (Option Value)} {N ps : List Str} {sp : SpY}
    (lk : K.lookup f = some ⟨oc, od, .func (PySem.W.fnOf name qual params body scope dV kV doc pm an cdv ct), osl⟩) (hcd : PySem.W.codeIn K cdv qual = true) (S : GScope N ps scope) (hb : Binds K (PySem.W.fnOf name qual params body scope dV kV doc pm an cdv ct) ps [])
    (len : ∀ vs H xs Q, sp vs H xs Q → vs.length = ps.length)
    (hbody : ∀ (A : Around) (outer : List Env) (s : Shared) (H : Hp) (vs xs : List V) (Q : Hp → Prop) (pn : List (Addr × Obj)), Room k (A.deeper (envOfC qual scope s.heap.objs.size f cdv)) → sp vs H xs Q →
      ∃ t, YSs (gcxOf P w K mg base N qual scope f cdv A outer s H (fun _ _ _ => False) pn).nox body t ∧ t xs Q { nx := fun i _ H' => i = xs.length ∧ Q H' } 0 (L2.start N vs) H) : YFn P w K mg base (k + 1) f sp := by
  intro A outer s H us vs xs Q hr e0 r hsp
  have hl := len _ _ _ _ hsp
  have KX : K.In s.heap := e0.mod.kin.keeps fun b o e => (e0.bs b o e).1; have lim : s.heap.NoLimit := e0.mod.nolimit.keeps fun b o e => (e0.bs b o e).1
  have hul : (us ++ []).length = ps.length := by rw [List.append_nil, ← r.length, hl]
  have hbind := hb s us KX hul
  rw [List.append_nil] at hbind
  refine codeAny_call_generator hr.depth (KX _ _ lk) rfl S.co S.gen rfl (PySem.W.codeRec_of KX hcd) (hbind _ _ _ _ ?_)
  refine wpAny_newFunctionEnv_cells S.kind (fun y hy => ?_) fun env he s1 x => ?_
  · rcases S.par y.1 (List.of_mem_zip (show (y.1, y.2) ∈ _ from hy)).1 with q | q
    · exact .inl q
    · exact .inr ⟨q, PySem.W.cellsFrom_some _ _ _ (.inl q)⟩
  subst he
  have lim1 : s1.heap.NoLimit := lim.keeps x.toInCall.keep; refine ⟨lim1, ?_⟩
  obtain ⟨h1, tk, es1, hk1⟩ := x.done; have os1 : s1.os = s.os := by rw [es1]
  have gen1 : s1.gens = s.gens := (by rw [es1]); have lt1 : s.heap.objs.size < s1.heap.objs.size := x.toInCall.ns.lt
  have kp1 : ∀ b o, s.heap.get? b = some o → s1.heap.get? b = some o := x.toInCall.keep; have main : ∀ (go : Obj) (nm qn : Value) (tk2 : Nat), go.cls = .type "generator" → go.data = .fields #[.int s1.gens.size 0, nm, qn] → go.slots = #[] → (∀ h : Heap, (h.push go).get? h.objs.size = some go) →
      YMade P w (k + 1) outer H s xs Q (.ref s1.heap.objs.size) { s1 with gens := s1.gens.push (.fresh (.func body (envOfC qual scope s.heap.objs.size f cdv))), toks := tk2, heap := s1.heap.push go } := by
    intro go nm qn tk2 hgc hgd0 hgs hgp; have hpushed : (s1.heap.push go).get? s1.heap.objs.size = some go := hgp _
    refine ⟨s1.heap.objs.size, s1.gens.size, _, go, rfl, Nat.le_of_lt lt1, ?_, hpushed, fun h e => ⟨go, nm, qn, e, hgc, hgd0, hgs⟩, Array.getElem?_push_size .., os1, AllBare.push (by rw [gen1]; exact e0.bare) rfl, lim1.keeps fun b o e => Heap.get?_push_of_some _ e, fun b o e => Heap.get?_push_of_some _ (kp1 b o e), ?_⟩
    · show _ < (s1.heap.push _).objs.size
      rw [Heap.size_push]
      exact Nat.lt_succ_self _
    intro Aw ws t hrw hfr hws hkt hwo hos hba
    have hws' : ∀ b ∈ ws, s1.heap.objs.size < b := fun b hb => by
      have := hws b hb
      have z : (s1.heap.push go).objs.size ≤ b := this
      rw [Heap.size_push] at z
      exact z
    have e0w : Env0 P w K mg base Aw outer s H := ⟨hfr, e0.mod, e0.bs, e0.bsz, e0.funs, e0.frf, e0.hok, e0.bare⟩; have I1 : Inv (gcxOf P w K mg base N qual scope f cdv Aw outer s H (fun _ _ _ => False) []) [] (L2.start N vs) H s1 := inv_startG S hrw.hd e0w hl r x
    have kpt : ∀ b o, s1.heap.get? b = some o → t.heap.get? b = some o := fun b o e => hkt b o (Heap.get?_push_of_some _ e)
    have I2 : Inv (gcxOf P w K mg base N qual scope f cdv Aw outer s H (fun _ _ _ => False) []) [] (L2.start N vs) H t := I1.call' (ch := []) (hos.trans os1.symm) (Un.kept kpt) (I1.hok.kept kpt) hba fun b z => by simp at z
    have hea : t.heap.get? s1.heap.objs.size = some go := hkt s1.heap.objs.size go hpushed
    have young : ∀ b, s1.heap.objs.size ≤ b → H b = none ∧ b ≠ s.heap.objs.size ∧ b ∉ frs outer := fun b hb => ⟨I1.hok.fresh hb, Nat.ne_of_gt (Nat.lt_of_lt_of_le lt1 hb), I1.nofs hb⟩
    have I3 : Inv (gcxOf P w K mg base N qual scope f cdv Aw outer s H (fun _ _ _ => False) [(s1.heap.objs.size, go)]) (pinsAt ws t.heap) (L2.start N vs) H t := Inv.pinnedG I2 fun p hp => by
      rcases List.mem_append.mp hp with z | z
      · rw [List.mem_singleton.mp z]
        obtain ⟨y1, y2, y3⟩ := young s1.heap.objs.size (Nat.le_refl _)
        exact ⟨hea, y1, y2, y3, fun v q => by rw [hgd0] at q; cases q⟩
      · obtain ⟨hb, e⟩ := of_pinsAt z
        obtain ⟨y1, y2, y3⟩ := young p.1 (Nat.le_of_lt (hws' p.1 hb))
        obtain ⟨o, e2, hd⟩ := hwo p.1 hb
        rw [e] at e2
        cases e2
        exact ⟨e, y1, y2, y3, hd⟩
    obtain ⟨ty, hty, hq⟩ := hbody Aw outer s H vs xs Q [(s1.heap.objs.size, go)] (hrw.deeper _) hsp
    have hcs : cStatics < s.heap.objs.size := by
      obtain ⟨mc, hns, _⟩ := lim
      exact hns.lt
    have offA : s1.heap.objs.size ∉ ws := fun hm => absurd (hws' _ hm) (Nat.lt_irrefl _)
    have Y : YX (gcxOf P w K mg base N qual scope f cdv Aw outer s H (fun _ _ _ => False) [(s1.heap.objs.size, go)]).nox ws s1.heap.objs.size go :=
      ⟨rfl, List.mem_singleton.mpr rfl, fun p hp => by rw [List.mem_singleton.mp hp]; exact offA, fun b hb => Nat.le_trans (Nat.le_of_lt lt1) (Nat.le_of_lt (hws' b hb)), fun _ _ h => h, rfl⟩
    refine seg_func ?_
    refine hty.run ws [] s1.heap.objs.size go xs Q Aw _ xs.length 0 t _ _ _ _ id id t (L2.start N vs) H _ Y ⟨?_, rfl, rfl, rfl⟩ (Nat.add_zero _) (fun n i s₀ s' fl hn hs => ?_) ⟨by rw [List.append_nil]; exact I3.wish _, hwo, fun p hp => nomatch hp⟩ hq
    · rw [over_func]
      rfl
    · cases fl with
      | next =>
        obtain ⟨σ', H', r', hi, hQ⟩ := hs
        refine seg_end (.ok (.ret .none)) ⟨.inl rfl, by omega, H', r'.cn Y, hQ, r'.same⟩
      | brk => obtain ⟨_, _, _, z⟩ := hs; exact z.elim
      | cont => obtain ⟨_, _, _, z⟩ := hs; exact z.elim
      | ret u => exact hs.elim
  exact main _ _ _ _ rfl rfl rfl fun h => Heap.get?_push_size _ rfl
variable {x qual : Str} {st : Stmt} {N : List Str} {f : Addr} {k : Nat}
/-- a generator def of any body -/
theorem DefAt.okYB {ps : List Str} {sp : SpY} (D : DefAt K x qual st f ps) (S : GScope N ps (defScope st)) (len : ∀ vs H xs Q, sp vs H xs Q → vs.length = ps.length)
    (hb : ∀ (cdv : Value) (A : Around) (outer : List Env) (s : Shared) (H : Hp) (vs xs : List V) (Q : Hp → Prop) (pn : List (Addr × Obj)), Room k (A.deeper (envOfC qual (defScope st) s.heap.objs.size f cdv)) → sp vs H xs Q →
      ∃ t, YSs (gcxOf P w K mg base N qual (defScope st) f cdv A outer s H (fun _ _ _ => False) pn).nox (defBody st) t ∧ t xs Q { nx := fun i _ H' => i = xs.length ∧ Q H' } 0 (L2.start N vs) H) : YFn P w K mg base (k + 1) f sp := by
  obtain ⟨fd, F, hbi⟩ := D.fn
  obtain ⟨oc, od, kV, doc, pm, an, cdv, ct, osl, rfl, lk, hcd⟩ := F.ex
  exact yfn_body lk hcd S hbi len fun A outer s H vs xs Q pn hr hsp => hb cdv A outer s H vs xs Q pn hr hsp
end
end BJ

/-! a generator's loop over a list; the items of a dict -/
namespace BJ
open PySem PySem.Spec PyProof.Rows L2 Evl
open PySem.W (Frag)
theorem yfor_list {K : Frag} {a : Addr} {ys xs : List V} {g : TG} {tb : TYs} {Q : Hp → Prop} {D : YEnds} {i0 : Nat} {σ : L2.St} {H : Hp} (Pv : Nat → Nat → L2.St → Hp → Prop) (h0 : Pv 0 i0 σ H) (hl : ∀ k i σ H, k ≤ ys.length → Pv k i σ H → SqL K H a ys)
    (hs : ∀ k x i σ H, ys[k]? = some x → Pv k i σ H → g x σ H fun σ2 H2 => tb xs Q { nx := Pv (k + 1), ct := Pv (k + 1), bk := D.nx } i σ2 H2) (hd : ∀ i σ H, Pv ys.length i σ H → D.nx i σ H) :
    ∃ W : Nat → Nat → Nat → L2.St → Hp → Prop, (∃ m, W 0 m i0 σ H) ∧ ∀ k m i σ H, W k m i σ H → ((Itl K a).stop k H ∧ D.nx i σ H) ∨ ((Itl K a).go k H ∧ ∃ N : Nat → L2.St → Hp → Prop, (∀ i' σ' H', N i' σ' H' → ∃ m', m' < m ∧ W (k + 1) m' i' σ' H') ∧
      ∀ x H', (Itl K a).yld k H x H' → g x σ H' fun σ2 H2 => tb xs Q { nx := N, ct := N, bk := D.nx } i σ2 H2) := by
  refine ⟨fun k m i σ H => m = ys.length - k ∧ k ≤ ys.length ∧ Pv k i σ H, ⟨ys.length, rfl, Nat.zero_le _, h0⟩, ?_⟩
  rintro k m i σ H ⟨rfl, hk, p⟩
  have q := hl k i σ H hk p
  rcases Nat.lt_or_ge k ys.length with hlt | hge
  · refine .inr ⟨⟨ys, ys[k], q, List.getElem?_eq_getElem hlt⟩, Pv (k + 1), fun i' σ' H' p' => ⟨ys.length - (k + 1), by omega, rfl, hlt, p'⟩, fun x H' y => ?_⟩
    obtain ⟨e, y⟩ := y
    subst e
    exact hs k x i σ _ (y ys q) p
  · obtain rfl : k = ys.length := by omega
    exact .inl ⟨⟨ys, q, Nat.le_refl _⟩, hd i σ H p⟩
/-- the tuples at ts hold the entries of a dict -/
def Prs (H : Hp) (ts : List Addr) (kvs : List (Key × V)) : Prop := Paired (fun (t : Addr) (q : Key × V) => H t = some (.tup [kV q.1, q.2])) ts kvs
theorem Prs.ex {H H' : Hp} (e : Ex H H') : ∀ {ts : List Addr} {kvs : List (Key × V)}, Prs H ts kvs → Prs H' ts kvs
  | _, _, .nil => .nil
  | _, _, .cons h t => .cons (e _ _ h) (Prs.ex e t)
theorem Prs.keep {H H' : Hp} : ∀ {ts : List Addr} {kvs : List (Key × V)}, Prs H ts kvs → (∀ t ∈ ts, ∀ o, H t = some o → H' t = some o) → Prs H' ts kvs
  | _, _, .nil, _ => .nil
  | _, _, .cons h t, k => .cons (k _ List.mem_cons_self _ h) (Prs.keep t fun t ht => k t (List.mem_cons_of_mem _ ht))
/-- what was locked is as it was -/
theorem ex_unlock {H H' : Hp} {d : Addr} {u v : HO} (hd : H d = some u) (e : Ex (upd H d v) H') : Ex H (upd H' d u) := fun b o hb => by
  by_cases h : b = d
  · rw [h] at hb ⊢
    rw [hd] at hb
    cases hb
    exact upd_same
  · rw [upd_ne h]
    exact e b o (by rw [upd_ne h]; exact hb)
theorem Prs.len {H : Hp} {ts : List Addr} {kvs : List (Key × V)} (h : Prs H ts kvs) : ts.length = kvs.length := Paired.length h
theorem Prs.snoc {H : Hp} {t : Addr} {q : Key × V} (ht : H t = some (.tup [kV q.1, q.2])) : ∀ {ts : List Addr} {kvs : List (Key × V)}, Prs H ts kvs → Prs H (ts ++ [t]) (kvs ++ [q])
  | _, _, .nil => .cons ht .nil
  | _, _, .cons h r => .cons h (Prs.snoc ht r)
theorem Prs.get {H : Hp} : ∀ {ts : List Addr} {kvs : List (Key × V)}, Prs H ts kvs → ∀ (i : Nat) (q : Key × V), kvs[i]? = some q → ∃ t, ts[i]? = some t ∧ H t = some (.tup [kV q.1, q.2])
  | _, _, .nil => fun i q h => nomatch h
  | _, _, .cons h r => fun i q hq => by
    cases i with
    | zero => cases hq; exact ⟨_, rfl, h⟩
    | succ i => exact Prs.get r i q hq
/-- keys and values, one behind another -/
def flatK : List (Key × V) → List V
  | [] => []
  | q :: r => kV q.1 :: q.2 :: flatK r
theorem flatK_len : ∀ kvs : List (Key × V), (flatK kvs).length = 2 * kvs.length
  | [] => rfl
  | q :: r => by
    show (flatK r).length + 1 + 1 = 2 * (r.length + 1)
    rw [flatK_len r]
    omega
theorem flatK_get : ∀ (kvs : List (Key × V)) (k : Nat) (q : Key × V), kvs[k]? = some q → (flatK kvs)[2 * k]? = some (kV q.1) ∧ (flatK kvs)[2 * k + 1]? = some q.2
  | [], k, q, h => nomatch h
  | p :: r, 0, q, h => by
    cases h
    exact ⟨rfl, rfl⟩
  | p :: r, k + 1, q, h => by
    obtain ⟨h1, h2⟩ := flatK_get r k q h
    rw [show 2 * (k + 1) = 2 * k + 1 + 1 by omega]
    exact ⟨h1, h2⟩
end BJ

/-! y = [x for x in g] where g is such a generator -/
namespace BJ
open PySem PySem.Spec PyProof.Rows L2 Evl GenW
open PySem.W (Frag)
section
variable {X : Cx} {k : Nat} {iter : Expr} {ty : TYx} {x : Str} {p1 p2 pos : Pos} {scope : Scope}
theorem ps_setLcY {i : Nat} {y : Str} {py spos : Pos} (hc : X.calm = true) (hN : X.N.Nodup) (hy : X.N[i]? = some y) (hyl : X.env.scope.names.lookup y = some .local)
    (hsw : swapsWith (.ListComp (.Name x p1) [⟨.Name x p2, iter, [], 0⟩] scope pos) (some (.Name y py)) spos.line X.env = pure true)
    (h : PY X k iter ty) (hr : Room (k + 1) X.A) (hk : scope.kind = .function) (hn : scope.names = [((".0" : Str), NameKind.local), (x, NameKind.local)]) (hx0 : (x == (".0" : Str)) = false := by decide) (hd : (x == ("__debug__" : Str)) = false := by decide)
    (hs : ∀ y, foldedSetIterable iter X.env y = pure y := by intro _; rfl) : PS X (.Assign [.Name y py] (.ListComp (.Name x p1) [⟨.Name x p2, iter, [], 0⟩] scope pos) spos) (tAsg (tLcY ty) (gName i)) := by
  refine ⟨fun pins s σ H Dn I hq => ?_⟩
  have hq : ty σ H (fun xs H1 => xs.length ≤ sizeLine ∧ ∀ D, H1 D = none → sysModules < D → Dn.nx (σ.set i (some (.ref D))) (upd H1 D (.lst xs))) := hq
  have lk0 : scope.names.lookup (".0" : Str) = some .local := by rw [hn]; rfl
  have lkx : scope.names.lookup x = some .local := by rw [hn, List.lookup_cons, hx0, List.lookup_cons_self]
  have hfree : ∀ z ∈ scope.names, z.2 ≠ .free := fun y hy => by
    rw [hn] at hy
    simp only [List.mem_cons, List.not_mem_nil, or_false] at hy
    rcases hy with rfl | rfl <;> exact fun z => nomatch z
  have hnames : ∀ z ∈ scope.names, z.2 = .local → scope.names.lookup z.1 = some .local := fun y hy e => by
    rw [hn] at hy
    simp only [List.mem_cons, List.not_mem_nil, or_false] at hy
    rcases hy with rfl | rfl
    · exact lk0
    · exact lkx
  rw [exec_Assign_Name_used _ _ _ _ hsw]
  refine wpAny_bind (wpAny_standAt (wpAny_bind ?_))
  show wpAny _ X.A (do let _ ← comprehension (.ListComp (.Name x p1) [⟨.Name x p2, iter, [], 0⟩] scope pos) scope X.env (firstIterPos [⟨.Name x p2, iter, [], 0⟩] pos) (newList []) false (eval iter X.env) (some (assign (.Name y py) X.env))) _ _ s
  refine wpAny_bind (thn (wpAny_comprehension_free (use := some (assign (.Name y py) X.env)) (Q := fun _ s' => SP X pins Dn .next s') rfl hs (closureFor_none hfree) hk hnames (thn (h.run pins s σ H _ I hq) fun u s1 hu => ?_)) fun _ s' hq => wpAny_pure (wpAny_pure hq))
  obtain ⟨sc, H1, xs, Ic, a, g, c, go, rfl, ha1, ha2, hgo, hgen, hgs, hos, hb, hl, hkp, wake⟩ := hu
  refine wpAny_pyIter_gen (hgen _ hgo) ?_
  refine wpAny_newObj_type (newEnv_comp ?_) (by show 0 ≤ sizeLine; decide)
  have hcs : cStatics < s1.heap.objs.size := by
    obtain ⟨mc, hns, _⟩ := hl
    exact hns.lt
  have hsz : sc.heap.objs.size ≤ s1.heap.objs.size := Nat.le_of_lt (Nat.lt_of_le_of_lt ha1 ha2)
  generalize hD : s1.heap.objs.size = D at *
  have zC : (s1.heap.push ({ cls := .type "list", data := .seq ([] : List Value).toArray } : Obj)).objs.size = D + 1 := by rw [Heap.size_push, hD]
  have ec : ∀ (n : Nat), cellsFrom n scope.names [] = [] := fun n => by rw [hn]; rfl
  have pc : ∀ hh : Heap, pushCells hh scope.names = hh := fun hh => by rw [hn]; rfl
  show codeAny _ _ (.compStart _ 0 (.ref a) (.ref D) { newEnv scope (s1.heap.push ({ cls := .type "list", data := .seq ([] : List Value).toArray } : Obj)).objs.size X.env.globals (cellsFrom ((s1.heap.push ({ cls := .type "list", data := .seq ([] : List Value).toArray } : Obj)).objs.size + 1) scope.names []) X.env.qual none .none (some X.env) builtinsNs with scope := relabel scope X.env }) _
    { s1 with heap := pushCells ((s1.heap.push ({ cls := .type "list", data := .seq ([] : List Value).toArray } : Obj)).push { cls := .type "dict", data := .dict #[] }) scope.names }
  rw [zC, ec, pc]
  generalize hce : ({ newEnv scope (D + 1) X.env.globals [] X.env.qual none .none (some X.env) builtinsNs with scope := relabel scope X.env } : Env) = ce
  have cL : ce.locals = D + 1 := by rw [← hce]; rfl
  have csc : ce.scope = relabel scope X.env := by rw [← hce]
  have csk : ce.scope.kind = .function := by rw [csc]; exact hk
  have hko : ce.kindOf x = some .local := by
    unfold Env.kindOf
    rw [csc]
    exact lookup_relabel_local lkx
  generalize hh4 : (s1.heap.push ({ cls := .type "list", data := .seq ([] : List Value).toArray } : Obj)).push { cls := .type "dict", data := .dict #[] } = h4
  have k4 : ∀ b o, s1.heap.get? b = some o → h4.get? b = some o := fun b o e => by rw [← hh4]; exact Heap.get?_push_of_some _ (Heap.get?_push_of_some _ e)
  have gD : h4.get? D = some (lstObj #[] 0) := by
    rw [← hh4, ← hD]
    exact Heap.get?_push_of_some _ (Heap.get?_push_size _ rfl)
  have gC : h4.get? (D + 1) = some { cls := .type "dict", data := .dict #[] } := by
    rw [← hh4, ← zC]
    exact Heap.get?_push_size _ rfl
  have nC : h4.Ns (D + 1) (fun _ => none) := ⟨_, #[], _, gC, rfl, fun e he => absurd he (by simp), fun _ => rfl⟩
  have hcalm : X.A.handled = none := I.ok.hd hc
  -- the run's end, its steps
  have Dne : D ≠ cStatics := Nat.ne_of_gt hcs
  have Cne : D + 1 ≠ cStatics := Nat.ne_of_gt (Nat.lt_succ_of_lt hcs)
  have aD : a ≠ D := Nat.ne_of_lt ha2
  have aC : a ≠ D + 1 := Nat.ne_of_lt (Nat.lt_succ_of_lt ha2)
  let F : Nat → Shared → Shared → Prop := fun n s₀ s => n = 0 ∧ ∃ H', Cn X.prog X.w X.stack H1 H' sc [D, D + 1] a go s ∧ (xs.length ≤ sizeLine ∧ ∀ D, H' D = none → sysModules < D → Dn.nx (σ.set i (some (.ref D))) (upd H' D (.lst xs))) ∧ ∀ b ∈ [D, D + 1], ∀ o, s₀.heap.get? b = some o → s.heap.get? b = some o
  let R' : GenEnd := fun n s₀ r s => ((r = .ok (.ret .none) ∨ r = .ok .next) ∧ F n s₀ s) ∨ ∃ e, r = .error e ∧ False
  let Y' : Protocol := YItm X.prog X.w X.stack H1 sc [D, D + 1] a go xs fun H' => xs.length ≤ sizeLine ∧ ∀ D, H' D = none → sysModules < D → Dn.nx (σ.set i (some (.ref D))) (upd H' D (.lst xs))
  have wf : ∀ b ∈ [D, D + 1], sc.heap.objs.size ≤ b ∧ b ≠ cStatics ∧ b ≠ a := fun b hb => by
    simp only [List.mem_cons, List.not_mem_nil, or_false] at hb
    rcases hb with rfl | rfl
    · exact ⟨hsz, Dne, aD.symm⟩
    · exact ⟨Nat.le_succ_of_le hsz, Cne, aC.symm⟩
  let LI : Nat → Shared → Prop := fun n t => n ≤ xs.length ∧ ∃ (acc : Array Value) (cc : Nat) (m : Str → Option Value) (gs : GenState), t.heap.get? D = some (lstObj acc cc) ∧ Vals (xs.take (xs.length - n)) acc.toList ∧ t.heap.Ns (D + 1) m ∧ t.heap.get? a = some go ∧ t.heap.NoLimit ∧
    t.gens[g]? = some gs ∧ gs.Goes (model X.prog X.w) X.A.in1 R' Y' n (.send .none) (t.setGen g .running)
  have gsz : g < s1.gens.size := (Array.getElem?_eq_some_iff.mp hgs).1
  have start : LI xs.length { s1 with heap := h4 } := by
    refine ⟨Nat.le_refl _, #[], 0, _, _, gD, by rw [Nat.sub_self]; exact .nil, nC, k4 _ _ hgo, hl.keeps k4, hgs, rfl, ?_⟩
    have w0 := wake X.A.in1 [D, D + 1] ({ s1 with heap := h4 }.setGen g .running) hr.in1 (show X.A.in1.frames = some X.stack from I.ok.frames) (fun b hb => ?_) k4 (fun b hb => ?_) hos (allBare_setGen (s := { s1 with heap := h4 }) hb rfl)
    · exact seg_imp (fun n s₀ r s hR => .inl ⟨hR.1, hR.2.1, hR.2.2⟩) (fun n s₀ v s kap kap' hkk hY => by
        obtain ⟨x, H', y1, y2, y3, y4, y5, y6, y7⟩ := hY
        exact ⟨x, H', y1, y2, y3, y4, y5, y6, fun t z => hkk _ _ (y7 t z)⟩) _ w0
    · simp only [List.mem_cons, List.not_mem_nil, or_false] at hb
      rcases hb with rfl | rfl
      · exact Nat.le_refl _
      · exact Nat.le_succ _
    · simp only [List.mem_cons, List.not_mem_nil, or_false] at hb
      rcases hb with rfl | rfl
      · exact ⟨_, gD, fun v z => nomatch z⟩
      · exact ⟨_, gC, fun v z => nomatch z⟩
  have loop : codeAny (model X.prog X.w) X.A (.compLoop (.ListComp (.Name x p1) [⟨.Name x p2, iter, [], 0⟩] scope pos) 0 (.ref a) (.ref D) ce) (compPost (model X.prog X.w) X.A X.xe (some (assign (.Name y py) X.env)) (fun _ s' => SP X pins Dn .next s') (.ref D) (D + 1)) { s1 with heap := h4 } := by
    refine compLoop_any LI ?_ xs.length start
    rintro n t ⟨hnl, acc, cc, m, gs, tD, tV, tN, ta, tl, tg, tgo⟩
    have tsz := (Array.getElem?_eq_some_iff.mp tg).1
    have mD : D ∈ [D, D + 1] := List.mem_cons_self
    have mC : D + 1 ∈ [D, D + 1] := List.mem_cons_of_mem _ List.mem_cons_self
    refine wpAny_gsz (n := g + 1) tsz (next_genG (F := F) (Er := fun _ _ => False) (Y := Y') hcalm tl hr.depth (hgen _ ta) tg tgo (fun v s₁ gs' hbare hY => ?_) (fun s₁ hF h' hk' => ?_) fun e s₁ he => he.elim)
    · intro hsz2
      obtain ⟨y, H', y1, y2, y3, y4, y5, y6, y7⟩ := hY
      cases n with
      | zero => exact (show False from y7 s₁ ⟨rfl, y4.bare, fun _ _ _ e => e, two_there (y6 D mD _ tD) (let ⟨o, es, ep, ho, r⟩ := tN; ⟨o, es, ep, y6 (D + 1) mC _ ho, r⟩)⟩).elim
      | succ n =>
        have e1 : xs.length - (n + 1 - 1 + 1) = xs.length - (n + 1) := by omega
        rw [e1] at y1
        have gD1 : s₁.heap.get? D = some (lstObj acc cc) := y6 D mD _ tD
        have nC1 : s₁.heap.Ns (D + 1) m := by
          obtain ⟨o, es, ep, ho, r⟩ := tN
          exact ⟨o, es, ep, y6 (D + 1) mC _ ho, r⟩
        have al : acc.size = xs.length - (n + 1) := by
          have q1 := tV.length
          rw [List.length_take] at q1
          have q2 : acc.toList.length = acc.size := by simp
          omega
        refine wpAny_pure ?_
        refine wpAny_assign_Name (wpAny_storeName_local hko (m := m) (by rw [cL]; exact nC1) (fun h' hn' sb => ?_) (by rw [csk]; rfl))
        rw [cL] at hn' sb
        refine wpAny_tests_nil ?_
        rw [if_pos rfl]
        refine wpAny_Name (wpAny_loadName_local (m := fun z => if z = x then some v else m z) (v := v) csk hko (by rw [cL]; exact hn') (if_pos rfl) ?_) hd
        have gD2 : h'.get? D = some (lstObj acc cc) := (sb.2 D (Nat.ne_of_lt (Nat.lt_succ_self _))).trans gD1
        refine append_at (hsz := by have := y5.1; omega) gD2 fun h2 sb2 hD2 => ⟨n, Nat.lt_succ_self _, ?_⟩
        have g1 : g < s₁.gens.size := by
          have q := setGen_size s₁ g gs'
          have q2 : g + 1 ≤ (s₁.setGen g gs').gens.size := hsz2
          omega
        have keep : ∀ b o, b ∉ [D, D + 1] → s₁.heap.get? b = some o → h2.get? b = some o := fun b o hb e => by
          have b1 : b ≠ D := fun z => hb (z ▸ mD)
          have b2 : b ≠ D + 1 := fun z => hb (z ▸ mC)
          exact (sb2.2 b b1).trans ((sb.2 b b2).trans e)
        have aw : a ∉ [D, D + 1] := fun hm => (wf a hm).2.2 rfl
        have etk : xs.take (xs.length - n) = xs.take (xs.length - (n + 1)) ++ [y] := by
          rw [show xs.length - n = xs.length - (n + 1) + 1 by omega, List.take_add_one, y1]
          rfl
        refine ⟨Nat.le_of_succ_le hnl, acc.push v, cc + 1, _, gs', hD2, ?_, hn'.sameBut sb2 (Nat.ne_of_gt (Nat.lt_succ_self _)), keep a go aw y4.gen, ?_, setGen_at g1, ?_⟩
        · rw [etk, Array.toList_push]
          exact tV.append (.cons y2 .nil)
        · obtain ⟨mc, hns, hnn⟩ := y4.lim
          exact ⟨mc, hns.at' fun o e => keep _ o (fun hm => (wf _ hm).2.1 rfl) e, hnn⟩
        · exact y7 _ ⟨rfl, allBare_setGen (allBare_setGen y4.bare hbare) rfl, keep, two_there hD2 (hn'.sameBut sb2 (Nat.ne_of_gt (Nat.lt_succ_self _)))⟩
    · intro hsz2
      obtain ⟨hn0, H', c', ⟨hl1, hq'⟩, same⟩ := hF
      subst hn0
      rw [Nat.sub_zero, List.take_length] at tV
      have gD1 : s₁.heap.get? D = some (lstObj acc cc) := same D mD _ tD
      have nsC : h'.Ns (D + 1) m := by
        obtain ⟨o, es, ep, ho, r⟩ := tN
        exact ⟨o, es, ep, hk' _ _ (same (D + 1) mC _ ho), r⟩
      have gD2 : h'.get? D = some (lstObj acc cc) := hk' _ _ gD1
      have c2 := c'.step (t := { s₁.setGen g .finished with heap := h' }) (ch := [D + 1]) rfl (allBare_setGen c'.bare rfl) (fun b o hb e => hk' _ _ e) (fun b hb => by
        rw [List.mem_singleton.mp hb]
        exact ⟨(wf _ mC).1, c'.off _ mC, (wf _ mC).2.1, (wf _ mC).2.2⟩)
      have I' : Inv X pins σ (upd H' D (.lst xs)) { s₁.setGen g .finished with heap := h' } := Inv.drained Ic hsz hl1 gD2 tV ExOk.nil c2.os c2.bare c2.un c2.hok (c2.off D mD)
      show wpAny _ _ (assign (.Name y py) X.env (.ref D)) _ _ _
      refine wpAny_assign_Name (store_ok2 (v := V.ref D) I' hN hy (.inl hyl) rfl (fun s2 I2 ⟨a2, sb, ha⟩ => ?_) (.inr hyl))
      obtain ⟨f0, f1, f2, f3, f4, f5⟩ := Ic.fpOk (H' := upd H' D (.lst xs)) (b := D + 1) (wf _ mC).1 (by rw [upd_ne (Nat.succ_ne_self D)]; exact c2.off _ mC)
      have haC : D + 1 ≠ a2 := by
        rcases ha with z | z
        · rw [z]; exact f1
        · exact fun e => f4 y a2 z e.symm
      refine ⟨m, nsC.sameBut sb haC, fun h3 sb3 => ?_⟩
      exact ⟨_, _, I2.turned (t' := s2.toks) (fun b o hb e => (sb3.2 b hb).trans e) f0 f1 f3 f4 f5, hq' D (c2.off D mD) (Nat.lt_of_lt_of_le Ic.big hsz)⟩
  exact codeAny_compStart_list loop (wpAny_pyIter_gen (hgen _ (k4 _ _ hgo)) loop)
end
end BJ

/-! two lists of the very same elements, compared -/
namespace BJ
open PySem PySem.Spec PyProof.Rows L2 Evl
open PySem.W (Frag)
section
variable {X : Cx} {K : Frag}
/-- such an element equals itself, wherever it stands -/
def oneB : V → Bool | .str _ => true | .int _ => true | .non => true | .bl _ => true | .ref _ => true | _ => false
theorem eq_one {A : Around} {s : Shared} {v : V} {u u2 : Value} (h : oneB v = true) (r : RelV v u) (r2 : RelV v u2) : SeqAt.EqAt A s u u2 true := by
  cases v with
  | non => cases r; cases r2; exact SeqAt.EqAt.same _
  | bl b => cases r; cases r2; exact SeqAt.EqAt.same _
  | ref p => cases r; cases r2; exact SeqAt.EqAt.same _
  | int i =>
    obtain ⟨t, rfl⟩ := id r
    obtain ⟨t2, rfl⟩ := id r2
    have := SeqAt.EqAt.int_int (A := A) (s := s) i t i t2
    rwa [beq_self_eq_true] at this
  | str z =>
    obtain ⟨t, rfl⟩ := id r
    obtain ⟨t2, rfl⟩ := id r2
    have := SeqAt.EqAt.str_str (A := A) (s := s) z t z t2
    rwa [beq_self_eq_true] at this
  | _ => cases h
def rNeIds (K : Frag) : R2 := fun x y H Q => ∃ p q xs, x = .ref p ∧ y = .ref q ∧ SqL K H p xs ∧ SqL K H q xs ∧ (∀ v ∈ xs, oneB v = true) ∧ Q (.bl false) H
theorem op_neIds (hK : X.K = K) (hu : X.A.units < cLine) : OpR X (compareOp .NotEq) (rNeIds K) := by
  subst hK
  rintro pins s σ H x y v u Q I rx ry ⟨p, p2, xs, rfl, rfl, hs, hs2, ho, q⟩
  cases rx
  cases ry
  obtain ⟨us, r1, p1, _⟩ := I.list hs
  obtain ⟨ws, r2, p2, _⟩ := I.list hs2
  have hl : us.length = ws.length := by rw [← r1.length, r2.length]
  refine SeqAt.RcNeAt.lists (e := fun _ => true) p1.isList p2.isList (by rw [List.size_toArray, List.size_toArray, hl]) hu (fun j h1 h2 => ?_) X.prog X.w _ _ ?_
  · have h1' : j < us.length := by simpa using h1
    have hx : j < xs.length := by rw [r1.length]; exact h1'
    obtain ⟨u1, g1, e1⟩ := Vals.get r1 (List.getElem?_eq_getElem hx)
    obtain ⟨u2, g2, e2⟩ := Vals.get r2 (List.getElem?_eq_getElem hx)
    have q1 : us.toArray[j] = u1 := by rw [List.getElem_toArray]; exact (List.getElem?_eq_some_iff.mp g1).2
    have q2 : ws.toArray[j] = u2 := by rw [List.getElem_toArray]; exact (List.getElem?_eq_some_iff.mp g2).2
    rw [q1, q2]
    exact eq_one (ho _ (List.getElem_mem hx)) e1 e2
  · refine ⟨.bl false, H, I, ?_, q⟩
    rw [show ((List.range us.toArray.size).all fun _ => true) = true from List.all_eq_true.mpr fun _ _ => rfl]
    rfl
end
end BJ

/-! instances that are called: v(e, .., k = w, ..) where v is an expression that gives an instance whose class has __call__ -/
namespace BJ
open PySem PySem.Spec PyProof.Rows L2 Evl
open PySem.W (Frag)
section
variable {X : Cx} {W : WX} {e fe : Expr} {es : List Expr} {kws : List Keyword} {tf : TE} {t tk : TA} {pos : Pos} {ks : List Str}
/-- the instance's class and the promise of its __call__ are told by the reading -/
def tIc (X : Cx) (W : WX) (tf : TE) (t tk : TA) (ks : List Str) : TE := fun σ H Q => tf σ H fun x H1 => ∃ (a C dx g : Addr) (fs : List (Str × V)) (k : Nat) (spk : SpK), x = .ref a ∧ H1 a = some (.ins C dx fs) ∧ StX.CallO X.K C g ∧
  CallX X.prog X.w X.K X.mg X.base k (.ref g) ks spk ∧ Room k X.A ∧ t σ H1 fun vs H2 => tk σ H2 fun zs H3 => (∃ fs', H3 a = some (.ins C dx fs')) ∧ spk (x :: vs) zs H3 Q fun cls d H' => W cls d σ H'
theorem run_ic {pins : List (Addr × Obj)} {σ : L2.St} {H : Hp} {s : Shared} {Q : VK} {a g C dx : Addr} {fs : List (Str × V)} {k : Nat} {spk : SpK} {us ws : List Value} {vs zs : List V} (c : StX.CallO X.K C g) (F : CallX X.prog X.w X.K X.mg X.base k (.ref g) ks spk) (hr : Room k X.A) (tkW : Takes X W)
    (I : Inv X pins σ H s) (hi : H a = some (.ins C dx fs)) (r : Vals vs us) (rz : Vals zs ws) (h : spk (.ref a :: vs) zs H Q fun cls d H' => W cls d σ H') :
    (∃ C ox od, PySem.W.InstAt s.heap a ox C od ∧ ox.data = .plain) ∧ wpAny (model X.prog X.w) X.A (call (.ref a) us (ks.zip ws)) (EP X pins σ Q) X.xe s := by
  obtain ⟨ox, od, J, hd⟩ := StX.insC_at I (C := C) (.inr ⟨dx, fs, hi⟩)
  refine ⟨⟨C, ox, od, J, hd⟩, wpAny_call (PySem.W.kco_code I.kIn J hd c.at_ c.fn c.fi ?_)⟩
  refine codeAny_mono (F X.A X.stack s H (.ref a :: us) ws (.ref a :: vs) zs Q _ hr I.env0 (.cons rfl r) rz h) ?_
  intro res s' hq
  match res, hq with
  | .error e, hq => exact tkW e s' (XE.of_call I (fun _ _ _ z => z) hq)
  | .ok (.ret u), hq => exact I.after hq
/-- the callee is an instance: whatever stands there behind the arguments -/
theorem inst_call {M : Model} {A : Around} {E : Value → Shared → Prop} {s : Shared} {a : Addr} {Q : Value → Shared → Prop} {args : List (Bool × Sem Value)} {kwa : List (Option Str × Sem Value)}
    (hp : (args.any (·.1) || kwa.any (·.1.isNone)) = false)
    (h : wpAny M A (evalArgs (.ref a) true args kwa) (fun z s1 => (∃ C ox od, PySem.W.InstAt s1.heap a ox C od ∧ ox.data = .plain) ∧ wpAny M A (call (.ref a) ([] ++ z.pos) z.kw) Q E s1) E s) :
    wpAny M A (callWith pos (.ref a) [] args kwa) Q E s := by
  unfold callWith
  apply wpAny_bind
  apply wpAny_holding
  refine wpAny_mono h ?_ fun _ _ y => y
  rintro z s1 ⟨⟨C, ox, od, J, hd⟩, hc⟩
  apply wpAny_bind
  apply wpAny_standAt
  have K1 := PySem.W.kco_keeper (M := M) J hd
  simp only [hp]
  refine wpAny_bind (K1.here ?_)
  refine wpAny_bind (wpAny_mono (wpAny_operateT hc) ?_ fun _ _ y => y)
  intro r s2 hr
  apply wpAny_bind
  apply wpAny_holding
  exact wpAny_point (wpAny_pure hr)
theorem pe_ic (hf : PE X fe tf) (tkW : Takes X W) (ha : PA X (e :: es) t) (hkw : PK X kws tk)
    (hall : (backToKw pos (keywordEach kws X.env)).all (·.1.isSome) = true := by rfl) (hks : (backToKw pos (keywordEach kws X.env)).filterMap (·.1) = ks := by rfl)
    (hst : starEach (e :: es) X.env = (false, eval e X.env) :: starEach es X.env := by rfl)
    (hpl : ((backTo pos (starEach (e :: es) X.env)).any (·.1) || (backToKw pos (keywordEach kws X.env)).any (·.1.isNone)) = false := by rfl)
    (ht : eval (.Call fe (e :: es) kws pos) X.env = (do callWith pos (← eval fe X.env) [] (backTo pos (starEach (e :: es) X.env)) (backToKw pos (keywordEach kws X.env))) := by rfl) :
    PE X (.Call fe (e :: es) kws pos) (tIc X W tf t tk ks) := by
  refine ⟨fun pins s σ H Q I h => ?_⟩
  rw [ht]
  refine wpAny_bind (thn (hf.run pins s σ H _ I h) fun u s1 ⟨y, H1, I1, ry, a, C, dx, g, fs, k, spk, ey, ea, c, F, hr, q⟩ => ?_)
  subst ey
  obtain rfl : u = Value.ref a := ry
  refine inst_call hpl ?_
  refine PyProof.Rows.evalArgs_kw2 hall (thn (ha.run pos pins s1 σ H1 _ I1 q) fun us s2 ⟨vs, H2, I2, r, q2⟩ => ?_) hst
  refine thn (hkw.run pos pins s2 σ H2 _ I2 q2) ?_
  rintro ws s3 ⟨zs, H3, I3, rz, ⟨fs', ha3⟩, q3⟩
  rw [hks]
  exact run_ic c F hr tkW I3 ha3 r rz q3
theorem pe_ic0 (hf : PE X fe tf) (tkW : Takes X W) (hkw : PK X kws tk)
    (hall : (backToKw pos (keywordEach kws X.env)).all (·.1.isSome) = true := by rfl) (hks : (backToKw pos (keywordEach kws X.env)).filterMap (·.1) = ks := by rfl)
    (hpl : ((backTo pos (starEach [] X.env)).any (·.1) || (backToKw pos (keywordEach kws X.env)).any (·.1.isNone)) = false := by rfl)
    (ht : eval (.Call fe [] kws pos) X.env = (do callWith pos (← eval fe X.env) [] (backTo pos (starEach [] X.env)) (backToKw pos (keywordEach kws X.env))) := by rfl) :
    PE X (.Call fe [] kws pos) (tIc X W tf tNil tk ks) := by
  refine ⟨fun pins s σ H Q I h => ?_⟩
  rw [ht]
  refine wpAny_bind (thn (hf.run pins s σ H _ I h) fun u s1 ⟨y, H1, I1, ry, a, C, dx, g, fs, k, spk, ey, ea, c, F, hr, q⟩ => ?_)
  subst ey
  obtain rfl : u = Value.ref a := ry
  refine inst_call hpl ?_
  refine PyProof.Rows.evalArgs_kw2_nil hall (thn (hkw.run pos pins s1 σ H1 _ I1 q) ?_)
  rintro ws s3 ⟨zs, H3, I3, rz, ⟨fs', ha3⟩, q3⟩
  rw [hks]
  exact run_ic c F hr tkW I3 ha3 .nil rz q3
end
end BJ

/-! C() of a class that has no __init__ but object's -/
namespace BJ
open PySem PySem.Spec PyProof.Rows L2 Evl StX ClX
open PySem.W (Frag)
structure Mk0 (K : Frag) (C : Addr) : Prop where
  makes : PySem.W.makesIn K C = true
  init : PySem.W.findIn K (.ref C) "__init__" = some (some (.builtin "object.__init__"))
section
variable {P : Program} {w : World} {K : Frag} {mg : Str → Option Value} {base : Heap}
theorem CallX.make0 {C : Addr} (M : Mk0 K C) : CallX P w K mg base 1 (.ref C) [] fun vs zs H Q E => vs = [] ∧ zs = [] ∧ ∀ x dx, H x = none → H dx = none → dx ≠ x → Q (.ref x) (upd (upd H dx (.own x)) x (.ins C dx [])) := by
  rintro A outer s H us ws vs zs Q E hr e0 r rz ⟨rfl, rfl, h⟩
  cases r
  cases rz
  have KX : K.In s.heap := e0.mod.kin.keeps fun b o e => (e0.bs b o e).1
  have n1 : H s.heap.objs.size = none := e0.hok.fresh (Nat.le_refl _)
  have n2 : H (s.heap.objs.size + 1) = none := e0.hok.fresh (Nat.le_succ _)
  have hq := h (s.heap.objs.size + 1) s.heap.objs.size n2 n1 (Nat.ne_of_lt (Nat.lt_succ_self _))
  have e1' : (s.heap.push PySem.W.emptyDict).get? s.heap.objs.size = some PySem.W.emptyDict := Heap.get?_push_size s.heap rfl
  have z1 : (s.heap.push PySem.W.emptyDict).objs.size = s.heap.objs.size + 1 := Heap.size_push _ _
  have e2' : ((s.heap.push PySem.W.emptyDict).push (PySem.W.instObj C s.heap.objs.size)).get? (s.heap.objs.size + 1) = some (PySem.W.instObj C s.heap.objs.size) := by
    have := Heap.get?_push_size (s.heap.push PySem.W.emptyDict) (o := PySem.W.instObj C s.heap.objs.size) rfl
    rwa [Heap.size_push] at this
  have e3 : (s.heap.push PySem.W.emptyDict).Ns s.heap.objs.size (fun _ => none) := ⟨PySem.W.emptyDict, #[], _, e1', rfl, (fun e he => absurd he (by simp)), fun _ => rfl⟩
  have E1 := env0_laid (o := PySem.W.emptyDict) (u := .own (s.heap.objs.size + 1)) e0 ⟨_, e1'⟩
  have ne : s.heap.objs.size ≠ s.heap.objs.size + 1 := Nat.ne_of_lt (Nat.lt_succ_self _)
  have E2 : Env0 P w K mg base A outer { s with heap := (s.heap.push PySem.W.emptyDict).push (PySem.W.instObj C s.heap.objs.size) } (upd (upd H s.heap.objs.size (.own (s.heap.objs.size + 1))) (s.heap.objs.size + 1) (.ins C s.heap.objs.size [])) := by
    have new : ObjOk P w (upd (upd H s.heap.objs.size (.own (s.heap.objs.size + 1))) (s.heap.push PySem.W.emptyDict).objs.size (.ins C s.heap.objs.size [])) ((s.heap.push PySem.W.emptyDict).push (PySem.W.instObj C s.heap.objs.size)) (s.heap.push PySem.W.emptyDict).objs.size (.ins C s.heap.objs.size []) := by
      rw [z1]
      exact ⟨by rw [upd_ne ne, upd_same], Nat.zero_le _, ne, e2', fun _ => none, (Heap.Ns1.of_empty e3).at fun o q => Heap.get?_push_of_some _ q, fun _ => True.intro, fun y hy => absurd rfl hy⟩
    have := env0_laid (s := { s with heap := s.heap.push PySem.W.emptyDict }) (o := PySem.W.instObj C s.heap.objs.size) (u := .ins C s.heap.objs.size []) E1 new
    have e : ({ s with heap := s.heap.push PySem.W.emptyDict } : Shared).heap.objs.size = s.heap.objs.size + 1 := z1
    rw [e] at this
    exact this
  have un : Un (frs outer) [] H (upd (upd H s.heap.objs.size (.own (s.heap.objs.size + 1))) (s.heap.objs.size + 1) (.ins C s.heap.objs.size [])) s.heap ((s.heap.push PySem.W.emptyDict).push (PySem.W.instObj C s.heap.objs.size)) := by
    have u1 := un_laid (fs := frs outer) (s := s) (o := PySem.W.emptyDict) (u := .own (s.heap.objs.size + 1)) n1
    have u2 := un_laid (fs := frs outer) (s := { s with heap := s.heap.push PySem.W.emptyDict }) (H := upd H s.heap.objs.size (.own (s.heap.objs.size + 1))) (o := PySem.W.instObj C s.heap.objs.size) (u := .ins C s.heap.objs.size []) (by
      show upd H s.heap.objs.size (.own (s.heap.objs.size + 1)) (s.heap.push PySem.W.emptyDict).objs.size = none
      rw [z1, upd_ne ne.symm]
      exact n2)
    have e : ({ s with heap := s.heap.push PySem.W.emptyDict } : Shared).heap.objs.size = s.heap.objs.size + 1 := z1
    rw [e] at u2
    exact u1.trans u2
  have Y := PySem.W.makes_of (M := model P w) KX M.makes
  have tI : PySem.W.Looks (model P w) ((s.heap.push PySem.W.emptyDict).push (PySem.W.instObj C s.heap.objs.size)) (typeOf (.ref (s.heap.objs.size + 1))) (.ref C) := (PySem.W.Looks.ld e2').andThen .now
  have tO : PySem.W.Looks (model P w) ((s.heap.push PySem.W.emptyDict).push (PySem.W.instObj C s.heap.objs.size)) (isInstance (.ref (s.heap.objs.size + 1)) (.type "object")) true :=
    tI.andThen (Y.top.keeps fun b o e => Heap.get?_push_of_some _ (Heap.get?_push_of_some _ e))
  refine make_map0 KX M.makes M.init (fun self => PySem.W.Looks.of_pure (PySem.W.oi_bind self)) ?_
  have chk := fun Q2 q2 => @PySem.W.check_slot (model P w) (A.under (.builtin "type.__call__" ⟨[.ref C], []⟩)).in1 (fun e s' => PySem.W.InitBack (s.heap.objs.size + 1) (CR (CX P w) outer P w H s Q E) (.error e) s') { s with heap := (s.heap.push PySem.W.emptyDict).push (PySem.W.instObj C s.heap.objs.size) }
    "object.__init__" "object" "__init__" (.ref (s.heap.objs.size + 1)) [] [] Q2 PySem.W.oi_kind PySem.W.oi_split tO (PySem.W.oi_args _) q2
  refine codeAny_call_builtin PySem.W.oi_plain PySem.W.entry_oi (chk _ ?_)
  rw [PySem.W.oi_run]
  exact wpAny_pure (And.intro rfl (show CR (CX P w) outer P w H s Q E (.ok (.ret (.ref (s.heap.objs.size + 1)))) _ from ⟨V.ref (s.heap.objs.size + 1), _, rfl, E2.bare, un, E2.hok, rfl, hq⟩))
end
end BJ

/-! a field as a target (o.f, p.g = ..) -/
namespace BJ
open PySem PySem.Spec PyProof.Rows L2 Evl
open PySem.W (Frag)
section
variable {X : Cx} {o : Expr} {to : TE} {f : Str} {pos : Pos}
def gFld (K : Frag) (to : TE) (f : Str) : TG := fun v σ H Q => to σ H fun x H1 => ∃ a C dx fs, x = V.ref a ∧ H1 a = some (.ins C dx fs) ∧ Cls K C ∧ NoAttr K C f ∧ fs.length < 1000 ∧ Q σ (upd H1 a (.ins C dx (putF f v fs)))
theorem pg_fld (ho : PE X o to) : PG X (.Attribute o f pos) (gFld X.K to f) := by
  refine ⟨fun pins s σ H v u Q I r h => ?_⟩
  rw [assign_Attribute]
  refine wpAny_bind (wpAny_holding (thn (ho.run pins s σ H _ I h) fun ov s1 ⟨x, H1, I1, r1, a, C, dx, fs, ex, ea, c, n, l, q⟩ => ?_))
  subst ex
  obtain rfl : ov = Value.ref a := r1
  refine wpAny_bind (wpAny_standAt (wpAny_bind (wpAny_holding (setattr_ok I1 ea c n l r fun s2 I2 => ?_))))
  exact wpAny_release ⟨σ, _, I2, q⟩
end
end BJ

/-! != of two instances of one class without an __eq__ or __ne__ of its own -/
namespace BJ
open PySem PySem.Spec PyProof.Rows PySem.SeqAt
open PySem.W (Frag)
section
variable {M : Model} {prog : Program} {w : World} {A : Around} {E : Value → Shared → Prop} {s : Shared} {K : PySem.W.Frag} {x y C : Addr} {ox oy : Obj} {od oe : Option Obj}
theorem ifBound_objNe {args : List Value} {Q : Option Value → Shared → Prop} (X : K.In s.heap) (I : PySem.W.InstAt s.heap x ox C od) (hs : PySem.W.findIn K (.ref C) "__ne__" = some (some (.builtin "object.__ne__")))
    (h : wpAny M A (call (.builtin "object.__ne__") (.ref x :: args)) (fun v => Q (some v)) E s) : wpAny M A (callSpecialIfBound? (.ref x) "__ne__" args) Q E s := by
  have fin := wpAny_bind (wpAny_mono h (fun v s' (h' : Q (some v) s') => wpAny_pure (M := M) (A := A) (E := E) h') fun _ _ h' => h')
  refine wpAny_holding (wpAny_bind (wpAny_bind (wpAny_bind (I.type.here ((PySem.W.looks_findIn X hs).here (wpAny_bind (wpAny_askSetting (wpAny_ite ?_))))))))
  split
  · exact wpAny_bind (wpAny_of_eq (F.cmp_object.ne.bind (.ref x)) (wpAny_pure fin))
  · exact wpAny_tryCatch (wpAny_bind (wpAny_of_eq (F.cmp_object.ne.bind (.ref x)) (wpAny_pure fin)))
theorem objNe_entry {Q : PySem.Fin → Shared → Prop} (hu : A.units < cLine) (X : K.In s.heap) (I : PySem.W.InstAt s.heap x ox C od) (hm : PySem.W.mroIn K C (.type "object") = some true) (hs : PySem.W.findIn K (.ref C) "__eq__" = some (some (.builtin "object.__eq__")))
    (h : Q (.done (.ret (.bool false))) s) : wpAny (model prog w) A (Builtin.«object.__ne__» ⟨[.ref x, .ref x], []⟩) Q E s := by
  unfold Builtin.«object.__ne__»
  refine wpAny_bind ?_
  unfold slotArgs
  refine wpAny_ite_false rfl (wpAny_ite_false rfl (wpAny_pure ?_))
  refine wpAny_bind (wpAny_cRoomFor hu (wpAny_bind ?_))
  refine HN.ifBound_objEq X I hs (wpAny_call (codeAny_call_builtin F.cmp_object.eq.plain F.cmpEntry_eq (PySem.W.check_slot F.cmpKind_eq F.cmpSplit_eq (I.type.andThen (PySem.W.looks_mroIn X hm)) (F.cmpArgs_eq _ _) (objEq_entry_same ?_))))
  exact wpAny_bind (wpAny_pure (wpAny_pure h))
theorem rn_insSame (hu : A.units + 1 < cLine) (X : K.In s.heap) (I : PySem.W.InstAt s.heap x ox C od) (hm : PySem.W.mroIn K C (.type "object") = some true) (hs : PySem.W.findIn K (.ref C) "__eq__" = some (some (.builtin "object.__eq__"))) (hn : PySem.W.findIn K (.ref C) "__ne__" = some (some (.builtin "object.__ne__"))) :
    RcNeAt A s (.ref x) (.ref x) false := fun prog w E Q h => by
  have one : wpAny (model prog w) A (tryCompare (.ref x) "__ne__" (.ref x)) (fun r s' => r = some (.bool false) ∧ s' = s) E s := by
    unfold tryCompare
    refine wpAny_bind (ifBound_objNe X I hn (wpAny_call (codeAny_call_builtin F.cmp_object.ne.plain F.cmpEntry_ne (PySem.W.check_slot F.cmpKind_ne F.cmpSplit_ne (I.type.andThen (PySem.W.looks_mroIn X hm)) (F.cmpArgs_ne _ _) ?_))))
    refine objNe_entry ?_ X I hm hs ?_
    · exact hu
    · exact wpAny_pure ⟨rfl, rfl⟩
  simp only [richCompare, cmpInfo_NotEq, oneThing_ref]
  refine wpAny_holding (wpAny_bind (wpAny_cRoomFor (by omega) ?_))
  refine wpAny_bind (I.type.here ?_)
  refine wpAny_bind (I.type.here ?_)
  split
  · rename_i q
    simp at q
  · refine wpAny_bind (wpAny_pure ?_)
    simp only [Bool.false_eq_true, if_false, Bool.not_false, if_true]
    refine wpAny_bind (m := tryCompare (.ref x) _ (.ref x)) (wpAny_mono one (fun r s1 z => ?_) fun _ _ e => e)
    obtain ⟨z1, z2⟩ := z
    subst z1
    subst z2
    exact wpAny_pure h
end
/-- what the text says of a class whose instances differ from all others but themselves -/
structure IdNe (K : Frag) (C : Addr) : Prop where
  i : IdEq K C
  n : PySem.W.findIn K (.ref C) "__ne__" = some (some (.builtin "object.__ne__"))
open L2 in
def rNeI (K : Frag) : R2 := fun x y H Q => ∃ a C dx fs, x = .ref a ∧ y = .ref a ∧ H a = some (.ins C dx fs) ∧ IdNe K C ∧ Q (.bl false) H
open L2 in
theorem op_neI {X : Cx} {K : Frag} (hK : X.K = K) (hu : X.A.units + 64 < cLine) : OpR X (compareOp .NotEq) (rNeI K) := by
  subst hK
  rintro pins s σ H x y v u Q I rx ry ⟨a, C, dx, fs, rfl, rfl, ha, ie, q⟩
  cases rx
  cases ry
  obtain ⟨mA, O, _⟩ := ins_get I.hok ha
  obtain ⟨od, J, _⟩ := O.look
  exact rn_insSame (by omega) I.kIn J ie.i.m ie.i.e ie.n _ _ _ _ ⟨.bl _, H, I, rfl, q⟩
theorem putK_le {κ : Type} [DecidableEq κ] (kvs : List (κ × L2.V)) (k : κ) (v : L2.V) : (L2.putK kvs k v).length ≤ kvs.length + 1 := by
  unfold L2.putK
  split
  · rw [List.length_map]; omega
  · rw [List.length_append]; exact Nat.le_refl _
end BJ

/-! a if c else b as a test -/
namespace BJ
open PySem PySem.Spec PyProof.Rows L2 Evl
section
variable {X : Cx} {c a b : Expr} {tc ta tb : TT} {pos : Pos} {σ : L2.St} {H : Hp}
def tIfT (tc ta tb : TT) : TT := fun σ H Q => tc σ H fun k H1 => if k = true then ta σ H1 Q else tb σ H1 Q
theorem pt_ifT (hc : PT X c tc) (ha : PT X a ta) (hb : PT X b tb) : PT X (.IfExp c a b pos) (tIfT tc ta tb) where
  run pins s σ H Q I h := by
    unfold PySem.isTrue
    refine wpAny_bind (thn (hc.run pins s σ H _ I h) fun d s1 x => ?_)
    obtain ⟨H1, I1, q1⟩ := x
    cases d with
    | true => exact ha.run pins s1 σ H1 Q I1 q1
    | false => exact hb.run pins s1 σ H1 Q I1 q1
theorem et_ifT {k v : Bool} (hc : EvT tc σ H k) (ha : k = true → EvT ta σ H v) (hb : k = false → EvT tb σ H v) : EvT (tIfT tc ta tb) σ H v := fun H1 e Q q => hc H1 e _ fun H2 e2 => by
  cases k with
  | true => exact ha rfl H2 (e.trans e2) Q fun H3 e3 => q H3 (e2.trans e3)
  | false => exact hb rfl H2 (e.trans e2) Q fun H3 e3 => q H3 (e2.trans e3)
end
end BJ

/-! what evaluates to a list of pairs (tuples that hold a key and a value): EvR; comprehensions over such lists -/
namespace BJ
open PySem PySem.Spec PyProof.Rows L2 Evl
open PySem.W (Frag)
section
variable {K : Frag} {σ : L2.St} {H : Hp} {te tl : TE} {tt : TT} {wi : TI} {vs : List Nat} {kvs : List (Key × V)} {xs : List V} {D : Ends} {i : Nat}
def EvR (K : Frag) (te : TE) (σ : L2.St) (H : Hp) (kvs : List (Key × V)) : Prop := ∀ H1, Ex H H1 → ∀ Q : VK, (∀ p ts H2, Ex H1 H2 → SqL K H2 p (ts.map V.ref) → Prs H2 ts kvs → Q (.ref p) H2) → te σ H1 Q
theorem er_var {p : Addr} {ts : List Addr} (h : σ[i]? = some (some (.ref p))) (hp : SqL K H p (ts.map V.ref)) (hP : Prs H ts kvs) : EvR K (tVar i) σ H kvs := fun H1 e Q q => ⟨_, h, q p ts H1 (Ex.refl _) (ex_l e hp) (hP.ex e)⟩
theorem EvR.mono {H' : Hp} (h : EvR K te σ H kvs) (e : Ex H H') : EvR K te σ H' kvs := fun H1 e1 Q q => h H1 (e.trans e1) Q q
/-- list(e) of a tuple of pairs -/
theorem er_list (h : ∀ H1, Ex H H1 → ∀ Q : VK, (∀ t ts H2, Ex H1 H2 → H2 t = some (.tup (ts.map V.ref)) → Prs H2 ts kvs → Q (.ref t) H2) → te σ H1 Q) : EvR K (tCB (rListS K) (tCons te tNil)) σ H kvs := fun H1 e Q q =>
  h H1 e _ fun t ts H2 e2 ht hP => ⟨t, _, rfl, .inr (st_of ht), fun l nl => q l ts _ (e2.trans (Ex.new nl)) (sq_of upd_same) (hP.ex (Ex.new nl))⟩
theorem prs_nm {H : Hp} {ts : List Addr} {kvs : List (Key × V)} (h : Prs H ts kvs) {i : Nat} (hi : i < kvs.length) : ∃ t, (ts.map V.ref)[i]? = some (.ref t) ∧ H t = some (.tup [kV kvs[i].1, kvs[i].2]) := by
  obtain ⟨t, h1, h2⟩ := Prs.get h i _ (List.getElem?_eq_getElem hi)
  exact ⟨t, by rw [List.getElem?_map, h1]; rfl, h2⟩
theorem given_pick {α β : Type} (xs : List α) (d : α) (f : α → Bool) (F : α → β) : ((List.range xs.length).filter fun i => f (xs.getD i d)).map (fun i => F (xs.getD i d)) = (xs.filter f).map F := by
  have h : (List.range xs.length).map (fun i => xs.getD i d) = xs := by
    apply List.ext_getElem
    · simp
    · intro i h1 h2
      simp [List.getD, h2]
  have h2 := congrArg (fun l => (l.filter f).map F) h
  simp only [List.filter_map, List.map_map] at h2
  exact h2
/-- the walk of a comprehension whose turn makes a pair -/
theorem lc_er {J : It} {n : Nat} {G : Hp → Prop} {Y : Nat → Hp → V → Hp → Prop} (w : Walk J n G Y) {g : TG} {H1 : Hp} {Q : VK} (f : Nat → Bool) (v : Nat → Key × V) (hn : n ≤ 100000) (hG : ∀ H, Ex H1 H → G H)
    (hs : ∀ i x H2 H3, i < n → Ex H1 H2 → Y i H2 x H3 → ∃ σ2, wipe σ2 vs = wipe σ vs ∧ Ex H2 H3 ∧ (∀ Q : L2.St → Hp → Prop, Q σ2 H3 → g x (wipe σ vs) H3 Q) ∧ EvT tt σ2 H1 (f i) ∧ (f i = true → EvU te σ2 H1 [kV (v i).1, (v i).2]))
    (k : ∀ D ts H', H1 D = none → Ex H1 H' → H' D = some (.lst (ts.map V.ref)) → Prs H' ts (((List.range n).filter f).map v) → Q (.ref D) H') :
    ∀ D, H1 D = none → ∃ W : Nat → Nat → Hp → Prop, (∃ m, W 0 m (upd H1 D (.lst []))) ∧ ∀ i m H, W i m H →
      (J.stop i H ∧ Q (.ref D) H) ∨ (J.go i H ∧ ∃ Nx : Hp → Prop, (∀ H', Nx H' → ∃ m', m' < m ∧ W (i + 1) m' H') ∧ ∀ x H', J.yld i H x H' → g x (wipe σ vs) H' fun σ2 H2 => wipe σ2 vs = wipe σ vs ∧ tt σ2 H2 fun b H3 =>
        if b = true then te σ2 H3 fun y H4 => ∃ acc, H4 D = some (.lst acc) ∧ acc.length < sizeLine ∧ Nx (upd H4 D (.lst (acc ++ [y]))) else Nx H3) := fun Dl nD => by
  refine lc_it w (fun i H' => Ex H1 H' ∧ ∃ ts, H' Dl = some (.lst (ts.map V.ref)) ∧ Prs H' ts (((List.range i).filter f).map v) ∧ ∀ t ∈ ts, t ≠ Dl) ⟨Ex.new nD, [], upd_same, .nil, fun t h => nomatch h⟩ (fun i H' _ h => hG H' h.1) (fun i x H2 H3 hi h y => ?_) fun H' h => ?_
  · obtain ⟨e2, ts, hx, hts, hne⟩ := h
    obtain ⟨σ2, hw, e3, hg, ht, he⟩ := hs i x H2 H3 hi e2 y
    refine hg _ ⟨hw, ?_⟩
    refine ht H3 (e2.trans e3) _ fun H4 e4 => ?_
    have hx4 := (e3.trans e4) _ _ hx
    have hts4 := hts.ex (e3.trans e4)
    have hlen := hts.len
    rw [List.length_map] at hlen
    have hfl := List.length_filter_le f (List.range i)
    rw [List.length_range] at hfl
    cases hf : f i with
    | false =>
      refine iteF ⟨(e2.trans e3).trans e4, ts, hx4, ?_, hne⟩
      rw [List.range_succ, List.filter_append]
      simp only [List.filter_cons, hf, List.filter_nil, Bool.false_eq_true, if_false, List.append_nil]
      exact hts4
    | true =>
      refine iteT ?_
      refine he hf H4 ((e2.trans e3).trans e4) _ fun t H5 nt e5 ht5 => ?_
      have htD : t ≠ Dl := fun z => by rw [z, hx4] at nt; cases nt
      refine ⟨_, e5 _ _ hx4, (by rw [List.length_map, sizeLine_eq]; omega), Ex.mut (((e2.trans e3).trans e4).trans e5) nD, ts ++ [t], (by rw [List.map_append]; exact upd_same), ?_, fun t' ht' => ?_⟩
      · rw [List.range_succ, List.filter_append]
        simp only [List.filter_cons, hf, List.filter_nil, if_true, List.map_append, List.map_cons, List.map_nil]
        refine Prs.snoc (by rw [upd_ne htD]; exact ht5) (hts4.keep fun t' ht' o ho => ?_)
        rw [upd_ne (hne t' ht')]
        exact e5 _ _ ho
      · rcases List.mem_append.mp ht' with h | h
        · exact hne t' h
        · rw [List.mem_singleton.mp h]; exact htD
  · obtain ⟨e2, ts, hx, hts, hne⟩ := h
    exact k Dl ts H' nD e2 hx hts
/-- [(..) for a, b in pairs if ..] -/
theorem er_prs {j l : Nat} {ts : List Addr} (hi : EvI wi σ H (ts.map V.ref)) (hP : Prs H ts kvs) (f : Key × V → Bool) (F : Key × V → Key × V) (hn : kvs.length ≤ 100000) (hw : ∀ x y, wipe (((wipe σ vs).set j (some x)).set l (some y)) vs = wipe σ vs)
    (ht : ∀ q ∈ kvs, ∀ H1, Ex H H1 → EvT tt (((wipe σ vs).set j (some (kV q.1))).set l (some q.2)) H1 (f q)) (he : ∀ q ∈ kvs, f q = true → ∀ H1, Ex H H1 → EvU te (((wipe σ vs).set j (some (kV q.1))).set l (some q.2)) H1 [kV (F q).1, (F q).2]) :
    EvR K (tLc wi (gTup K 2 (gCons (gName j) (gCons (gName l) gNil))) tt te vs) σ H ((kvs.filter f).map F) := fun H1 e1 Q k => by
  have hl := Prs.len hP
  refine hi H1 e1 _ fun H2 J G e2 w hG => ?_
  have e12 := e1.trans e2
  refine lc_er w (fun i => f (kvs.getD i (.inl 0, .non))) (fun i => F (kvs.getD i (.inl 0, .non))) (by rw [List.length_map, hl]; exact hn) hG (fun i x H3 H4 hlt e3 y => ?_) (fun D ts' H' nD e' hx hts => ?_)
  · rw [List.length_map, hl] at hlt
    obtain ⟨rfl, hx⟩ := y
    obtain ⟨t, h1, h2⟩ := prs_nm hP hlt
    rw [h1] at hx
    cases hx
    have hd : kvs.getD i (.inl 0, .non) = kvs[i] := by rw [List.getD, List.getElem?_eq_getElem hlt]; rfl
    rw [hd]
    have hm := List.getElem_mem hlt
    exact ⟨_, hw _ _, Ex.refl _, fun Q q => ⟨t, _, rfl, st_of (e3 _ _ (e12 _ _ h2)), rfl, _, _, rfl, _, _, rfl, rfl, q⟩, ht _ hm H2 e12, fun hf => he _ hm hf H2 e12⟩
  · refine k D ts' H' (e2.trans e') (sq_of hx) ?_
    have hr : ((List.range (ts.map V.ref).length).filter (fun i => f (kvs.getD i (.inl 0, .non)))).map (fun i => F (kvs.getD i (.inl 0, .non))) = (kvs.filter f).map F := by
      rw [List.length_map, hl]
      exact given_pick kvs _ f F
    rw [hr] at hts
    exact hts
/-- [.. for a, b in pairs if ..] -/
theorem el_prs {j l : Nat} {ts : List Addr} (hi : EvI wi σ H (ts.map V.ref)) (hP : Prs H ts kvs) (f : Key × V → Bool) (F : Key × V → V) (hn : kvs.length ≤ 100000) (hw : ∀ x y, wipe (((wipe σ vs).set j (some x)).set l (some y)) vs = wipe σ vs)
    (ht : ∀ q ∈ kvs, ∀ H1, Ex H H1 → EvT tt (((wipe σ vs).set j (some (kV q.1))).set l (some q.2)) H1 (f q)) (he : ∀ q ∈ kvs, f q = true → ∀ H1, Ex H H1 → Ev te (((wipe σ vs).set j (some (kV q.1))).set l (some q.2)) H1 (F q)) :
    EvL (tLc wi (gTup K 2 (gCons (gName j) (gCons (gName l) gNil))) tt te vs) σ H ((kvs.filter f).map F) := fun H1 e1 Q k => by
  have hl := Prs.len hP
  refine hi H1 e1 _ fun H2 J G e2 w hG => ?_
  have e12 := e1.trans e2
  refine BJ.lc_ev w (fun i => f (kvs.getD i (.inl 0, .non))) (fun i => F (kvs.getD i (.inl 0, .non))) (by rw [List.length_map, hl]; omega) hG (fun i x H3 H4 hlt e3 y => ?_) (fun D H' nD e' hx => ?_)
  · rw [List.length_map, hl] at hlt
    obtain ⟨rfl, hx⟩ := y
    obtain ⟨t, h1, h2⟩ := prs_nm hP hlt
    rw [h1] at hx
    cases hx
    have hd : kvs.getD i (.inl 0, .non) = kvs[i] := by rw [List.getD, List.getElem?_eq_getElem hlt]; rfl
    rw [hd]
    have hm := List.getElem_mem hlt
    exact ⟨_, hw _ _, Ex.refl _, fun Q q => ⟨t, _, rfl, st_of (e3 _ _ (e12 _ _ h2)), rfl, _, _, rfl, _, _, rfl, rfl, q⟩, ht _ hm H2 e12, fun hf => he _ hm hf H2 e12⟩
  · refine k D H' (fresh_back e2 nD) (e2.trans e') ?_
    unfold Evl.given at hx
    have hr : ((List.range (ts.map V.ref).length).filter (fun i => f (kvs.getD i (.inl 0, .non)))).map (fun i => F (kvs.getD i (.inl 0, .non))) = (kvs.filter f).map F := by
      rw [List.length_map, hl]
      exact given_pick kvs _ f F
    rw [hr] at hx
    exact hx
/-- [(..) for x in ..] -/
theorem er_nm {j : Nat} (hi : EvI wi σ H xs) (F : V → Key × V) (hn : xs.length ≤ 100000) (hw : ∀ x, wipe ((wipe σ vs).set j (some x)) vs = wipe σ vs)
    (he : ∀ x ∈ xs, ∀ H1, Ex H H1 → EvU te ((wipe σ vs).set j (some x)) H1 [kV (F x).1, (F x).2]) : EvR K (tLc wi (gName j) tYes te vs) σ H (xs.map F) := fun H1 e1 Q k => by
  refine hi H1 e1 _ fun H2 J G e2 w hG => ?_
  have e12 := e1.trans e2
  refine lc_er w (fun i => true) (fun i => F (xs.getD i .non)) hn hG (fun i x H3 H4 hlt e3 y => ?_) (fun D ts' H' nD e' hx hts => ?_)
  · obtain ⟨rfl, hx⟩ := y
    have hd : xs.getD i .non = x := by rw [List.getD, hx]; rfl
    rw [hd]
    exact ⟨_, hw _, Ex.refl _, fun Q q => q, et_yes, fun _ => he _ (List.mem_of_getElem? hx) H2 e12⟩
  · refine k D ts' H' (e2.trans e') (sq_of hx) ?_
    have hr := given_pick xs .non (fun _ => true) F
    rw [List.filter_eq_self.mpr (fun _ _ => rfl)] at hr
    rw [show xs.filter (fun _ => true) = xs from List.filter_eq_self.mpr (fun _ _ => rfl)] at hr
    rw [show ((List.range xs.length).filter fun _ => true) = List.range xs.length from List.filter_eq_self.mpr (fun _ _ => rfl), hr] at hts
    exact hts
theorem s_asgR (h : EvR K te σ H kvs) (k : ∀ p ts H1, Ex H H1 → SqL K H1 p (ts.map V.ref) → Prs H1 ts kvs → D.nx (σ.set i (some (.ref p))) H1) : tAsg te (gName i) D σ H := h H (Ex.refl _) _ fun p ts H1 e hp hP => k p ts H1 e hp hP
theorem s_asgL2 (h : EvL te σ H xs) (k : ∀ p H1, Ex H H1 → H1 p = some (.lst xs) → D.nx (σ.set i (some (.ref p))) H1) : tAsg te (gName i) D σ H := h H (Ex.refl _) _ fun p H1 np e hp => k p H1 e hp
theorem ei_listU (h : EvL tl σ H xs) : EvI (iList K tl) σ H xs := fun H1 e R r => h H1 e _ fun p H2 np e2 hx => ⟨p, rfl, ⟨_, sq_of hx⟩, r H2 _ _ e2 walk_list fun H3 e3 => sq_of (e3 _ _ hx)⟩
theorem el_sl {p : Addr} {tlo thi : TO} {lo hi : Option Int} (h : Ev te σ H (.ref p)) (hs : SqL K H p xs) (h1 : EvO tlo σ H lo) (h2 : EvO thi σ H hi) : EvL (tSl (rSlL K) te tlo thi) σ H (cutV xs lo hi) := fun H1 e Q q =>
  h H1 e _ fun H2 e2 => h1 H2 (e.trans e2) _ fun H3 e3 => h2 H3 ((e.trans e2).trans e3) _ fun H4 e4 => ⟨p, xs, rfl, ex_l (((e.trans e2).trans e3).trans e4) hs, fun q1 nq => q q1 _ (fresh_back ((e2.trans e3).trans e4) nq) (((e2.trans e3).trans e4).trans (Ex.new nq)) upd_same⟩
theorem cut_take (n : Nat) (xs : List V) : cutV xs none (some (n : Int)) = xs.take n := by
  unfold cutV HT.sIx
  simp only [List.drop_zero, Nat.sub_zero]
  rw [if_neg (by omega), Int.toNat_natCast]
  rcases Nat.le_total n xs.length with h | h
  · rw [Nat.min_eq_left h]
  · rw [Nat.min_eq_right h, List.take_length, List.take_of_length_le h]
/-- a if c else b, then the name is set -/
theorem asg_if {t : TT} {ta tb : TE} {g : TG} {b : Bool} (h : EvT t σ H b) (h1 : b = true → ∀ H1, Ex H H1 → tAsg ta g D σ H1) (h2 : b = false → ∀ H1, Ex H H1 → tAsg tb g D σ H1) : tAsg (tIf t ta tb) g D σ H := h H (Ex.refl _) _ fun H1 e1 => by
  cases b with
  | true => exact h1 rfl H1 e1
  | false => exact h2 rfl H1 e1
end
section
variable {X : Cx} {K : Frag}
theorem sl_list' (hK : X.K = K) : SlR X (rSlL K) := by subst hK; exact sl_list
theorem op_in_seq' (hK : X.K = K) : OpR X (compareOp .In) (rIn K false) := by subst hK; exact op_in_seq
theorem op_notIn_seq' (hK : X.K = K) : OpR X (compareOp .NotIn) (rIn K true) := by subst hK; exact op_notIn_seq
end
end BJ

/-! lists of pairs that are new: EvRN; entries put again and again -/
namespace BJ
open PySem PySem.Spec PyProof.Rows L2 Evl
open PySem.W (Frag)
section
variable {K : Frag} {σ : L2.St} {H : Hp} {te tl : TE} {tt : TT} {wi : TI} {vs : List Nat} {kvs : List (Key × V)} {xs : List V} {D : Ends} {i : Nat}
def EvRN (te : TE) (σ : L2.St) (H : Hp) (kvs : List (Key × V)) : Prop := ∀ H1, Ex H H1 → ∀ Q : VK, (∀ p ts H2, H1 p = none → Ex H1 H2 → H2 p = some (.lst (ts.map V.ref)) → Prs H2 ts kvs → Q (.ref p) H2) → te σ H1 Q
theorem EvRN.r (h : EvRN te σ H kvs) : EvR K te σ H kvs := fun H1 e Q q => h H1 e Q fun p ts H2 _ e2 hp hP => q p ts H2 e2 (sq_of hp) hP
theorem ern_list (h : ∀ H1, Ex H H1 → ∀ Q : VK, (∀ t ts H2, Ex H1 H2 → (SqL K H2 t (ts.map V.ref) ∨ SqT K H2 t (ts.map V.ref)) → Prs H2 ts kvs → Q (.ref t) H2) → te σ H1 Q) : EvRN (tCB (rListS K) (tCons te tNil)) σ H kvs := fun H1 e Q q =>
  h H1 e _ fun t ts H2 e2 ht hP => ⟨t, _, rfl, ht, fun l nl => q l ts _ (fresh_back e2 nl) (e2.trans (Ex.new nl)) upd_same (hP.ex (Ex.new nl))⟩
theorem ern_prs {j l : Nat} {ts : List Addr} (hi : EvI wi σ H (ts.map V.ref)) (hP : Prs H ts kvs) (f : Key × V → Bool) (F : Key × V → Key × V) (hn : kvs.length ≤ 100000) (hw : ∀ x y, wipe (((wipe σ vs).set j (some x)).set l (some y)) vs = wipe σ vs)
    (ht : ∀ q ∈ kvs, ∀ H1, Ex H H1 → EvT tt (((wipe σ vs).set j (some (kV q.1))).set l (some q.2)) H1 (f q)) (he : ∀ q ∈ kvs, f q = true → ∀ H1, Ex H H1 → EvU te (((wipe σ vs).set j (some (kV q.1))).set l (some q.2)) H1 [kV (F q).1, (F q).2]) :
    EvRN (tLc wi (gTup K 2 (gCons (gName j) (gCons (gName l) gNil))) tt te vs) σ H ((kvs.filter f).map F) := fun H1 e1 Q k => by
  have hl := Prs.len hP
  refine hi H1 e1 _ fun H2 J G e2 w hG => ?_
  have e12 := e1.trans e2
  refine lc_er w (fun i => f (kvs.getD i (.inl 0, .non))) (fun i => F (kvs.getD i (.inl 0, .non))) (by rw [List.length_map, hl]; exact hn) hG (fun i x H3 H4 hlt e3 y => ?_) (fun D ts' H' nD e' hx hts => ?_)
  · rw [List.length_map, hl] at hlt
    obtain ⟨rfl, hx⟩ := y
    obtain ⟨t, h1, h2⟩ := prs_nm hP hlt
    rw [h1] at hx
    cases hx
    have hd : kvs.getD i (.inl 0, .non) = kvs[i] := by rw [List.getD, List.getElem?_eq_getElem hlt]; rfl
    rw [hd]
    have hm := List.getElem_mem hlt
    exact ⟨_, hw _ _, Ex.refl _, fun Q q => ⟨t, _, rfl, st_of (e3 _ _ (e12 _ _ h2)), rfl, _, _, rfl, _, _, rfl, rfl, q⟩, ht _ hm H2 e12, fun hf => he _ hm hf H2 e12⟩
  · refine k D ts' H' (fresh_back e2 nD) (e2.trans e') hx ?_
    have hr : ((List.range (ts.map V.ref).length).filter (fun i => f (kvs.getD i (.inl 0, .non)))).map (fun i => F (kvs.getD i (.inl 0, .non))) = (kvs.filter f).map F := by
      rw [List.length_map, hl]
      exact given_pick kvs _ f F
    rw [hr] at hts
    exact hts
theorem s_asgRN (h : EvRN te σ H kvs) (k : ∀ p ts H1, H p = none → Ex H H1 → H1 p = some (.lst (ts.map V.ref)) → Prs H1 ts kvs → D.nx (σ.set i (some (.ref p))) H1) : tAsg te (gName i) D σ H := h H (Ex.refl _) _ fun p ts H1 np e hp hP => k p ts H1 np e hp hP
theorem s_asgLN (h : EvL te σ H xs) (k : ∀ p H1, H p = none → Ex H H1 → H1 p = some (.lst xs) → D.nx (σ.set i (some (.ref p))) H1) : tAsg te (gName i) D σ H := h H (Ex.refl _) _ fun p H1 np e hp => k p H1 np e hp
end
/-! entries put again -/
section
variable {kvs bks l : List (Key × V)} {k : Key} {v : V} {kv : Key × V}
theorem put_mem (h : kv ∈ putK l k v) : kv = (k, v) ∨ kv ∈ l := by
  unfold putK at h
  split at h
  · obtain ⟨x, hx, rfl⟩ := List.mem_map.mp h
    by_cases e : x.1 = k
    · rw [if_pos e, e]; exact .inl rfl
    · rw [if_neg e]; exact .inr hx
  · rcases List.mem_append.mp h with h | h
    · exact .inr h
    · exact .inl (List.mem_singleton.mp h)
theorem put_nd (nd : (l.map (·.1)).Nodup) : ((putK l k v).map (·.1)).Nodup := by
  cases h : valV l k with
  | none => exact nd_putK v nd h
  | some y =>
    unfold putK
    have this : (l.any fun kv => decide (kv.1 = k)) = true := by rw [valV_any, h]; rfl
    rw [if_pos this, List.map_map]
    have e : l.map ((fun x => x.1) ∘ fun kv => if kv.1 = k then (kv.1, v) else kv) = l.map (·.1) := List.map_congr_left fun x _ => by
      show (if x.1 = k then (x.1, v) else x).1 = x.1
      split <;> rfl
    rw [e]
    exact nd
theorem put_same (nd : (l.map (·.1)).Nodup) (h : valV l k = some v) : putK l k v = l := by
  unfold putK
  have this : (l.any fun kv => decide (kv.1 = k)) = true := by rw [valV_any, h]; rfl
  rw [if_pos this]
  have e : ∀ x ∈ l, (if x.1 = k then (x.1, v) else x) = x := fun x hx => by
    split
    · rename_i e
      have h1 := val_nodup nd _ hx
      rw [e, h] at h1
      cases h1
      rfl
    · rfl
  exact (List.map_congr_left e).trans (List.map_id _)
/-- what a Book lays over the fields -/
def layK (kvs bks : List (Key × V)) : List (Key × V) := bks.foldl (fun l q => putK l q.1 q.2) kvs
theorem layK_snoc {q : Key × V} : layK kvs (bks ++ [q]) = putK (layK kvs bks) q.1 q.2 := by
  unfold layK
  rw [List.foldl_append]
  rfl
theorem layK_take {i : Nat} {q : Key × V} (h : bks[i]? = some q) : layK kvs (bks.take (i + 1)) = putK (layK kvs (bks.take i)) q.1 q.2 := by
  rw [List.take_add_one, h]
  exact layK_snoc
theorem layK_len : ∀ (bks kvs : List (Key × V)), (layK kvs bks).length ≤ kvs.length + bks.length
  | [], kvs => Nat.le_refl _
  | q :: r, kvs => by
    have h1 := layK_len r (putK kvs q.1 q.2)
    have h2 := putK_le kvs q.1 q.2
    show (layK (putK kvs q.1 q.2) r).length ≤ _
    rw [List.length_cons]
    omega
theorem merge_all {P : Key × V → Prop} : ∀ (bks kvs : List (Key × V)), (∀ kv ∈ kvs, P kv) → (∀ kv ∈ bks, P kv) → ∀ kv ∈ layK kvs bks, P kv
  | [], kvs, h1, _ => h1
  | q :: r, kvs, h1, h2 => merge_all r _ (fun kv h => by
      rcases put_mem h with rfl | h
      · exact h2 _ List.mem_cons_self
      · exact h1 _ h) fun kv h => h2 _ (List.mem_cons_of_mem _ h)
theorem merge_nd : ∀ (bks kvs : List (Key × V)), (kvs.map (·.1)).Nodup → ((layK kvs bks).map (·.1)).Nodup
  | [], kvs, h => h
  | q :: r, kvs, h => merge_nd r _ (put_nd h)
theorem merge_not : ∀ (bks kvs : List (Key × V)) (k : Key), k ∉ bks.map (·.1) → valV (layK kvs bks) k = valV kvs k
  | [], kvs, k, _ => rfl
  | q :: r, kvs, k, h => by
    rw [List.map_cons, List.mem_cons, not_or] at h
    have := merge_not r (putK kvs q.1 q.2) k h.2
    rw [valV_put, if_neg h.1] at this
    exact this
theorem merge_get : ∀ (bks kvs : List (Key × V)), (bks.map (·.1)).Nodup → ∀ q ∈ bks, valV (layK kvs bks) q.1 = some q.2
  | [], kvs, _, q, h => nomatch h
  | p :: r, kvs, nd, q, h => by
    rw [List.map_cons, List.nodup_cons] at nd
    rcases List.mem_cons.mp h with rfl | h
    · have := merge_not r (putK kvs q.1 q.2) q.1 nd.1
      rw [valV_put, if_pos rfl] at this
      exact this
    · exact merge_get r _ nd.2 q h
theorem merge_same : ∀ (bks M : List (Key × V)), (M.map (·.1)).Nodup → (∀ q ∈ bks, valV M q.1 = some q.2) → layK M bks = M
  | [], M, _, _ => rfl
  | q :: r, M, nd, h => by
    show layK (putK M q.1 q.2) r = M
    rw [put_same nd (h q List.mem_cons_self)]
    exact merge_same r M nd fun p hp => h p (List.mem_cons_of_mem _ hp)
/-- the same by hand: each row with this key changed, or a row more -/
def overK (k : Key) (v : V) (kv : Key × V) : Key × V := (kv.1, if kv.1 = k then v else kv.2)
theorem over_put : putK l k v = if (l.any fun kv => decide (kv.1 = k)) = true then l.map (overK k v) else l.map (overK k v) ++ [(k, v)] := by
  unfold putK
  split
  · refine List.map_congr_left fun x _ => ?_
    unfold overK
    split <;> rfl
  · rename_i h
    congr 1
    refine ((List.map_congr_left fun x hx => ?_).trans (List.map_id _)).symm
    unfold overK
    rw [if_neg]
    · rfl
    · intro e
      exact h (List.any_eq_true.mpr ⟨x, hx, decide_eq_true e⟩)
theorem inV_keys {z : Str} : ∀ {l : List (Key × V)}, (∀ kv ∈ l, ∃ y, kv.1 = .inr y) → inV (.str z) (l.map fun kv => kV kv.1) = l.any fun kv => decide (kv.1 = .inr z)
  | [], _ => rfl
  | q :: r, h => by
    have ih := inV_keys (z := z) fun kv hk => h kv (List.mem_cons_of_mem _ hk)
    obtain ⟨y, hy⟩ := h q List.mem_cons_self
    unfold inV at ih ⊢
    rw [List.map_cons, List.any_cons, List.any_cons, ih, hy]
    congr 1
    show (y == z) = decide ((Sum.inr y : Key) = .inr z)
    by_cases e : y = z
    · rw [e]; simp
    · rw [decide_eq_false (fun h => e (Sum.inr.inj h))]; exact beq_eq_false_iff_ne.mpr e
theorem flat_keys (l : List (Key × V)) : (l.map fun kv => kV kv.1).all flatV = true := by
  rw [List.all_eq_true]
  intro v hv
  obtain ⟨⟨k, y⟩, _, rfl⟩ := List.mem_map.mp hv
  cases k <;> rfl
end
end BJ

/-! len(o), x in o of instances whose class has __len__, __contains__ -/
namespace BJ
open PySem PySem.Spec PyProof.Rows L2 Evl
open PySem.W (Frag)
/-- the class's own function of that name -/
structure Dun (K : Frag) (C : Addr) (name : Str) (g : Addr) : Prop where
  f : PySem.W.findIn K (.ref C) name = some (some (.ref g))
  fn : PySem.W.isFn K (.ref g) = true
section
variable {M : Model} {A : Around} {E : Value → Shared → Prop} {s : Shared} {K : Frag} {x C g : Addr} {ox : Obj} {od : Option Obj} {name : Str} {args : List Value}
theorem bind_fn {self : Value} {Q : Value × List Value → Shared → Prop} (X : K.In s.heap) (h : PySem.W.isFn K (.ref g) = true) (q : Q (.ref g, [self]) s) : wpAny M A (bindSpecial (.ref g) self) Q E s := by
  have ht : PySem.W.typeIn K (.ref g) = some (.type "function") := eq_of_beq h
  unfold bindSpecial
  refine wpAny_bind ((PySem.W.looks_typeIn X ht).here ?_)
  exact wpAny_ite_true rfl (wpAny_pure q)
theorem special_own {Q : Option Value → Shared → Prop} (X : K.In s.heap) (I : PySem.W.InstAt s.heap x ox C od) (d : Dun K C name g) (h : wpAny M A (call (.ref g) (.ref x :: args)) (fun v => Q (some v)) E s) : wpAny M A (callSpecial? (.ref x) name args) Q E s := by
  have fin := wpAny_bind (wpAny_mono h (fun v s' (h' : Q (some v) s') => wpAny_pure (M := M) (A := A) (E := E) h') fun _ _ h' => h')
  refine wpAny_bind (wpAny_bind (I.type.here ((PySem.W.looks_findIn X d.f).here ?_)))
  exact wpAny_holding (wpAny_bind (bind_fn X d.fn fin))
end
section
variable {X : Cx}
def rLenI (X : Cx) : List V → Hp → VK → Prop := fun xs H Q => ∃ (a C dx g : Addr) (fs : List (Str × V)) (k : Nat) (sp : Sp), xs = [.ref a] ∧ H a = some (.ins C dx fs) ∧ Dun X.K C "__len__" g ∧
  BJ.CallO X.prog X.w X.K X.mg X.base k (.ref g) sp ∧ Room (k + 1) X.A ∧ sp [.ref a] H (fun v H' => ∃ n : Nat, v = .int n ∧ n ≤ 1000000 ∧ Q (.int n) H') fun _ _ _ => False
theorem call_lenI : CallR X (.builtin "len") (rLenI X) := by
  rintro pins s σ H xs us Q I r ⟨a, C, dx, g, fs, k, sp, rfl, ea, dn, F, hr, q⟩
  obtain ⟨u, rfl, rx⟩ := L2.vals1 r
  obtain rfl : u = Value.ref a := rx
  obtain ⟨mA, O, _, _, _, _⟩ := ins_get I.hok ea
  obtain ⟨od, J, _⟩ := O.look
  refine Calls.call_function_entry kind_len plain_len entry_len (args_len1 _) ?_
  refine id (wpAny_bind (wpAny_pure (wpAny_bind (special_own I.kIn J dn (wpAny_call ?_)))))
  refine codeAny_mono (F X.A.in1 X.stack s H [.ref a] [.ref a] _ _ hr.in1 I.env0.in1 (.cons rfl .nil) q) fun r s' hq => ?_
  cases r with
  | error er =>
    obtain ⟨_, _, _, _, _, _, _, _, _, _, _, _, z⟩ := hq
    exact z.elim
  | ok fl =>
    cases fl with
    | ret u =>
      obtain ⟨v, H', I3, rv, n, rfl, hn, q3⟩ := I.after hq
      obtain ⟨t, rfl⟩ := (rv : ∃ t, u = Value.int (n : Int) t)
      refine wpAny_bind (wpAny_holding (wpAny_pure (wpAny_bind (wpAny_letGo ?_))))
      dsimp only
      rw [if_neg (by omega), if_neg (by omega)]
      exact wpAny_bind (wpAny_mkInt (wpAny_pure ⟨_, rfl, .int n, _, I3.tok _, ⟨_, rfl⟩, q3⟩))
    | _ => exact hq.elim
def rInI (X : Cx) : R2 := fun x y H Q => ∃ (a C dx g : Addr) (fs : List (Str × V)) (k : Nat) (sp : Sp), y = .ref a ∧ H a = some (.ins C dx fs) ∧ Dun X.K C "__contains__" g ∧
  BJ.CallO X.prog X.w X.K X.mg X.base k (.ref g) sp ∧ Room k X.A ∧ sp [.ref a, x] H (fun v H' => ∃ b, v = .bl b ∧ Q (.bl b) H') fun _ _ _ => False
theorem op_inI : OpR X (compareOp .In) (rInI X) := by
  rintro pins s σ H x y v u Q I rx ry ⟨a, C, dx, g, fs, k, sp, rfl, ea, dn, F, hr, q⟩
  obtain rfl : u = Value.ref a := ry
  obtain ⟨mA, O, _, _, _, _⟩ := ins_get I.hok ea
  obtain ⟨od, J, _⟩ := O.look
  refine wpAny_bind (m := contains (.ref a) v) ?_
  unfold contains
  refine wpAny_holding ?_
  show wpAny _ _ (specialOf (.ref a) "__contains__" >>= _) _ _ _
  refine wpAny_bind (wpAny_bind (J.type.here ((PySem.W.looks_findIn I.kIn dn.f).here ?_)))
  refine wpAny_ite_false rfl ?_
  refine wpAny_bind (m := callSpecialUnlessNone? _ _ _ _) ?_
  unfold callSpecialUnlessNone?
  refine wpAny_bind (wpAny_bind (J.type.here ((PySem.W.looks_findIn I.kIn dn.f).here ?_)))
  refine wpAny_holding (wpAny_bind (bind_fn I.kIn dn.fn ?_))
  refine wpAny_ite_false rfl ?_
  refine wpAny_bind (wpAny_call ?_)
  refine codeAny_mono (F X.A X.stack s H [.ref a, v] [.ref a, x] _ _ hr I.env0 (.cons rfl (.cons rx .nil)) q) fun r s' hq => ?_
  cases r with
  | error er =>
    obtain ⟨_, _, _, _, _, _, _, _, _, _, _, _, z⟩ := hq
    exact z.elim
  | ok fl =>
    cases fl with
    | ret u =>
      obtain ⟨v, H', I3, rv, b, rfl, q3⟩ := I.after hq
      obtain rfl : u = Value.bool b := rv
      exact wpAny_pure (wpAny_pure (wpAny_pure ⟨.bl b, _, I3, rfl, q3⟩))
    | _ => exact hq.elim
end
end BJ

/-! d.pop(k), the key there; sorted(d) of a dict whose keys are texts; str(text) -/
namespace BJ
open PySem PySem.Spec PyProof.Rows L2 Evl
open PySem.W (Frag)
section
variable {X : Cx}
def rPopK : V → List V → Hp → VK → Prop := fun x xs H Q => ∃ (a : Addr) (kvs : List (Key × V)) (k : Key) (v : V), x = .ref a ∧ xs = [kV k] ∧ H a = some (.dK kvs) ∧ valV kvs k = some v ∧ Q v (upd H a (.dK (dropK kvs k)))
theorem key_part {k : Key} {u : Value} (r : RelV (kV k) u) : (keyPart u).isSome = true := by
  cases k with
  | inl i => obtain ⟨t, rfl⟩ := (r : ∃ t, u = Value.int i t); rfl
  | inr z => obtain ⟨t, rfl⟩ := (r : ∃ t, u = Value.str z t); rfl
theorem mt_popK : MtR X "dict.pop" rPopK := by
  rintro pins s σ H x xs v us Q I rx r ⟨a, kvs, k, y, rfl, rfl, e, hv, q⟩
  obtain rfl : v = Value.ref a := rx
  obtain ⟨u, rfl, ry⟩ := L2.vals1 r
  obtain ⟨z, hd, vs, rel, dd⟩ := dk_of I.hok e
  have hrel := KV.val rel k
  rw [hv] at hrel
  obtain ⟨y', hy'⟩ : ∃ y', valueAt vs k = some y' := by
    cases hh : valueAt vs k with
    | none => rw [hh] at hrel; exact absurd hrel (by simp [RelO])
    | some y' => exact ⟨y', rfl⟩
  rw [hy'] at hrel
  refine call_meetsIn F.slot_dict_pop dd.typeIs F.entry_dict_pop (F.args_dict_pop_2 _ _) (meets_dict_pop_there (mixKind X.prog X.w) a (kV_is ry) [] (.inl rfl) (key_part ry)) ⟨vs, y', dd, by rw [← KV.length rel]; exact z, hy', fun h' dd' hs => ?_⟩
  have he : ∃ q, h'.get? a = some q := by
    obtain ⟨q, _, _, hq, _⟩ := dd'
    exact ⟨q, hq⟩
  exact ⟨y, _, d_write I (by rw [e]; exact trivial) hs he (dk_new (Nat.le_trans (dropK_le kvs k) z) hd (KV.drop rel k) dd'), hrel, q⟩
end
end BJ

/-! sorted(d) of a dict whose keys are texts -/
namespace BJ
open PySem PySem.Spec PyProof.Rows L2 Evl
section
variable {prog : Program} {w : World} {A : Around} {E : Value → Shared → Prop} {s : Shared} {KK : Type} [DecidableEq KK] {knd : PySem.KeyKind prog w KK} {d : Addr} {kvs : List (KK × Value)} {ep : Nat}
theorem collect_dict {Q : List Value → Shared → Prop} (lo : (d == sysModules) = false) (hh : A.handled = none) (hd : Heap.DictAt knd s.heap d kvs ep) (hn : kvs.length ≤ sizeLine)
    (hQ : ∀ h' tk (acc : Array Value), (∀ b o, s.heap.get? b = some o → h'.get? b = some o) → s.heap.objs.size ≤ h'.objs.size → ItemsOf (fun i v => ∃ k x, kvs[i]? = some (k, x) ∧ knd.is k v = true) acc kvs.length → Q acc.toList { s with heap := h', toks := tk }) :
    wpAny (model prog w) A (collect (.ref d)) Q E s := by
  have K := PySem.W.kdl_dict (prog := prog) (w := w) (knd := knd) (kvs := kvs) (ep := ep) lo
  have hlt := K.there s.heap hd
  unfold collect
  refine wpAny_bind (wpAny_runValue (codeAny_builtin F.entry_proto_collect ?_))
  rw [Around.under_plainId F.plain_proto_collect]
  refine wpAny_bind (wpAny_newObj_type (wpAny_pure ⟨plainId_quiet F.plain_list_iadd _, codeAny_builtin F.entry_list_iadd ?_⟩))
  rw [Around.under_plainId F.plain_list_iadd]
  have hS := Heap.get?_push_size s.heap (o := { cls := Value.type "list", data := Data.seq #[] }) rfl
  have go := PySem.W.kdl_extend (R := fun r s' => match r with
    | .ok (.ret v) => wpAny (model prog w) A (match v with
      | .ref a => do
        let o ← load a
        match o.data with
        | .seq xs _ => pure xs.toList
        | _ => unsupported "internal:collect"
      | _ => unsupported "internal:collect") Q E s'
    | .ok _ => False
    | .error e => E e s') (s := { s with heap := s.heap.push { cls := Value.type "list", data := Data.seq #[] } }) K hh (K.keep s.heap _ hd fun b hb o e => Heap.get?_push_of_some _ e) s.heap.objs.size (Nat.ne_of_gt hlt.1) (Nat.ne_of_gt hlt.2) (.ref s.heap.objs.size) 0 hS (fun h' tk acc c' hk hS' hacc => ?_) hn
  · exact go
  · refine wpAny_bind (wpAny_load hS' (wpAny_pure (hQ h' tk acc (fun b o e => hk b o (Nat.ne_of_lt (Heap.lt_size e)) (Heap.get?_push_of_some _ e)) (Nat.le_of_lt (Heap.lt_size hS')) hacc)))
end
section
variable {X : Cx}
def rSortedDK : List V → Hp → VK → Prop := fun xs H Q => ∃ (a : Addr) (kvs : List (Key × V)) (zs : List Str), xs = [.ref a] ∧ H a = some (.dK kvs) ∧ (kvs.map fun kv => kV kv.1) = zs.map V.str ∧ zs.length < 64 ∧
  ∀ (ys : List Str) (p : Addr), ys.Perm zs → sortedS ys = true → H p = none → Q (.ref p) (upd H p (.lst (ys.map V.str)))
theorem call_sortedDK (hcalm : X.calm = true) : CallR X (.builtin "sorted") rSortedDK := by
  rintro pins s σ H xs us Q I r ⟨a, kvs, zs, rfl, e, hz, h64, q⟩
  obtain ⟨u, rfl, rx⟩ := L2.vals1 r
  obtain rfl : u = Value.ref a := rx
  obtain ⟨z, hd, vs, rel, dd⟩ := dk_of I.hok e
  obtain ⟨ep, hat⟩ := Heap.DictOf.dictAt dd
  have hlen := KV.length rel
  have hzl : kvs.length = zs.length := by have := congrArg List.length hz; simpa using this
  refine Calls.call_function_entry kind_sorted plain_sorted entry_sorted (args_sorted1 _) ?_
  refine id (wpAny_bind (wpAny_pure (wpAny_bind (collect_dict (A := X.A.in1) hd (I.ok.hd hcalm) hat (by rw [← hlen]; exact z) fun h' tk acc hk hs hacc => ?_))))
  have ek : (vs.map fun p => kV p.1) = zs.map V.str := by
    rw [← hz]
    have := congrArg (List.map kV) (KV.keys rel)
    rw [List.map_map, List.map_map] at this
    exact this.symm
  have hv := keys_at (us := acc.toList) (vs := vs) (by rw [Array.length_toList]; exact hacc.1) fun j v e => hacc.2 j v (by rw [← Array.getElem?_toList]; exact e)
  rw [ek] at hv
  have hS := hv.strs
  have hl64 : acc.toList.length < 64 := by rw [Array.length_toList, hacc.1, ← hlen, hzl]; exact h64
  refine wpAny_bind (wpAny_newList ?_ (Nat.le_of_lt (Nat.lt_of_lt_of_le hl64 (by rw [sizeLine_eq]; decide))))
  have hoL := Heap.get?_push_size h' (o := seqObj "list" acc.toList.toArray 0) rfl
  refine wpAny_bind (wpAny_holding (wpAny_call_entry slot_list_sort ⟨_, hoL, rfl⟩ entry_list_sort (list_sort_treeK strKind_oneLt hoL hS.keysOf (fun v1 v2 rest e => keyKind_strs (by rw [← e]; exact hS)) hl64 fun st' hp hs' => ?_) (args_list_sort _)))
  obtain ⟨ys, h1, h2, h3⟩ := sorted_out_str hS hp hs'
  refine ⟨_, rfl, wpAny_pure ⟨_, rfl, ?_⟩⟩
  obtain ⟨c, hc⟩ := sortedHeap_at (out := (arrOf st').map fun x => x.2) hoL
  have hold : ∀ b o, s.heap.get? b = some o → (sortedHeap (h'.push (seqObj "list" acc.toList.toArray 0)) h'.objs.size acc.toList ((arrOf st').map fun x => x.2)).get? b = some o := fun b o eb => by
    have e1 := hk b o eb
    have hb := Heap.lt_size e1
    rw [sortedHeap_old (Nat.ne_of_lt hb) (Nat.lt_of_lt_of_le hb (by rw [size_push']; exact Nat.le_succ _))]
    exact Heap.get?_push_of_some _ e1
  refine ⟨.ref h'.objs.size, upd H h'.objs.size (.lst (ys.map V.str)), I.laid hold hs ⟨?_, _, c, vals_of_strs h1, hc⟩, rfl, q ys _ h2 h3 (HOk.fresh I.hok hs)⟩
  rw [List.length_map, h2.length_eq, sizeLine_eq]
  omega
end
end BJ

/-! x is not False, of bools -/
namespace BJ
open PySem PySem.Spec PyProof.Rows L2 Evl
open PySem.W (Frag)
variable {X : Cx}
theorem bl_beq (a b : Bool) : (Value.bool a == Value.bool b) = decide (a = b) := by
  cases a <;> cases b <;> rfl
def rNB : R2 := fun x y H Q => ∃ a b, x = .bl a ∧ y = .bl b ∧ Q (.bl (!decide (a = b))) H
theorem op_notBool : OpR X (compareOp .IsNot) rNB := by
  intro pins s σ H x y v u Q I rx ry h
  obtain ⟨a, b, rfl, rfl, q⟩ := h
  cases (show v = Value.bool a from rx)
  cases (show u = Value.bool b from ry)
  exact wpAny_isNot_plain rfl (fin_bl I q (congrArg not (bl_beq a b).symm))
end BJ

/-! the head by one kernel run, the tables of the code objects told, too -/
namespace BJ
open PySem PySem.W PySem.Calls PyProof.Rows HeadRun
theorem left_oneM {p q : Program} {loose : List PySem.Str} {Xt : Shared → Bool} {K : Params → Frag} {as : List Addr} {ek : ∀ P, as = (K P).map (·.1)} {ts : List Addr} {N M : Nat}
    (e : opening p = plainProg p.main.scope.names) (hN : Nat.ble 600 N = true) (f : ∀ s, fenceModules? p s = some s) (le : Nat.ble M N = true)
    (run : ∀ (w : World) (os : OsState), (endF (stepQ (denQ tabQ) p w) M p w os).map (fun s => (looksF p (boot_heap w.params) s.abs, seenQ q loose (importedModules p.main.body) Xt s.abs, as.map (getT s), ts.map (getT s))) =
      some (true, openGood q loose, (K w.params).map (fun p => some p.2), ts.map fun _ => some (tabObj #[]))) :
    LeftO p q loose Xt (Hook.obs (kmHook K as ek ts)) (Hook.val (kmHook K as ek ts)) N true :=
  left_one (M := M) e hN f le fun w os => by
    have z := run w os
    have eo : (fun s : SharedT => (looksF p (boot_heap w.params) s.abs, seenQ q loose (importedModules p.main.body) Xt s.abs, as.map (getT s), ts.map (getT s))) =
        fun s => (looksF p (boot_heap w.params) s.abs, seenQ q loose (importedModules p.main.body) Xt s.abs, Hook.obs (kmHook K as ek ts) s.abs) := by
      funext s
      have q1 : (as.map (getT s), ts.map (getT s)) = Hook.obs (kmHook K as ek ts) s.abs := by
        show _ = (as.map s.abs.heap.get?, ts.map s.abs.heap.get?)
        rw [List.map_congr_left fun a _ => getT_eq s a, List.map_congr_left fun a _ => getT_eq s a]
      rw [← q1]
      rfl
    rw [eo] at z
    simp only [endQ_eq, seenQ_eq]
    exact z
end BJ

namespace BJ
/-- one run looked at three times -/
theorem map3 {α β γ δ : Type} {o : Option α} {f : α → β} {g : α → γ} {k : α → δ} {b : β} {c : γ} {d : δ} (h1 : o.map f = some b) (h2 : o.map g = some c) (h3 : o.map k = some d) : o.map (fun s => (f s, g s, k s)) = some (b, c, d) := by
  cases o with
  | none => cases h1
  | some x =>
    injection h1 with h1; injection h2 with h2; injection h3 with h3
    show some (f x, g x, k x) = _
    rw [h1, h2, h3]
end BJ

/-! the head by three runs, each a theorem of its own; the view holds the law alone -/
namespace BJ
open PySem PySem.W PySem.Calls PyProof.Rows HandSHeadRun
/-- some answers of a world, where any will do -/
def anyP : Params := { strHash := fun _ => 0, shareClass := fun _ => 0, mergeTok := fun t => t, idOf := fun _ => 0, idOfShared := fun _ _ => 0, followText := fun _ => false, idOfImm := fun _ => 0 }
def Run1 (r : OpenRow) (M : Nat) : Prop := ∀ (w : World) (os : OsState), (endF (stepQ (denQ tabQ) r.prog w) M r.prog w os).map (fun s => looksF r.prog (boot_heap w.params) s.abs) = some true
def Run2 (r : OpenRow) (M : Nat) (q : Program) (loose : List PySem.Str) : Prop := ∀ (w : World) (os : OsState), (endF (stepQ (denQ tabQ) r.prog w) M r.prog w os).map (fun s => seenQ q loose (importedModules r.prog.main.body) (fun s => xlAt q [] s && recOk r.toRowW.records s) s.abs) = some (openGood q loose)
def Run3 (r : OpenRow) (M : Nat) (as : List Addr) (K : Params → Frag) : Prop := ∀ (w : World) (os : OsState), (endF (stepQ (denQ tabQ) r.prog w) M r.prog w os).map (fun s => as.map (getT s)) = some ((K w.params).map fun x => some x.2)
theorem head_k {r : OpenRow} {q : Program} {loose : List PySem.Str} {K : Params → Frag} {as : List Addr} {M : Nat} {d : DefRec} {kwd : List (PySem.Str × PySem.Expr)} (ek : ∀ P, as = (K P).map (·.1))
    (e : opening r.prog = plainProg r.prog.main.scope.names) (f : ∀ s, fenceModules? r.prog s = some s) (run1 : Run1 r M) (run2 : Run2 r M q loose) (run3 : Run3 r M as K)
    (hdef : defOf q r.name = some (d, kwd)) (hp : r.prog.theDef r.name = some (d.params, d.body, d.scope)) (hk : kwWritten? d.params.kwonlyargs d.params.kw_defaults = some kwd)
    (hwr : (!r.writes || r.records.isEmpty) = true) (k1 : r.wellSaid = true) (ok : (chainsOk q && opensWell r.prog && (frees r.toRowW && r.within.isEmpty)) = true) (hb : r.prog.bare) (hw : r.toRowW.promised)
    (call : WalkO q loose (XL q []) (InK K) r.toRowW d kwd fun f vs => PySem.call f vs) : r.Holds :=
  head_any (H := kHook K as ek) (ob := fun s => as.map (getT s)) (fun s => List.map_congr_left fun a _ => getT_eq s a) e f (fun w os => map3 (run1 w os) (run2 w os) (run3 w os)) hdef hp hk hwr k1 ok hb hw call
end BJ

/-! str(text); x in o within a comprehension; a def with keyword-only parameters -/
namespace BJ
open PySem PySem.Spec PyProof.Rows L2 Evl
open PySem.W (Frag)
section
variable {X X0 : Cx}
def rStrT : List V → Hp → VK → Prop := fun xs H Q => ∃ z, xs = [.str z] ∧ Q (.str z) H
theorem call_str_str : CallR X (.type "str") rStrT := by
  intro pins s σ H xs us Q I r h
  obtain ⟨z, rfl, q⟩ := h
  obtain ⟨u, rfl, t, rfl⟩ := vals1 r
  exact PySem.P.str_of_str ⟨.str _, H, I, ⟨_, rfl⟩, q⟩
theorem rInI_same (h : SameCx X X0) : rInI X0 = rInI X := by
  unfold rInI
  rw [h.p, h.w, h.k, h.m, h.b, h.a]
theorem op_inI' (h : SameCx X X0) : OpR X (compareOp .In) (rInI X0) := by
  rw [rInI_same h]
  exact op_inI
end
/-- the def enter(self, brand, make, reduce, *, takes, build=None), by its two ways of calling -/
structure DefEnt (K : Frag) (st : Stmt) (f : Addr) : Prop where
  ex : ∃ (oc : Value) (od : Option Addr) (D : Addr) (doc pm : Value) (an : Option Addr) (cdv ct : Value) (osl : Array (Option Value)),
    K.lookup f = some ⟨oc, od, .func (PySem.W.fnOf "enter" "Registry.enter" (defArgs st) (defBody st) (defScope st) .none (.ref D) doc pm an cdv ct), osl⟩ ∧ PySem.W.codeIn K cdv "Registry.enter" = true ∧ PySem.W.nsIn K D "build" = some (some .none) ∧
    (∀ u1 u2 u3 u4 t z : Value, KwChain D [("build", z)] (bindArgs (PySem.W.fnOf "enter" "Registry.enter" (defArgs st) (defBody st) (defScope st) .none (.ref D) doc pm an cdv ct) ⟨[u1, u2, u3, u4], [("takes", t)]⟩) [("self", u1), ("brand", u2), ("make", u3), ("reduce", u4), ("takes", t), ("build", z)]) ∧
    (∀ u1 b t r m br : Value, bindArgs (PySem.W.fnOf "enter" "Registry.enter" (defArgs st) (defBody st) (defScope st) .none (.ref D) doc pm an cdv ct) ⟨[u1], [("build", b), ("takes", t), ("reduce", r), ("make", m), ("brand", br)]⟩ = pure [(("self" : Str), u1), (("brand" : Str), br), (("make" : Str), m), (("reduce" : Str), r), (("takes" : Str), t), (("build" : Str), b)])
section
variable {P : Program} {w : World} {K : Frag} {mg : Str → Option Value} {base : Heap} {st : Stmt} {f : Addr} {N : List Str} {k : Nat} {sp : Sp}
theorem DefEnt.ok (D : DefEnt K st f) (S : FnScope N ["self", "brand", "make", "reduce", "takes", "build"] (defScope st)) (len : ∀ vs H Q E, sp vs H Q E → vs.length = 6)
    (hbody : ∀ (cdv : Value) (A : Around) (outer : List Env) (s : Shared) (H : Hp) (vs : List V) (Q : VK) (E : XK),
      Room k (A.deeper (envOfC "Registry.enter" (defScope st) s.heap.objs.size f cdv)) → sp vs H Q E →
      ∃ t, PSs (cxOf (L2.CX P w) P w K mg base N "Registry.enter" (defScope st) f cdv A outer s H E) (defBody st) t ∧ t { nx := fun _ H' => Q .non H', rt := Q } (start N vs) H) :
    (CallX P w K mg base (k + 1) (.ref f) ["takes"] fun vs zs H Q E => vs.length = 4 ∧ zs.length = 1 ∧ sp (vs ++ zs ++ [.non]) H Q E) ∧
    (CallX P w K mg base (k + 1) (.ref f) ["build", "takes", "reduce", "make", "brand"] fun vs zs H Q E => vs.length = 1 ∧ zs.length = 5 ∧ sp (vs ++ zs.reverse.take 3 ++ [zs.getD 1 .non, zs.getD 0 .non]) H Q E) := by
  obtain ⟨oc, od, T, doc, pm, an, cdv, ct, osl, lk, hcd, hb, b1, b2⟩ := D.ex
  have F : FnOk P w K mg base (L2.CX P w) (k + 1) f _ ["self", "brand", "make", "reduce", "takes", "build"] sp := fn_of lk hcd S len fun A outer s H vs Q E hr hsp => hbody cdv A outer s H vs Q E hr hsp
  refine ⟨callX_of F (n := 4) (g := fun us ws => us ++ ws ++ [.none]) (gV := fun vs zs => vs ++ zs ++ [.non]) ⟨fun s us ws X hu hw => ?_, fun r r2 => (r.append r2).append (.cons (show RelV V.non Value.none from rfl) .nil)⟩,
    callX_of F (n := 1) (g := fun us ws => us ++ ws.reverse.take 3 ++ [ws.getD 1 .none, ws.getD 0 .none]) (gV := fun vs zs => vs ++ zs.reverse.take 3 ++ [zs.getD 1 .non, zs.getD 0 .non]) ⟨fun s us ws X hu hw => ?_, fun r r2 => ?_⟩⟩
  · match us, ws, hu, hw with
    | [u1, u2, u3, u4], [t], _, _ =>
      exact BindsTo.of_looks fun M => KwChain.looks X (by
        intro q hq
        rw [List.mem_singleton.mp hq]
        exact hb) (b1 u1 u2 u3 u4 t .none)
  · match us, ws, hu, hw with
    | [u1], [b, t, r, m, br], _, _ => exact .of_eq (b2 u1 b t r m br)
  · have getR : ∀ {vs : List V} {us : List Value} (i : Nat), Vals vs us → RelV (vs.getD i .non) (us.getD i .none) := by
      intro vs us i h
      induction h generalizing i with
      | nil => cases i <;> rfl
      | cons h1 _ ih =>
        cases i with
        | zero => exact h1
        | succ i => exact ih i
    have takeR : ∀ {vs : List V} {us : List Value} (n : Nat), Vals vs us → Vals (vs.take n) (us.take n) := by
      intro vs us n h
      induction h generalizing n with
      | nil => cases n <;> exact .nil
      | cons h1 _ ih =>
        cases n with
        | zero => exact .nil
        | succ n => exact .cons h1 (ih n)
    have revR : ∀ {vs : List V} {us : List Value}, Vals vs us → Vals vs.reverse us.reverse := by
      intro vs us h
      induction h with
      | nil => exact .nil
      | cons h1 _ ih =>
        rw [List.reverse_cons, List.reverse_cons]
        exact ih.append (.cons h1 .nil)
    exact (r.append (takeR 3 (revR r2))).append (.cons (getR 1 r2) (.cons (getR 0 r2) .nil))
end
/-- atoms, None among them -/
def atomN : Value → Option V
  | .none => some .non
  | .bool b => some (.bl b)
  | .int i _ => some (.int i)
  | .str x _ => some (.str x)
  | _ => none
theorem atomN_rel {u : Value} {v : V} (h : atomN u = some v) : RelV v u := by
  cases u <;> simp [atomN] at h
  · subst h; rfl
  · subst h; rfl
  · subst h; exact ⟨_, rfl⟩
  · subst h; exact ⟨_, rfl⟩
def rowN (K : Frag) (b : Addr) : Option (List V) := (tupIn K b).bind fun l => l.mapM atomN
theorem mapM_valsN : ∀ {l : List Value} {vs : List V}, l.mapM atomN = some vs → Vals vs l
  | [], vs, h => by
    simp at h
    subst h
    exact .nil
  | u :: l, vs, h => by
    rw [List.mapM_cons] at h
    simp only [Option.bind_eq_bind, Option.bind_eq_some_iff, Option.pure_def, Option.some.injEq] at h
    obtain ⟨v, hv, ws, hw, rfl⟩ := h
    exact .cons (atomN_rel hv) (mapM_valsN hw)
theorem rowN_at {K : Frag} {b : Addr} {r : List V} (h : rowN K b = some r) (H : Hp) : SqT K H b r := by
  obtain ⟨l, h1, h2⟩ := Option.bind_eq_some_iff.mp (show (tupIn K b).bind (fun l => l.mapM atomN) = some r from h)
  obtain ⟨o, its, n, e1, e2, e3, e4, rfl⟩ := tupIn_at h1
  exact .inr ⟨o, its, n, e1, e2, e3, e4, mapM_valsN h2⟩
end BJ

/-! o.m(..) where the class and the method's promise are known ahead (within lambdas) -/
namespace BJ
open PySem PySem.Spec PyProof.Rows L2 Evl
open PySem.W (Frag)
def tMo (C : Addr) (m : Str) (spk : SpK) (W : WX) (ta : TE) (t tk : TA) : TE := fun σ H Q => ta σ H fun x H1 => ∃ (a dx : Addr) (fs : List (Str × V)), x = .ref a ∧ H1 a = some (.ins C dx fs) ∧ fs.lookup m = none ∧
  t σ H1 fun vs H2 => tk σ H2 fun zs H3 => spk (x :: vs) zs H3 Q fun cls d H' => W cls d σ H'
section
variable {X : Cx} {o e : Expr} {es : List Expr} {kws : List Keyword} {m : Str} {apos pos : Pos} {pl : Sem Bool} {W : WX} {ta : TE} {t tk : TA} {ks : List Str} {C g : Addr} {k : Nat} {spk : SpK}
theorem pe_mo (c : Cls X.K C) (hm : Meth X.K C m g) (F : CallX X.prog X.w X.K X.mg X.base k (.ref g) ks spk) (hr : Room k X.A) (he : PE X o ta) (tkW : Takes X W) (ha : PA X (e :: es) t) (hkw : PK X kws tk)
    (hall : (backToKw pos (keywordEach kws X.env)).all (·.1.isSome) = true := by rfl) (hks : (backToKw pos (keywordEach kws X.env)).filterMap (·.1) = ks := by rfl)
    (hst : starEach (e :: es) X.env = (false, eval e X.env) :: starEach es X.env := by rfl)
    (hpl : ((backTo pos (starEach (e :: es) X.env)).any (·.1) || (backToKw pos (keywordEach kws X.env)).any (·.1.isNone)) = false := by rfl)
    (ht : eval (.Call (.Attribute o m apos) (e :: es) kws pos) X.env = (do
      let ov ← eval o X.env
      standAt apos.atName
      let (f, first) ← holding [ov] (getMethod ov m pl)
      callWith pos f first (backTo pos (starEach (e :: es) X.env)) (backToKw pos (keywordEach kws X.env))) := by rfl) :
    PE X (.Call (.Attribute o m apos) (e :: es) kws pos) (tMo C m spk W ta t tk) := by
  refine ⟨fun pins s σ H Q I h => ?_⟩
  refine PySem.W.methodCall_KW (pl := pl) (thn (he.run pins s σ H _ I h) fun u s1 ⟨x, H1, I1, rx, a, dx, fs, ex, ea, l, q⟩ => ?_) ht
  subst ex
  obtain rfl : u = Value.ref a := rx
  refine getmeth_ok I1 ea c hm l ?_
  refine PySem.W.callWith_KW (first := [.ref a]) (h₀ := X.base) I.ok.mod.kin hm.kp hall (thn (ha.run pos pins s1 σ H1 _ I1 q) fun us s2 ⟨vs, H2, I2, r, q2⟩ => ?_) hpl hst
  refine thn (hkw.run pos pins s2 σ H2 _ I2 q2) ?_
  rintro ws s3 ⟨zs, H3, I3, rz, q3⟩
  rw [hks]
  exact ⟨I3.kIn, run_callX (us := .ref a :: us) (vs := .ref a :: vs) F hr tkW I3 (.cons rfl r) rz q3⟩
theorem pe_mo0 (c : Cls X.K C) (hm : Meth X.K C m g) (F : CallX X.prog X.w X.K X.mg X.base k (.ref g) ks spk) (hr : Room k X.A) (he : PE X o ta) (tkW : Takes X W) (hkw : PK X kws tk)
    (hall : (backToKw pos (keywordEach kws X.env)).all (·.1.isSome) = true := by rfl) (hks : (backToKw pos (keywordEach kws X.env)).filterMap (·.1) = ks := by rfl)
    (hpl : ((backTo pos (starEach [] X.env)).any (·.1) || (backToKw pos (keywordEach kws X.env)).any (·.1.isNone)) = false := by rfl)
    (ht : eval (.Call (.Attribute o m apos) [] kws pos) X.env = (do
      let ov ← eval o X.env
      standAt apos.atName
      let (f, first) ← holding [ov] (getMethod ov m pl)
      callWith pos f first (backTo pos (starEach [] X.env)) (backToKw pos (keywordEach kws X.env))) := by rfl) :
    PE X (.Call (.Attribute o m apos) [] kws pos) (tMo C m spk W ta tNil tk) := by
  refine ⟨fun pins s σ H Q I h => ?_⟩
  refine PySem.W.methodCall_KW (pl := pl) (thn (he.run pins s σ H _ I h) fun u s1 ⟨x, H1, I1, rx, a, dx, fs, ex, ea, l, q⟩ => ?_) ht
  subst ex
  obtain rfl : u = Value.ref a := rx
  refine getmeth_ok I1 ea c hm l ?_
  refine PySem.W.callWith_KW0 (first := [.ref a]) (h₀ := X.base) I.ok.mod.kin hm.kp hall (thn (hkw.run pos pins s1 σ H1 _ I1 q) ?_) hpl
  rintro ws s3 ⟨zs, H3, I3, rz, q3⟩
  rw [hks]
  exact ⟨I3.kIn, run_callX (us := [.ref a]) (vs := [.ref a]) F hr tkW I3 (.cons rfl .nil) rz q3⟩
end
end BJ

/-! the head by runs, the tables of code objects told, too -/
namespace BJ
open PySem PySem.W PySem.Calls PyProof.Rows HandSHeadRun
/-- the table of the code object of the def x -/
def tabAt (K : Frag) (x : PySem.Str) : Addr := match nsIn K mainGlobals x with
  | some (some (.ref f)) => (match K.lookup f with
    | some ⟨_, _, .func fd, _⟩ => (match fd.code with
      | .ref c => (match K.lookup c with
        | some ⟨_, _, .fields vs, _⟩ => (match (vs[11]? : Option Value) with
          | some (.ref p) => p
          | _ => 0)
        | _ => 0)
      | _ => 0)
    | _ => 0)
  | _ => 0
def Run4 (r : OpenRow) (M : Nat) (ts : List Addr) : Prop := ∀ (w : World) (os : OsState), (endF (stepQ (denQ tabQ) r.prog w) M r.prog w os).map (fun s => ts.map (getT s)) = some (ts.map fun _ => some (tabObj #[]))
theorem map4 {α β γ δ ε : Type} {o : Option α} {f : α → β} {g : α → γ} {k : α → δ} {l : α → ε} {b : β} {c : γ} {d : δ} {e : ε} (h1 : o.map f = some b) (h2 : o.map g = some c) (h3 : o.map k = some d) (h4 : o.map l = some e) : o.map (fun s => (f s, g s, (k s, l s))) = some (b, c, (d, e)) := by
  cases o with
  | none => cases h1
  | some x =>
    injection h1 with h1; injection h2 with h2; injection h3 with h3; injection h4 with h4
    show some (f x, g x, (k x, l x)) = _
    rw [h1, h2, h3, h4]
theorem head_km {r : OpenRow} {q : Program} {loose : List PySem.Str} {K : Params → Frag} {as ts : List Addr} {M : Nat} {d : DefRec} {kwd : List (PySem.Str × PySem.Expr)} (ek : ∀ P, as = (K P).map (·.1))
    (e : opening r.prog = plainProg r.prog.main.scope.names) (f : ∀ s, fenceModules? r.prog s = some s) (run1 : Run1 r M) (run2 : Run2 r M q loose) (run3 : Run3 r M as K) (run4 : Run4 r M ts)
    (hdef : defOf q r.name = some (d, kwd)) (hp : r.prog.theDef r.name = some (d.params, d.body, d.scope)) (hk : kwWritten? d.params.kwonlyargs d.params.kw_defaults = some kwd)
    (hwr : (!r.writes || r.records.isEmpty) = true) (k1 : r.wellSaid = true) (ok : (chainsOk q && opensWell r.prog && (frees r.toRowW && r.within.isEmpty)) = true) (hb : r.prog.bare) (hw : r.toRowW.promised)
    (call : WalkO q loose (XL q []) (kmHook K as ek ts).says r.toRowW d kwd fun f vs => PySem.call f vs) : r.Holds :=
  head_any (H := kmHook K as ek ts) (ob := fun s => (as.map (getT s), ts.map (getT s))) (fun s => Prod.ext (List.map_congr_left fun a _ => getT_eq s a) (List.map_congr_left fun a _ => getT_eq s a)) e f
    (fun w os => map4 (run1 w os) (run2 w os) (run3 w os) (run4 w os)) hdef hp hk hwr k1 ok hb hw call
end BJ

namespace BJL
open PySem PySem.Spec PyProof.Rows L2 BJ
def topS (i : Nat) : Stmt := PySem.Challenge.pw_brinejar_k09_registries.main.body.getD i (.Pass ⟨0, 0, 0, 0⟩)
abbrev s_is_integer : Stmt := topS 20
theorem sc_is_integer : FnScope ["thing"] ["thing"] (defScope s_is_integer) := ⟨rfl, rfl, rfl, by decide +kernel, rfl, by decide +kernel, by decide +kernel⟩
abbrev s_is_text : Stmt := topS 22
theorem sc_is_text : FnScope ["thing"] ["thing"] (defScope s_is_text) := ⟨rfl, rfl, rfl, by decide +kernel, rfl, by decide +kernel, by decide +kernel⟩
abbrev s_is_brand : Stmt := topS 25
theorem sc_is_brand : FnScope ["thing", "sign"] ["thing"] (defScope s_is_brand) := ⟨rfl, rfl, rfl, by decide +kernel, rfl, by decide +kernel, by decide +kernel⟩
abbrev s_Registry___init__ : Stmt := inClass (topS 36) 0
theorem sc_Registry___init__ : FnScope ["self", "brands", "brand"] ["self", "brands"] (defScope s_Registry___init__) := ⟨rfl, rfl, rfl, by decide +kernel, rfl, by decide +kernel, by decide +kernel⟩
abbrev s_Registry_check_new : Stmt := inClass (topS 36) 1
theorem sc_Registry_check_new : FnScope ["self", "brand"] ["self", "brand"] (defScope s_Registry_check_new) := ⟨rfl, rfl, rfl, by decide +kernel, rfl, by decide +kernel, by decide +kernel⟩
abbrev s_Registry_check_known : Stmt := inClass (topS 36) 2
theorem sc_Registry_check_known : FnScope ["self", "brand"] ["self", "brand"] (defScope s_Registry_check_known) := ⟨rfl, rfl, rfl, by decide +kernel, rfl, by decide +kernel, by decide +kernel⟩
abbrev s_Registry_allow : Stmt := inClass (topS 36) 3
theorem sc_Registry_allow : FnScope ["self", "brand"] ["self", "brand"] (defScope s_Registry_allow) := ⟨rfl, rfl, rfl, by decide +kernel, rfl, by decide +kernel, by decide +kernel⟩
abbrev s_Registry_enter : Stmt := inClass (topS 36) 4
theorem sc_Registry_enter : FnScope ["self", "brand", "make", "reduce", "takes", "build"] ["self", "brand", "make", "reduce", "takes", "build"] (defScope s_Registry_enter) := ⟨rfl, rfl, rfl, by decide +kernel, rfl, by decide +kernel, by decide +kernel⟩
abbrev s_Registry_forget : Stmt := inClass (topS 36) 5
theorem sc_Registry_forget : FnScope ["self", "brand"] ["self", "brand"] (defScope s_Registry_forget) := ⟨rfl, rfl, rfl, by decide +kernel, rfl, by decide +kernel, by decide +kernel⟩
abbrev s_Registry_takes_of : Stmt := inClass (topS 36) 6
theorem sc_Registry_takes_of : FnScope ["self", "brand"] ["self", "brand"] (defScope s_Registry_takes_of) := ⟨rfl, rfl, rfl, by decide +kernel, rfl, by decide +kernel, by decide +kernel⟩
abbrev s_Registry_brands : Stmt := inClass (topS 36) 7
theorem sc_Registry_brands : FnScope ["self"] ["self"] (defScope s_Registry_brands) := ⟨rfl, rfl, rfl, by decide +kernel, rfl, by decide +kernel, by decide +kernel⟩
abbrev s_Registry___contains__ : Stmt := inClass (topS 36) 8
theorem sc_Registry___contains__ : FnScope ["self", "brand"] ["self", "brand"] (defScope s_Registry___contains__) := ⟨rfl, rfl, rfl, by decide +kernel, rfl, by decide +kernel, by decide +kernel⟩
abbrev s_Registry___len__ : Stmt := inClass (topS 36) 9
theorem sc_Registry___len__ : FnScope ["self"] ["self"] (defScope s_Registry___len__) := ⟨rfl, rfl, rfl, by decide +kernel, rfl, by decide +kernel, by decide +kernel⟩
abbrev s_Registry_twin : Stmt := inClass (topS 36) 10
theorem sc_Registry_twin : FnScope ["self", "other"] ["self"] (defScope s_Registry_twin) := ⟨rfl, rfl, rfl, by decide +kernel, rfl, by decide +kernel, by decide +kernel⟩
abbrev s_check_labels : Stmt := topS 38
theorem sc_check_labels : FnScope ["labels", "known", "label"] ["labels"] (defScope s_check_labels) := ⟨rfl, rfl, rfl, by decide +kernel, rfl, by decide +kernel, by decide +kernel⟩
abbrev s_Fields___init__ : Stmt := inClass (topS 39) 0
theorem sc_Fields___init__ : FnScope ["self", "brand", "labels"] ["self", "brand", "labels"] (defScope s_Fields___init__) := ⟨rfl, rfl, rfl, by decide +kernel, rfl, by decide +kernel, by decide +kernel⟩
abbrev s__law_begin : Stmt := topS 43
theorem sc__law_begin : FnScope ["script"] ["script"] (defScope s__law_begin) := ⟨rfl, rfl, rfl, by decide +kernel, rfl, by decide +kernel, by decide +kernel⟩
abbrev s__law_mixed : Stmt := topS 44
theorem sc__law_mixed : FnScope ["cell", "k", "mixed"] ["cell", "k"] (defScope s__law_mixed) := ⟨rfl, rfl, rfl, by decide +kernel, rfl, by decide +kernel, by decide +kernel⟩
abbrev s__law_next : Stmt := topS 45
theorem sc__law_next : FnScope ["draw", "bound", "found", "cells", "cell"] ["draw", "bound"] (defScope s__law_next) := ⟨rfl, rfl, rfl, by decide +kernel, rfl, by decide +kernel, by decide +kernel⟩
abbrev s__law_brand : Stmt := topS 46
theorem sc__law_brand : FnScope ["draw", "some"] ["draw"] (defScope s__law_brand) := ⟨rfl, rfl, rfl, by decide +kernel, rfl, by decide +kernel, by decide +kernel⟩
abbrev s__law_caught : Stmt := topS 47
theorem sc__law_caught : FnScope ["call", "caught", "found", "e"] ["call"] (defScope s__law_caught) := ⟨rfl, rfl, rfl, by decide +kernel, rfl, by decide +kernel, by decide +kernel⟩
abbrev s__law_entered : Stmt := topS 48
theorem sc__law_entered : FnScope ["book", "word", "many", "is_named", "make_here", "build_here"] ["book", "word", "many", "is_named"] (defScope s__law_entered) := ⟨rfl, rfl, rfl, by decide +kernel, rfl, by decide +kernel, by decide +kernel⟩
abbrev s__law_call_right : Stmt := topS 49
theorem sc__law_call_right : FnScope ["draw", "book", "known", "word", "way", "many", "due", "told"] ["draw", "book", "known"] (defScope s__law_call_right) := ⟨rfl, rfl, rfl, by decide +kernel, rfl, by decide +kernel, by decide +kernel⟩
abbrev s__law_read_right : Stmt := topS 50
theorem sc__law_read_right : FnScope ["draw", "book", "known", "word", "due", "told", "odd"] ["draw", "book", "known"] (defScope s__law_read_right) := ⟨rfl, rfl, rfl, by decide +kernel, rfl, by decide +kernel, by decide +kernel⟩
abbrev s__law_started : Stmt := topS 51
theorem sc__law_started : FnScope ["draw", "words", "many", "known", "word", "books"] ["draw"] (defScope s__law_started) := ⟨rfl, rfl, rfl, by decide +kernel, rfl, by decide +kernel, by decide +kernel⟩
abbrev s_law : Stmt := topS 52
theorem sc_law : FnScope ["script", "draw", "turn", "book", "known", "again", "other", "other_known"] ["script"] (defScope s_law) := ⟨rfl, rfl, rfl, by decide +kernel, rfl, by decide +kernel, by decide +kernel⟩
structure Adr where
  is_integer : Addr
  is_text : Addr
  is_brand : Addr
  Registry___init__ : Addr
  Registry_check_new : Addr
  Registry_check_known : Addr
  Registry_allow : Addr
  Registry_enter : Addr
  Registry_forget : Addr
  Registry_takes_of : Addr
  Registry_brands : Addr
  Registry___contains__ : Addr
  Registry___len__ : Addr
  Registry_twin : Addr
  check_labels : Addr
  Fields___init__ : Addr
  _law_begin : Addr
  _law_mixed : Addr
  _law_next : Addr
  _law_brand : Addr
  _law_caught : Addr
  _law_entered : Addr
  _law_call_right : Addr
  _law_read_right : Addr
  _law_started : Addr
  law : Addr
  JarError : Addr
  InvalidKey : Addr
  InvalidBrand : Addr
  InvalidTakes : Addr
  StateError : Addr
  BrandTaken : Addr
  MissingError : Addr
  UnknownBrand : Addr
  Registry : Addr
  Fields : Addr
  Whole : Addr
  Refill : Addr
  InvalidKey_i : Addr
  InvalidKey_c : Addr
  InvalidKey_d : Addr
  InvalidBrand_i : Addr
  InvalidBrand_c : Addr
  InvalidBrand_d : Addr
  InvalidTakes_i : Addr
  InvalidTakes_c : Addr
  InvalidTakes_d : Addr
  BrandTaken_i : Addr
  BrandTaken_c : Addr
  BrandTaken_d : Addr
  UnknownBrand_i : Addr
  UnknownBrand_c : Addr
  UnknownBrand_d : Addr
  Registry_brands_p : Addr
  NO_RULES : Addr
  lcode_law_call_right : Addr
  tab_law_call_right : Addr
  lcode_law_read_right : Addr
  tab_law_read_right : Addr
structure Txt (P : Program) (K : PySem.W.Frag) (mg : Str → Option Value) (a : Adr) : Prop where
  b_all : mg "all" = none
  b_bool : mg "bool" = none
  b_dict : mg "dict" = none
  b_int : mg "int" = none
  b_isinstance : mg "isinstance" = none
  b_len : mg "len" = none
  b_min : mg "min" = none
  b_property : mg "property" = none
  b_range : mg "range" = none
  b_repr : mg "repr" = none
  b_sorted : mg "sorted" = none
  b_str : mg "str" = none
  b_tuple : mg "tuple" = none
  b_super : mg "super" = none
  c_MOST_INTEGER : ∃ t, mg "MOST_INTEGER" = some (.int (1000000000000000000000000000000000000000000000000000000000000000000000000000000000000000000000000000000000000000000000000000000000000000000000000000000000000000000000000000000000000000000000000000000000000000000000000000000000000000000000000000000000000000000000000000000000000000000000000000000000000) t)
  c_MOST_CHARACTERS : ∃ t, mg "MOST_CHARACTERS" = some (.int (2000) t)
  c_MOST_BRAND : ∃ t, mg "MOST_BRAND" = some (.int (40) t)
  c_BAG : ∃ t, mg "BAG" = some (.str "bag" t)
  c_LETTERS : ∃ t, mg "LETTERS" = some (.str "abcdefghijklmnopqrstuvwxyzABCDEFGHIJKLMNOPQRSTUVWXYZ" t)
  c_OTHERS : ∃ t, mg "OTHERS" = some (.str "._0123456789" t)
  c_MOST_TAKEN : ∃ t, mg "MOST_TAKEN" = some (.int (20) t)
  g_NO_RULES : mg "NO_RULES" = some (.ref a.NO_RULES)
  g_is_integer : mg "is_integer" = some (.ref a.is_integer)
  k_is_integer : PySem.W.keepIn K (.ref a.is_integer) = true
  d_is_integer : DefAt K "is_integer" "is_integer" s_is_integer a.is_integer ["thing"]
  g_is_text : mg "is_text" = some (.ref a.is_text)
  k_is_text : PySem.W.keepIn K (.ref a.is_text) = true
  d_is_text : DefAt K "is_text" "is_text" s_is_text a.is_text ["thing"]
  g_is_brand : mg "is_brand" = some (.ref a.is_brand)
  k_is_brand : PySem.W.keepIn K (.ref a.is_brand) = true
  d_is_brand : DefAt K "is_brand" "is_brand" s_is_brand a.is_brand ["thing"]
  k_Registry___init__ : PySem.W.keepIn K (.ref a.Registry___init__) = true
  d_Registry___init__ : DefS K "__init__" "Registry.__init__" s_Registry___init__ a.Registry___init__ ["self"] "brands"
  k_Registry_check_new : PySem.W.keepIn K (.ref a.Registry_check_new) = true
  d_Registry_check_new : DefAt K "check_new" "Registry.check_new" s_Registry_check_new a.Registry_check_new ["self", "brand"]
  k_Registry_check_known : PySem.W.keepIn K (.ref a.Registry_check_known) = true
  d_Registry_check_known : DefAt K "check_known" "Registry.check_known" s_Registry_check_known a.Registry_check_known ["self", "brand"]
  k_Registry_allow : PySem.W.keepIn K (.ref a.Registry_allow) = true
  d_Registry_allow : DefAt K "allow" "Registry.allow" s_Registry_allow a.Registry_allow ["self", "brand"]
  k_Registry_enter : PySem.W.keepIn K (.ref a.Registry_enter) = true
  d_Registry_enter : DefEnt K s_Registry_enter a.Registry_enter
  k_Registry_forget : PySem.W.keepIn K (.ref a.Registry_forget) = true
  d_Registry_forget : DefAt K "forget" "Registry.forget" s_Registry_forget a.Registry_forget ["self", "brand"]
  k_Registry_takes_of : PySem.W.keepIn K (.ref a.Registry_takes_of) = true
  d_Registry_takes_of : DefAt K "takes_of" "Registry.takes_of" s_Registry_takes_of a.Registry_takes_of ["self", "brand"]
  k_Registry_brands : PySem.W.keepIn K (.ref a.Registry_brands) = true
  d_Registry_brands : DefAt K "brands" "Registry.brands" s_Registry_brands a.Registry_brands ["self"]
  k_Registry___contains__ : PySem.W.keepIn K (.ref a.Registry___contains__) = true
  d_Registry___contains__ : DefAt K "__contains__" "Registry.__contains__" s_Registry___contains__ a.Registry___contains__ ["self", "brand"]
  k_Registry___len__ : PySem.W.keepIn K (.ref a.Registry___len__) = true
  d_Registry___len__ : DefAt K "__len__" "Registry.__len__" s_Registry___len__ a.Registry___len__ ["self"]
  k_Registry_twin : PySem.W.keepIn K (.ref a.Registry_twin) = true
  d_Registry_twin : DefAt K "twin" "Registry.twin" s_Registry_twin a.Registry_twin ["self"]
  g_check_labels : mg "check_labels" = some (.ref a.check_labels)
  k_check_labels : PySem.W.keepIn K (.ref a.check_labels) = true
  d_check_labels : DefAt K "check_labels" "check_labels" s_check_labels a.check_labels ["labels"]
  k_Fields___init__ : PySem.W.keepIn K (.ref a.Fields___init__) = true
  d_Fields___init__ : DefS K "__init__" "Fields.__init__" s_Fields___init__ a.Fields___init__ ["self", "brand"] "labels"
  g__law_begin : mg "_law_begin" = some (.ref a._law_begin)
  k__law_begin : PySem.W.keepIn K (.ref a._law_begin) = true
  d__law_begin : DefAt K "_law_begin" "_law_begin" s__law_begin a._law_begin ["script"]
  g__law_mixed : mg "_law_mixed" = some (.ref a._law_mixed)
  k__law_mixed : PySem.W.keepIn K (.ref a._law_mixed) = true
  d__law_mixed : DefAt K "_law_mixed" "_law_mixed" s__law_mixed a._law_mixed ["cell", "k"]
  g__law_next : mg "_law_next" = some (.ref a._law_next)
  k__law_next : PySem.W.keepIn K (.ref a._law_next) = true
  d__law_next : DefAt K "_law_next" "_law_next" s__law_next a._law_next ["draw", "bound"]
  g__law_brand : mg "_law_brand" = some (.ref a._law_brand)
  k__law_brand : PySem.W.keepIn K (.ref a._law_brand) = true
  d__law_brand : DefAt K "_law_brand" "_law_brand" s__law_brand a._law_brand ["draw"]
  g__law_caught : mg "_law_caught" = some (.ref a._law_caught)
  k__law_caught : PySem.W.keepIn K (.ref a._law_caught) = true
  d__law_caught : DefAt K "_law_caught" "_law_caught" s__law_caught a._law_caught ["call"]
  g__law_entered : mg "_law_entered" = some (.ref a._law_entered)
  k__law_entered : PySem.W.keepIn K (.ref a._law_entered) = true
  d__law_entered : DefAt K "_law_entered" "_law_entered" s__law_entered a._law_entered ["book", "word", "many", "is_named"]
  g__law_call_right : mg "_law_call_right" = some (.ref a._law_call_right)
  k__law_call_right : PySem.W.keepIn K (.ref a._law_call_right) = true
  dc__law_call_right : DefAtC K "_law_call_right" "_law_call_right" s__law_call_right a._law_call_right a.lcode_law_call_right ["draw", "book", "known"]
  g__law_read_right : mg "_law_read_right" = some (.ref a._law_read_right)
  k__law_read_right : PySem.W.keepIn K (.ref a._law_read_right) = true
  dc__law_read_right : DefAtC K "_law_read_right" "_law_read_right" s__law_read_right a._law_read_right a.lcode_law_read_right ["draw", "book", "known"]
  g__law_started : mg "_law_started" = some (.ref a._law_started)
  k__law_started : PySem.W.keepIn K (.ref a._law_started) = true
  d__law_started : DefAt K "_law_started" "_law_started" s__law_started a._law_started ["draw"]
  g_law : mg "law" = some (.ref a.law)
  k_law : PySem.W.keepIn K (.ref a.law) = true
  d_law : DefAt K "law" "law" s_law a.law ["script"]
  g_JarError : mg "JarError" = some (.ref a.JarError)
  x_JarError : PySem.W.subIn K (.ref a.JarError) (.type "BaseException") = some true
  t_JarError : PySem.W.typeIn K (.ref a.JarError) = some (.type "type")
  h_JarError : PySem.W.hasDictIn K a.JarError = true
  g_InvalidKey : mg "InvalidKey" = some (.ref a.InvalidKey)
  x_InvalidKey : PySem.W.subIn K (.ref a.InvalidKey) (.type "BaseException") = some true
  t_InvalidKey : PySem.W.typeIn K (.ref a.InvalidKey) = some (.type "type")
  h_InvalidKey : PySem.W.hasDictIn K a.InvalidKey = true
  e_InvalidKey : ErrK P K mg a.InvalidKey a.InvalidKey_i a.InvalidKey_c a.InvalidKey_d "ValueError" "ValueError.__init__" "ValueError.__new__" [.type "ValueError", .type "Exception", .type "BaseException", .type "object"] "InvalidKey" ["key"]
  i_InvalidKey : IniK K a.InvalidKey_i a.InvalidKey_c a.InvalidKey_d "InvalidKey.__init__" "invalid key" ["key"]
  k_InvalidKey : PySem.W.keepIn K (.ref a.InvalidKey) = true
  R_InvalidKey : ErrR K a.InvalidKey
  n_InvalidKey_key : PySem.W.findIn K (.ref a.InvalidKey) "key" = some none
  g_InvalidBrand : mg "InvalidBrand" = some (.ref a.InvalidBrand)
  x_InvalidBrand : PySem.W.subIn K (.ref a.InvalidBrand) (.type "BaseException") = some true
  t_InvalidBrand : PySem.W.typeIn K (.ref a.InvalidBrand) = some (.type "type")
  h_InvalidBrand : PySem.W.hasDictIn K a.InvalidBrand = true
  e_InvalidBrand : ErrK P K mg a.InvalidBrand a.InvalidBrand_i a.InvalidBrand_c a.InvalidBrand_d "ValueError" "ValueError.__init__" "ValueError.__new__" [.type "ValueError", .type "Exception", .type "BaseException", .type "object"] "InvalidBrand" ["given"]
  i_InvalidBrand : IniK K a.InvalidBrand_i a.InvalidBrand_c a.InvalidBrand_d "InvalidBrand.__init__" "invalid brand" ["given"]
  k_InvalidBrand : PySem.W.keepIn K (.ref a.InvalidBrand) = true
  R_InvalidBrand : ErrR K a.InvalidBrand
  n_InvalidBrand_given : PySem.W.findIn K (.ref a.InvalidBrand) "given" = some none
  g_InvalidTakes : mg "InvalidTakes" = some (.ref a.InvalidTakes)
  x_InvalidTakes : PySem.W.subIn K (.ref a.InvalidTakes) (.type "BaseException") = some true
  t_InvalidTakes : PySem.W.typeIn K (.ref a.InvalidTakes) = some (.type "type")
  h_InvalidTakes : PySem.W.hasDictIn K a.InvalidTakes = true
  e_InvalidTakes : ErrK P K mg a.InvalidTakes a.InvalidTakes_i a.InvalidTakes_c a.InvalidTakes_d "ValueError" "ValueError.__init__" "ValueError.__new__" [.type "ValueError", .type "Exception", .type "BaseException", .type "object"] "InvalidTakes" ["value"]
  i_InvalidTakes : IniK K a.InvalidTakes_i a.InvalidTakes_c a.InvalidTakes_d "InvalidTakes.__init__" "invalid number of arguments" ["value"]
  k_InvalidTakes : PySem.W.keepIn K (.ref a.InvalidTakes) = true
  R_InvalidTakes : ErrR K a.InvalidTakes
  n_InvalidTakes_value : PySem.W.findIn K (.ref a.InvalidTakes) "value" = some none
  g_StateError : mg "StateError" = some (.ref a.StateError)
  x_StateError : PySem.W.subIn K (.ref a.StateError) (.type "BaseException") = some true
  t_StateError : PySem.W.typeIn K (.ref a.StateError) = some (.type "type")
  h_StateError : PySem.W.hasDictIn K a.StateError = true
  g_BrandTaken : mg "BrandTaken" = some (.ref a.BrandTaken)
  x_BrandTaken : PySem.W.subIn K (.ref a.BrandTaken) (.type "BaseException") = some true
  t_BrandTaken : PySem.W.typeIn K (.ref a.BrandTaken) = some (.type "type")
  h_BrandTaken : PySem.W.hasDictIn K a.BrandTaken = true
  e_BrandTaken : ErrK P K mg a.BrandTaken a.BrandTaken_i a.BrandTaken_c a.BrandTaken_d "RuntimeError" "RuntimeError.__init__" "RuntimeError.__new__" [.type "RuntimeError", .type "Exception", .type "BaseException", .type "object"] "BrandTaken" ["given"]
  i_BrandTaken : IniK K a.BrandTaken_i a.BrandTaken_c a.BrandTaken_d "BrandTaken.__init__" "the brand is known already" ["given"]
  k_BrandTaken : PySem.W.keepIn K (.ref a.BrandTaken) = true
  R_BrandTaken : ErrR K a.BrandTaken
  n_BrandTaken_given : PySem.W.findIn K (.ref a.BrandTaken) "given" = some none
  g_MissingError : mg "MissingError" = some (.ref a.MissingError)
  x_MissingError : PySem.W.subIn K (.ref a.MissingError) (.type "BaseException") = some true
  t_MissingError : PySem.W.typeIn K (.ref a.MissingError) = some (.type "type")
  h_MissingError : PySem.W.hasDictIn K a.MissingError = true
  g_UnknownBrand : mg "UnknownBrand" = some (.ref a.UnknownBrand)
  x_UnknownBrand : PySem.W.subIn K (.ref a.UnknownBrand) (.type "BaseException") = some true
  t_UnknownBrand : PySem.W.typeIn K (.ref a.UnknownBrand) = some (.type "type")
  h_UnknownBrand : PySem.W.hasDictIn K a.UnknownBrand = true
  e_UnknownBrand : ErrK P K mg a.UnknownBrand a.UnknownBrand_i a.UnknownBrand_c a.UnknownBrand_d "LookupError" "LookupError.__init__" "LookupError.__new__" [.type "LookupError", .type "Exception", .type "BaseException", .type "object"] "UnknownBrand" ["given"]
  i_UnknownBrand : IniK K a.UnknownBrand_i a.UnknownBrand_c a.UnknownBrand_d "UnknownBrand.__init__" "unknown brand" ["given"]
  k_UnknownBrand : PySem.W.keepIn K (.ref a.UnknownBrand) = true
  R_UnknownBrand : ErrR K a.UnknownBrand
  n_UnknownBrand_given : PySem.W.findIn K (.ref a.UnknownBrand) "given" = some none
  g_Registry : mg "Registry" = some (.ref a.Registry)
  c_Registry : Cls K a.Registry
  k_Registry : PySem.W.keepIn K (.ref a.Registry) = true
  e_Registry : IdEq K a.Registry
  t_Registry : PySem.W.typeIn K (.ref a.Registry) = some (.type "type")
  m_Registry : Mk K a.Registry a.Registry___init__
  p_Registry_check_new : Meth K a.Registry "check_new" a.Registry_check_new
  p_Registry_check_known : Meth K a.Registry "check_known" a.Registry_check_known
  p_Registry_allow : Meth K a.Registry "allow" a.Registry_allow
  p_Registry_enter : Meth K a.Registry "enter" a.Registry_enter
  p_Registry_forget : Meth K a.Registry "forget" a.Registry_forget
  p_Registry_takes_of : Meth K a.Registry "takes_of" a.Registry_takes_of
  p_Registry_brands : PropOf K a.Registry "brands" a.Registry_brands_p a.Registry_brands
  p_Registry___contains__ : Meth K a.Registry "__contains__" a.Registry___contains__
  p_Registry___len__ : Meth K a.Registry "__len__" a.Registry___len__
  p_Registry_twin : Meth K a.Registry "twin" a.Registry_twin
  n_Registry_rules : NoAttr K a.Registry "rules"
  g_Fields : mg "Fields" = some (.ref a.Fields)
  c_Fields : Cls K a.Fields
  k_Fields : PySem.W.keepIn K (.ref a.Fields) = true
  e_Fields : IdEq K a.Fields
  t_Fields : PySem.W.typeIn K (.ref a.Fields) = some (.type "type")
  m_Fields : Mk K a.Fields a.Fields___init__
  n_Fields_new_brand : NoAttr K a.Fields "new_brand"
  n_Fields_label_row : NoAttr K a.Fields "label_row"
  g_Whole : mg "Whole" = some (.ref a.Whole)
  c_Whole : Cls K a.Whole
  k_Whole : PySem.W.keepIn K (.ref a.Whole) = true
  e_Whole : IdEq K a.Whole
  t_Whole : PySem.W.typeIn K (.ref a.Whole) = some (.type "type")
  g_Refill : mg "Refill" = some (.ref a.Refill)
  c_Refill : Cls K a.Refill
  k_Refill : PySem.W.keepIn K (.ref a.Refill) = true
  e_Refill : IdEq K a.Refill
  t_Refill : PySem.W.typeIn K (.ref a.Refill) = some (.type "type")
  u_InvalidKey_JarError : PySem.W.kitOne K (.ref a.InvalidKey) (.ref a.JarError) = some true
  v_InvalidKey_JarError : PySem.W.exmOne K (.ref a.InvalidKey) (.ref a.JarError) = some true
  u_InvalidKey_StateError : PySem.W.kitOne K (.ref a.InvalidKey) (.ref a.StateError) = some false
  v_InvalidKey_StateError : PySem.W.exmOne K (.ref a.InvalidKey) (.ref a.StateError) = some false
  u_InvalidKey_MissingError : PySem.W.kitOne K (.ref a.InvalidKey) (.ref a.MissingError) = some false
  v_InvalidKey_MissingError : PySem.W.exmOne K (.ref a.InvalidKey) (.ref a.MissingError) = some false
  u_InvalidBrand_JarError : PySem.W.kitOne K (.ref a.InvalidBrand) (.ref a.JarError) = some true
  v_InvalidBrand_JarError : PySem.W.exmOne K (.ref a.InvalidBrand) (.ref a.JarError) = some true
  u_InvalidBrand_StateError : PySem.W.kitOne K (.ref a.InvalidBrand) (.ref a.StateError) = some false
  v_InvalidBrand_StateError : PySem.W.exmOne K (.ref a.InvalidBrand) (.ref a.StateError) = some false
  u_InvalidBrand_MissingError : PySem.W.kitOne K (.ref a.InvalidBrand) (.ref a.MissingError) = some false
  v_InvalidBrand_MissingError : PySem.W.exmOne K (.ref a.InvalidBrand) (.ref a.MissingError) = some false
  u_InvalidTakes_JarError : PySem.W.kitOne K (.ref a.InvalidTakes) (.ref a.JarError) = some true
  v_InvalidTakes_JarError : PySem.W.exmOne K (.ref a.InvalidTakes) (.ref a.JarError) = some true
  u_InvalidTakes_StateError : PySem.W.kitOne K (.ref a.InvalidTakes) (.ref a.StateError) = some false
  v_InvalidTakes_StateError : PySem.W.exmOne K (.ref a.InvalidTakes) (.ref a.StateError) = some false
  u_InvalidTakes_MissingError : PySem.W.kitOne K (.ref a.InvalidTakes) (.ref a.MissingError) = some false
  v_InvalidTakes_MissingError : PySem.W.exmOne K (.ref a.InvalidTakes) (.ref a.MissingError) = some false
  u_BrandTaken_JarError : PySem.W.kitOne K (.ref a.BrandTaken) (.ref a.JarError) = some false
  v_BrandTaken_JarError : PySem.W.exmOne K (.ref a.BrandTaken) (.ref a.JarError) = some false
  u_BrandTaken_StateError : PySem.W.kitOne K (.ref a.BrandTaken) (.ref a.StateError) = some true
  v_BrandTaken_StateError : PySem.W.exmOne K (.ref a.BrandTaken) (.ref a.StateError) = some true
  u_BrandTaken_MissingError : PySem.W.kitOne K (.ref a.BrandTaken) (.ref a.MissingError) = some false
  v_BrandTaken_MissingError : PySem.W.exmOne K (.ref a.BrandTaken) (.ref a.MissingError) = some false
  u_UnknownBrand_JarError : PySem.W.kitOne K (.ref a.UnknownBrand) (.ref a.JarError) = some false
  v_UnknownBrand_JarError : PySem.W.exmOne K (.ref a.UnknownBrand) (.ref a.JarError) = some false
  u_UnknownBrand_StateError : PySem.W.kitOne K (.ref a.UnknownBrand) (.ref a.StateError) = some false
  v_UnknownBrand_StateError : PySem.W.exmOne K (.ref a.UnknownBrand) (.ref a.StateError) = some false
  u_UnknownBrand_MissingError : PySem.W.kitOne K (.ref a.UnknownBrand) (.ref a.MissingError) = some true
  v_UnknownBrand_MissingError : PySem.W.exmOne K (.ref a.UnknownBrand) (.ref a.MissingError) = some true
  u_InvalidKey_InvalidKey : PySem.W.kitOne K (.ref a.InvalidKey) (.ref a.InvalidKey) = some true
  v_InvalidKey_InvalidKey : PySem.W.exmOne K (.ref a.InvalidKey) (.ref a.InvalidKey) = some true
  u_InvalidKey_InvalidBrand : PySem.W.kitOne K (.ref a.InvalidKey) (.ref a.InvalidBrand) = some false
  v_InvalidKey_InvalidBrand : PySem.W.exmOne K (.ref a.InvalidKey) (.ref a.InvalidBrand) = some false
  u_InvalidKey_InvalidTakes : PySem.W.kitOne K (.ref a.InvalidKey) (.ref a.InvalidTakes) = some false
  v_InvalidKey_InvalidTakes : PySem.W.exmOne K (.ref a.InvalidKey) (.ref a.InvalidTakes) = some false
  u_InvalidKey_BrandTaken : PySem.W.kitOne K (.ref a.InvalidKey) (.ref a.BrandTaken) = some false
  v_InvalidKey_BrandTaken : PySem.W.exmOne K (.ref a.InvalidKey) (.ref a.BrandTaken) = some false
  u_InvalidKey_UnknownBrand : PySem.W.kitOne K (.ref a.InvalidKey) (.ref a.UnknownBrand) = some false
  v_InvalidKey_UnknownBrand : PySem.W.exmOne K (.ref a.InvalidKey) (.ref a.UnknownBrand) = some false
  u_InvalidBrand_InvalidKey : PySem.W.kitOne K (.ref a.InvalidBrand) (.ref a.InvalidKey) = some false
  v_InvalidBrand_InvalidKey : PySem.W.exmOne K (.ref a.InvalidBrand) (.ref a.InvalidKey) = some false
  u_InvalidBrand_InvalidBrand : PySem.W.kitOne K (.ref a.InvalidBrand) (.ref a.InvalidBrand) = some true
  v_InvalidBrand_InvalidBrand : PySem.W.exmOne K (.ref a.InvalidBrand) (.ref a.InvalidBrand) = some true
  u_InvalidBrand_InvalidTakes : PySem.W.kitOne K (.ref a.InvalidBrand) (.ref a.InvalidTakes) = some false
  v_InvalidBrand_InvalidTakes : PySem.W.exmOne K (.ref a.InvalidBrand) (.ref a.InvalidTakes) = some false
  u_InvalidBrand_BrandTaken : PySem.W.kitOne K (.ref a.InvalidBrand) (.ref a.BrandTaken) = some false
  v_InvalidBrand_BrandTaken : PySem.W.exmOne K (.ref a.InvalidBrand) (.ref a.BrandTaken) = some false
  u_InvalidBrand_UnknownBrand : PySem.W.kitOne K (.ref a.InvalidBrand) (.ref a.UnknownBrand) = some false
  v_InvalidBrand_UnknownBrand : PySem.W.exmOne K (.ref a.InvalidBrand) (.ref a.UnknownBrand) = some false
  u_InvalidTakes_InvalidKey : PySem.W.kitOne K (.ref a.InvalidTakes) (.ref a.InvalidKey) = some false
  v_InvalidTakes_InvalidKey : PySem.W.exmOne K (.ref a.InvalidTakes) (.ref a.InvalidKey) = some false
  u_InvalidTakes_InvalidBrand : PySem.W.kitOne K (.ref a.InvalidTakes) (.ref a.InvalidBrand) = some false
  v_InvalidTakes_InvalidBrand : PySem.W.exmOne K (.ref a.InvalidTakes) (.ref a.InvalidBrand) = some false
  u_InvalidTakes_InvalidTakes : PySem.W.kitOne K (.ref a.InvalidTakes) (.ref a.InvalidTakes) = some true
  v_InvalidTakes_InvalidTakes : PySem.W.exmOne K (.ref a.InvalidTakes) (.ref a.InvalidTakes) = some true
  u_InvalidTakes_BrandTaken : PySem.W.kitOne K (.ref a.InvalidTakes) (.ref a.BrandTaken) = some false
  v_InvalidTakes_BrandTaken : PySem.W.exmOne K (.ref a.InvalidTakes) (.ref a.BrandTaken) = some false
  u_InvalidTakes_UnknownBrand : PySem.W.kitOne K (.ref a.InvalidTakes) (.ref a.UnknownBrand) = some false
  v_InvalidTakes_UnknownBrand : PySem.W.exmOne K (.ref a.InvalidTakes) (.ref a.UnknownBrand) = some false
  u_BrandTaken_InvalidKey : PySem.W.kitOne K (.ref a.BrandTaken) (.ref a.InvalidKey) = some false
  v_BrandTaken_InvalidKey : PySem.W.exmOne K (.ref a.BrandTaken) (.ref a.InvalidKey) = some false
  u_BrandTaken_InvalidBrand : PySem.W.kitOne K (.ref a.BrandTaken) (.ref a.InvalidBrand) = some false
  v_BrandTaken_InvalidBrand : PySem.W.exmOne K (.ref a.BrandTaken) (.ref a.InvalidBrand) = some false
  u_BrandTaken_InvalidTakes : PySem.W.kitOne K (.ref a.BrandTaken) (.ref a.InvalidTakes) = some false
  v_BrandTaken_InvalidTakes : PySem.W.exmOne K (.ref a.BrandTaken) (.ref a.InvalidTakes) = some false
  u_BrandTaken_BrandTaken : PySem.W.kitOne K (.ref a.BrandTaken) (.ref a.BrandTaken) = some true
  v_BrandTaken_BrandTaken : PySem.W.exmOne K (.ref a.BrandTaken) (.ref a.BrandTaken) = some true
  u_BrandTaken_UnknownBrand : PySem.W.kitOne K (.ref a.BrandTaken) (.ref a.UnknownBrand) = some false
  v_BrandTaken_UnknownBrand : PySem.W.exmOne K (.ref a.BrandTaken) (.ref a.UnknownBrand) = some false
  u_UnknownBrand_InvalidKey : PySem.W.kitOne K (.ref a.UnknownBrand) (.ref a.InvalidKey) = some false
  v_UnknownBrand_InvalidKey : PySem.W.exmOne K (.ref a.UnknownBrand) (.ref a.InvalidKey) = some false
  u_UnknownBrand_InvalidBrand : PySem.W.kitOne K (.ref a.UnknownBrand) (.ref a.InvalidBrand) = some false
  v_UnknownBrand_InvalidBrand : PySem.W.exmOne K (.ref a.UnknownBrand) (.ref a.InvalidBrand) = some false
  u_UnknownBrand_InvalidTakes : PySem.W.kitOne K (.ref a.UnknownBrand) (.ref a.InvalidTakes) = some false
  v_UnknownBrand_InvalidTakes : PySem.W.exmOne K (.ref a.UnknownBrand) (.ref a.InvalidTakes) = some false
  u_UnknownBrand_BrandTaken : PySem.W.kitOne K (.ref a.UnknownBrand) (.ref a.BrandTaken) = some false
  v_UnknownBrand_BrandTaken : PySem.W.exmOne K (.ref a.UnknownBrand) (.ref a.BrandTaken) = some false
  u_UnknownBrand_UnknownBrand : PySem.W.kitOne K (.ref a.UnknownBrand) (.ref a.UnknownBrand) = some true
  v_UnknownBrand_UnknownBrand : PySem.W.exmOne K (.ref a.UnknownBrand) (.ref a.UnknownBrand) = some true
  norules : rowN K a.NO_RULES = some [.non, .non, .int 0, .non]
  tabne : a.tab_law_call_right ≠ a.tab_law_read_right
  m0_Whole : PySem.W.makesIn K a.Whole = true
  i0_Whole : PySem.W.findIn K (.ref a.Whole) "__init__" = some (some (.builtin "object.__init__"))
  m0_Refill : PySem.W.makesIn K a.Refill = true
  i0_Refill : PySem.W.findIn K (.ref a.Refill) "__init__" = some (some (.builtin "object.__init__"))
end BJL

namespace BJL
open PySem PySem.Spec PyProof.Rows L2 BJ
section
variable {P : Program} {w : World} {K : PySem.W.Frag} {mg : Str → Option Value} {base : Heap} {a : Adr}
open Evl
def dInt : PyData → Bool | .int _ => true | .bool _ => true | _ => false
def dBool : PyData → Bool | .bool _ => true | _ => false
def dStr : PyData → Bool | .str _ => true | _ => false
def dTup : PyData → Bool | .tuple _ => true | _ => false
theorem kitD (d : PyData) : kitB (tyN d) "int" = some (dInt d) ∧ kitB (tyN d) "bool" = some (dBool d) ∧ kitB (tyN d) "str" = some (dStr d) ∧ kitB (tyN d) "tuple" = some (dTup d) := by
  cases d with
  | none => exact ⟨show kitB "NoneType" "int" = _ by decide +kernel, show kitB "NoneType" "bool" = _ by decide +kernel, show kitB "NoneType" "str" = _ by decide +kernel, show kitB "NoneType" "tuple" = _ by decide +kernel⟩
  | bool b => exact ⟨show kitB "bool" "int" = some true by decide +kernel, show kitB "bool" "bool" = some true by decide +kernel, show kitB "bool" "str" = some false by decide +kernel, show kitB "bool" "tuple" = some false by decide +kernel⟩
  | int i => exact ⟨show kitB "int" "int" = some true by decide +kernel, show kitB "int" "bool" = some false by decide +kernel, show kitB "int" "str" = some false by decide +kernel, show kitB "int" "tuple" = some false by decide +kernel⟩
  | str x => exact ⟨show kitB "str" "int" = some false by decide +kernel, show kitB "str" "bool" = some false by decide +kernel, show kitB "str" "str" = some true by decide +kernel, show kitB "str" "tuple" = some false by decide +kernel⟩
  | list xs => exact ⟨show kitB "list" "int" = some false by decide +kernel, show kitB "list" "bool" = some false by decide +kernel, show kitB "list" "str" = some false by decide +kernel, show kitB "list" "tuple" = some false by decide +kernel⟩
  | tuple xs => exact ⟨show kitB "tuple" "int" = some false by decide +kernel, show kitB "tuple" "bool" = some false by decide +kernel, show kitB "tuple" "str" = some false by decide +kernel, show kitB "tuple" "tuple" = some true by decide +kernel⟩
  | dict xs => exact ⟨show kitB "dict" "int" = some false by decide +kernel, show kitB "dict" "bool" = some false by decide +kernel, show kitB "dict" "str" = some false by decide +kernel, show kitB "dict" "tuple" = some false by decide +kernel⟩

def isI : V → Bool | .int _ => true | _ => false
def isS : V → Bool | .str _ => true | _ => false
def isB : V → Bool | .bl _ => true | _ => false
/-- texts are no longer than the model's line -/
def Fits (x : V) : Prop := ∀ z : Str, x = .str z → z.length ≤ sizeLine
def big : Int := 1000000000000000000000000000000000000000000000000000000000000000000000000000000000000000000000000000000000000000000000000000000000000000000000000000000000000000000000000000000000000000000000000000000000000000000000000000000000000000000000000000000000000000000000000000000000000000000000000000000000000
def keyI : V → Bool | .int i => decide (-big < i) && decide (i < big) | _ => false
def keyS : V → Bool | .str z => decide ((z.length : Int) ≤ 2000) | _ => false
def keyV (x : V) : Bool := keyS x || keyI x
def atomB (x : V) : Bool := decide (x = V.non) || (isB x || keyV x)
def octV : V → Bool | .int i => decide (0 ≤ i) && decide (i ≤ 255) | _ => false
theorem tyx_ex' {K : PySem.W.Frag} {H H' : Hp} (e : Ex H H') {x : V} {t : Value} (h : TyX K H x t) : TyX K H' x t := by
  cases h with
  | base b =>
    cases b with
    | non => exact .base .non
    | bl y => exact .base (.bl y)
    | int i => exact .base (.int i)
    | str y => exact .base (.str y)
    | flt y => exact .base (.flt y)
    | lst ea => exact .base (.lst (e _ _ ea))
    | frz ea => exact .base (.frz (e _ _ ea))
    | tup ea => exact .base (.tup (e _ _ ea))
    | dK ea => exact .base (.dK (e _ _ ea))
    | dT ea => exact .base (.dT (e _ _ ea))
    | ins ea cl ha hn htk hm => exact .base (.ins (e _ _ ea) cl ha hn htk hm)
  | byt b => exact .byt b
  | set ea => exact .set (e _ _ ea)
  | kList ea c => exact .kList ea c
  | kTuple ea c => exact .kTuple ea c
  | kDict ea c => exact .kDict ea c
  | fTuple ea => exact .fTuple (e _ _ ea)
  | fDict ea => exact .fDict (e _ _ ea)
/-- x's type is known -/
def Kn (K : PySem.W.Frag) (_a : Adr) (H : Hp) (x : V) (b : Bool) : Prop := ∃ t, TyX K H x t ∧ PySem.W.kitOne K t (.type "int") = some (isI x || isB x) ∧ PySem.W.kitOne K t (.type "bool") = some (isB x) ∧ PySem.W.kitOne K t (.type "str") = some (isS x) ∧ b = false
theorem Kn.ex {H H' : Hp} {x : V} {b : Bool} (h : Kn K a H x b) (e : Ex H H') : Kn K a H' x b := by
  obtain ⟨t, h1, h2⟩ := h
  exact ⟨t, tyx_ex' e h1, h2⟩
theorem kn_dz (_T : Txt P K mg a) {H : Hp} {x : V} {d : PyData} (h : Dz K H x d) : Kn K a H x false := by
  obtain ⟨k1, k2, k3, _⟩ := kitD d
  refine ⟨.type (tyN d), dz_ty h, ?_, ?_, ?_, rfl⟩
  · rw [show PySem.W.kitOne K (.type (tyN d)) (.type "int") = _ from kit_ty k1]; cases h <;> rfl
  · rw [show PySem.W.kitOne K (.type (tyN d)) (.type "bool") = _ from kit_ty k2]; cases h <;> rfl
  · rw [show PySem.W.kitOne K (.type (tyN d)) (.type "str") = _ from kit_ty k3]; cases h <;> rfl
def spIsI (K : PySem.W.Frag) (a : Adr) : Sp := fun vs H Q _ => ∃ x b, vs = [x] ∧ Kn K a H x b ∧ Q (.bl (isI x)) H
theorem ok_is_integer (T : Txt P K mg a) : CallO P w K mg base 1 (.ref a.is_integer) (spIsI K a) := by
  refine fnO (T.d_is_integer.okX sc_is_integer (fun vs H Q E h => ?_) (fun cdv A outer s H vs Q E hr h => ?_))
  · obtain ⟨x, b, rfl, _⟩ := h
    rfl
  · obtain ⟨x, b, rfl, ⟨t, ty, k1, k2, _⟩, hq⟩ := h
    refine ⟨_, (pss_one (ps_ret (pe_and (pe_callB (call_isG' (K := K) rfl) (by rfl) T.b_isinstance (by decide +kernel) (pa_cons (pv 0) (pa_cons (pe_bltn (v := .ty "int") (u := .type "int") (by rfl) T.b_int (by decide +kernel) (by exact rfl)) pa_nil))) (pe_one (pe_not (pe_callB (call_isG' (K := K) rfl) (by rfl) T.b_isinstance (by decide +kernel) (pa_cons (pv 0) (pa_cons (pe_bltn (v := .ty "bool") (u := .type "bool") (by rfl) T.b_bool (by decide +kernel) (by exact rfl)) pa_nil)))))))), ?_⟩
    refine ⟨_, rfl, x, _, t, _, _, rfl, .ty "int", .ty ty, k1, _, rfl, ?_⟩
    cases x <;> first | exact hq | exact ⟨_, rfl, _, _, t, _, _, rfl, .ty "bool", .ty ty, k2, _, rfl, hq⟩
/-- a judgement of what is known -/
def spBV (K : PySem.W.Frag) (a : Adr) (f : V → Bool → Bool) : Sp := fun vs H Q _ => ∃ x b, vs = [x] ∧ Kn K a H x b ∧ Fits x ∧ Q (.bl (f x b)) H
theorem ok_is_text (T : Txt P K mg a) : CallO P w K mg base 2 (.ref a.is_text) (spBV K a fun x _ => keyS x) := by
  refine fnO (T.d_is_text.okX sc_is_text (fun vs H Q E h => ?_) (fun cdv A outer s H vs Q E hr h => ?_))
  · obtain ⟨x, b, rfl, _⟩ := h
    rfl
  · obtain ⟨x, b, rfl, ⟨t, ty, _, _, k3, _⟩, hz, hq⟩ := h
    refine ⟨_, (pss_one (ps_ret (pe_and (pe_callB (call_isG' (K := K) rfl) (by rfl) T.b_isinstance (by decide +kernel) (pa_cons (pv 0) (pa_cons (pe_bltn (v := .ty "str") (u := .type "str") (by rfl) T.b_str (by decide +kernel) (by exact rfl)) pa_nil))) (pe_one (pe_cmpR op_le (pe_callB call_len_str (by rfl) T.b_len (by decide +kernel) (pa_cons (pv 0) pa_nil)) (pe_glob (v := .int (2000)) (by rfl) T.c_MOST_CHARACTERS.choose_spec ⟨_, rfl⟩) (nomark _)))))), ?_⟩
    refine ⟨_, rfl, x, _, t, _, isS x, rfl, .ty "str", .ty ty, k3, isS x, rfl, ?_⟩
    cases x with
    | str z => exact ⟨_, rfl, z, rfl, hz z rfl, _, _, rfl, rfl, hq⟩
    | _ => exact hq
/-- an error of the class C with one field -/
abbrev Bad (C : Addr) (f : Str) (x : V) (H : Hp) (E : XK) : Prop := ∀ d H', H d = none → Ex H H' → H' d = some (.xd [(f, x)]) → E (.ref C) (some d) H'
theorem Bad.back {C : Addr} {f : Str} {x : V} {H H' : Hp} {E : XK} (h : Bad C f x H E) (e : Ex H H') : Bad C f x H' E := fun d H2 hd he hx => h d H2 (fresh_back e hd) (e.trans he) hx
def spCheck (K : PySem.W.Frag) (a : Adr) (C : Addr) (f : Str) (ok : V → Bool → Bool) : Sp := fun vs H Q E => ∃ x b, vs = [x] ∧ Kn K a H x b ∧ Fits x ∧ ((ok x b = true ∧ Q .non H) ∨ (ok x b = false ∧ Bad C f x H E))

end
end BJL

namespace BJL
open PySem PySem.Spec PyProof.Rows L2 BJ
section
variable {P : Program} {w : World} {K : PySem.W.Frag} {mg : Str → Option Value} {base : Heap} {a : Adr}
open Evl
def LTRS : Str := "abcdefghijklmnopqrstuvwxyzABCDEFGHIJKLMNOPQRSTUVWXYZ"
def OTHS : Str := "._0123456789"
def sgnB (c : Nat) : Bool := decide (c ∈ LTRS.cps.toList) || decide (c ∈ OTHS.cps.toList)
def brandL (l : List Nat) : Bool := (decide (1 ≤ (l.length : Int)) && decide ((l.length : Int) ≤ 40)) && (decide (l.getD 0 0 ∈ LTRS.cps.toList) && l.all sgnB)
def brandV : V → Bool | .str z => brandL z.cps.toList | _ => false
def thingV : V → Bool | .str z => brandL z.cps.toList && !decide (V.str z = V.str "bag") | _ => false
def spBrand (K : PySem.W.Frag) (a : Adr) : Sp := fun vs H Q _ => ∃ x b, vs = [x] ∧ Kn K a H x b ∧ Fits x ∧ ∀ H', Ex H H' → Q (.bl (brandV x)) H'
theorem ok_is_brand (T : Txt P K mg a) : CallO P w K mg base 2 (.ref a.is_brand) (spBrand K a) := by
  refine fnO (T.d_is_brand.okX sc_is_brand (fun vs H Q E h => ?_) (fun cdv A outer s H vs Q E hr h => ?_))
  · obtain ⟨x, b, rfl, _⟩ := h
    rfl
  · obtain ⟨x, b, rfl, kn, hz, hq⟩ := h
    refine ⟨_, (pss_cons (ps_if (PW.pt (pw_or (pt_not (pt_val (pe_callB (call_isG' (K := K) rfl) (by rfl) T.b_isinstance (by decide +kernel) (pa_cons (pv 0) (pa_cons (pe_bltn (v := .ty "str") (u := .type "str") (by rfl) T.b_str (by decide +kernel) (by exact rfl)) pa_nil))))) (pw_or (pt_not (pt_chain op_le op_le pe_int (pe_callB call_len_str (by rfl) T.b_len (by decide +kernel) (pa_cons (pv 0) pa_nil)) (pe_glob (v := .int (40)) (by rfl) T.c_MOST_BRAND.choose_spec ⟨_, rfl⟩))) (pw_or1 (pt_cmpR op_notIn_sign (pe_ix ix_str (pv 0) pe_int (fun _ _ => rfl)) (pe_glob (v := .str "abcdefghijklmnopqrstuvwxyzABCDEFGHIJKLMNOPQRSTUVWXYZ") (by rfl) T.c_LETTERS.choose_spec ⟨_, rfl⟩) (by rfl))))))
 (pss_one (ps_ret pe_bl))
 pss_nil)
 (pss_one (ps_ret (pe_callB (cr_all rfl) (by rfl) T.b_all (by decide +kernel) (pa_cons (pe_lc (own := [("sign", 1)]) (g := (gName 1)) (by rfl) sc_is_brand.nd (pi_str (pv 0)) (blkOk_by (own := [("sign", 1)]) (N := ["thing", "sign"]) (sc := defScope s_is_brand) (by decide +kernel)) (fun _ _ _ _ _ => (pg_name (i := 1) sc_is_brand.nd rfl (Or.inl rfl))) (fun _ _ _ _ _ => pts_nil) (fun _ _ _ _ _ => (pe_or (pe_cmpR op_in_sign (pv 1) (pe_glob (v := .str "abcdefghijklmnopqrstuvwxyzABCDEFGHIJKLMNOPQRSTUVWXYZ") (by rfl) T.c_LETTERS.choose_spec ⟨_, rfl⟩) (by rfl)) (pe_one (pe_cmpR op_in_sign (pv 1) (pe_glob (v := .str "._0123456789") (by rfl) T.c_OTHERS.choose_spec ⟨_, rfl⟩) (by rfl)))))) pa_nil))))), ?_⟩
    obtain ⟨t, ty, _, _, k3, _⟩ := id kn
    have t1 : EvT (tNot (tB (tCB (rIsG K) (tCons (tVar 0) (tCons (tC (.ty "str")) tNil))))) (L2.start ["thing", "sign"] [x]) H (!isS x) :=
      et_not (et_B (ev_cb (ea_cons (ev_var rfl) (ea_cons ev_c ea_nil)) fun H1 e Q q => ⟨x, _, t, _, _, rfl, .ty "str", .ty (tyx_ex' e ty), k3, q H1 (Ex.refl _)⟩))
    cases x with
    | str z =>
      have hlen : z.length = z.cps.toList.length := strLen_tl z
      have lenE : Ev (tCB (fun xs H Q => ∃ z : Str, xs = [.str z] ∧ z.length ≤ sizeLine ∧ Q (.int z.length) H) (tCons (tVar 0) tNil)) (L2.start ["thing", "sign"] [.str z]) H (.int (z.cps.toList.length : Int)) :=
        ev_cb (ea_cons (ev_var rfl) ea_nil) fun H1 e Q q => ⟨z, rfl, hz z rfl, by rw [hlen]; exact q H1 (Ex.refl _)⟩
      have t2 := et_not (et_test (ev_chain (k := decide (1 ≤ (z.cps.toList.length : Int))) (v := .bl (decide (1 ≤ (z.cps.toList.length : Int)) && decide ((z.cps.toList.length : Int) ≤ 40))) (r := rI0 fun i j => V.bl (decide (i ≤ j))) (r' := rI0 fun i j => V.bl (decide (i ≤ j))) (ta := tC (.int 1)) (tc := tC (.int 40)) (z := .int 40) ev_c lenE rv_I0 (fun h => ⟨ev_c, by rw [h]; exact rv_I0⟩) fun h => by rw [h]; rfl))
      have t3 : (decide (1 ≤ (z.cps.toList.length : Int)) && decide ((z.cps.toList.length : Int) ≤ 40)) = true → EvT (tTest (tOp (fun x y H Q => ∃ (c : Nat) (z : Str), x = .str ⟨#[c]⟩ ∧ y = .str z ∧ Q (.bl (!decide (c ∈ z.cps.toList))) H) (tOp rIxS (tVar 0) (tC (.int 0))) (tC (.str LTRS)))) (L2.start ["thing", "sign"] [.str z]) H (!decide (z.cps.toList.getD 0 0 ∈ LTRS.cps.toList)) := fun h => by
        rw [Bool.and_eq_true] at h
        have h1 : 0 < z.cps.toList.length := by have := of_decide_eq_true h.1; omega
        refine et_test (ev_op (x := .str ⟨#[z.cps.toList.getD 0 0]⟩) (ev_op (x := .str z) (y := .int 0) (ev_var rfl) ev_c fun H1 e Q q => ⟨z, 0, z.cps.toList.getD 0 0, rfl, rfl, hz z rfl, ?_, q H1 (Ex.refl _)⟩) ev_c fun H1 e Q q => ⟨_, _, rfl, rfl, q H1 (Ex.refl _)⟩)
        have : atI z.cps.toList ((0 : Nat) : Int) = z.cps.toList[0]? := by unfold atI; rw [ixN_nat h1]; rfl
        rw [show atI z.cps.toList 0 = z.cps.toList[0]? from this, List.getD, List.getElem?_eq_getElem h1]
        rfl
      have tt := et_or t1 fun _ => et_or t2 fun h => t3 (by simpa using h)
      have hbr : ∀ bb, (!isS (V.str z) || (!(decide (1 ≤ (z.cps.toList.length : Int)) && decide ((z.cps.toList.length : Int) ≤ 40)) || !decide (z.cps.toList.getD 0 0 ∈ LTRS.cps.toList))) = bb →
          (bb = true → brandL z.cps.toList = false) ∧ (bb = false → (decide (1 ≤ (z.cps.toList.length : Int)) && decide ((z.cps.toList.length : Int) ≤ 40)) = true ∧ brandL z.cps.toList = z.cps.toList.all sgnB) := fun bb => by
        unfold brandL
        rw [show isS (V.str z) = true from rfl]
        generalize (decide (1 ≤ (z.cps.toList.length : Int)) && decide ((z.cps.toList.length : Int) ≤ 40)) = B1
        generalize decide (z.cps.toList.getD 0 0 ∈ LTRS.cps.toList) = B2
        generalize z.cps.toList.all sgnB = B3
        rintro rfl
        cases B1 <;> cases B2 <;> cases B3 <;> exact ⟨(fun h => by first | rfl | cases h), (fun h => by first | exact ⟨rfl, rfl⟩ | cases h)⟩
      refine q_when tt (fun hb H1 e1 => ?_) fun hb H1 e1 => ?_
      · have := hq H1 e1
        rw [show brandV (.str z) = false from (hbr _ hb).1 rfl] at this
        exact this
      · obtain ⟨hB, hall⟩ := (hbr _ hb).2 rfl
        rw [Bool.and_eq_true] at hB
        have hl : z.cps.toList.length ≤ 40 := by have := of_decide_eq_true hB.2; omega
        have el := el_all (H := H1) (vs := [1]) (te := tOrV (tOp (fun x y H Q => ∃ (c : Nat) (z : Str), x = .str ⟨#[c]⟩ ∧ y = .str z ∧ Q (.bl (decide (c ∈ z.cps.toList))) H) (tVar 1) (tC (.str LTRS))) (tOp (fun x y H Q => ∃ (c : Nat) (z : Str), x = .str ⟨#[c]⟩ ∧ y = .str z ∧ Q (.bl (decide (c ∈ z.cps.toList))) H) (tVar 1) (tC (.str OTHS)))) (j := 1) (ei_str (s := z) (tl := tVar 0) (σ := L2.start ["thing", "sign"] [.str z]) (ev_var rfl)) (fun y => .bl (sgnB (match y with | .str s => s.cps.getD 0 0 | _ => 0))) (by rw [List.length_map]; omega) (fun _ => rfl)
          (fun y hy H2 e2 => by
            obtain ⟨c, hc, rfl⟩ := List.mem_map.mp hy
            exact ev_orV (ev_op (x := .str ⟨#[c]⟩) (ev_var rfl) ev_c fun H1 e Q q => ⟨_, _, rfl, rfl, q H1 (Ex.refl _)⟩) fun _ => ev_op (x := .str ⟨#[c]⟩) (ev_var rfl) ev_c fun H1 e Q q => ⟨_, _, rfl, rfl, q H1 (Ex.refl _)⟩)
        rw [List.map_map] at el
        have el2 := ev_allL (K := K) (bs := z.cps.toList.map sgnB) (by rw [List.map_map]; exact el)
        refine s_ret el2 fun H2 e2 => ?_
        have := hq H2 (e1.trans e2)
        rw [show brandV (.str z) = z.cps.toList.all sgnB from hall] at this
        rw [List.all_map]
        exact this
    | _ =>
      refine q_when (b := !false || false) (et_or t1 fun z => nomatch z) (fun _ H1 e1 => hq H1 e1) fun z => nomatch z
/-- a Thing at p: what it is called, its dict at sd -/
def X40 : Str := "xxxxxxxxxxxxxxxxxxxxxxxxxxxxxxxxxxxxxxxx"
def BRANDS : List Str := ["a", "Z", "shop", "shop.item", "shop_item", "None", "bag.", "bagA", X40, "a1.b2_c3", "Bag", "bags"]
theorem brand_ok {z : Str} (h : z ∈ BRANDS) : brandV (.str z) = true ∧ V.str z ≠ V.str "bag" ∧ z.length ≤ 1000 := by
  have q : BRANDS.all (fun z => brandL z.cps.toList && (!decide (V.str z = V.str "bag") && decide (z.length ≤ 1000))) = true := by decide +kernel
  have := List.all_eq_true.mp q z h
  simp only [Bool.and_eq_true, Bool.not_eq_true', decide_eq_false_iff_not, decide_eq_true_eq] at this
  exact ⟨this.1, this.2.1, this.2.2⟩
theorem brand_fits {z : Str} (h : z ∈ BRANDS) : Fits (.str z) := fun y hy => by
  cases hy
  exact Nat.le_trans (brand_ok h).2.2 (by decide)
/-- a Registry at p, its dict at rd -/
structure RgAt (a : Adr) (H : Hp) (p rd : Addr) (kvs : List (Key × V)) : Prop where
  at_ : ∃ dx, H p = some (.ins a.Registry dx [("rules", .ref rd)])
  dict : H rd = some (.dK kvs)
theorem RgAt.ex {H H' : Hp} {p rd : Addr} {kvs : List (Key × V)} (h : RgAt a H p rd kvs) (e : Ex H H') : RgAt a H' p rd kvs := by
  obtain ⟨⟨dx, h1⟩, h2⟩ := h
  exact ⟨⟨dx, e _ _ h1⟩, e _ _ h2⟩
theorem RgAt.put {H : Hp} {p rd : Addr} {kvs kvs' : List (Key × V)} (h : RgAt a H p rd kvs) : RgAt a (upd H rd (.dK kvs')) p rd kvs' := by
  obtain ⟨⟨dx, h1⟩, h2⟩ := h
  exact ⟨⟨dx, by rw [upd_ne (ne_of h1 h2 fun z => nomatch z)]; exact h1⟩, upd_same⟩
/-- book.check_new(z) -/
def spNew (_K : PySem.W.Frag) (a : Adr) : Sp := fun vs H Q E => ∃ p rd kvs, ∃ z : Str, vs = [.ref p, .str z] ∧ z ∈ BRANDS ∧ RgAt a H p rd kvs ∧
  ((valV kvs (.inr z) = none ∧ ∀ H', Ex H H' → Q .non H') ∨ ((∃ v, valV kvs (.inr z) = some v) ∧ Bad a.BrandTaken "given" (.str z) H E))
theorem of_check_new (T : Txt P K mg a) : ∃ fd, FnOk P w K mg base (L2.CX P w) 6 a.Registry_check_new fd ["self", "brand"] (spNew K a) ∧ Binds K fd ["self", "brand"] [] ∧ Fun K "check_new" "Registry.check_new" s_Registry_check_new a.Registry_check_new fd := by
  have G_is_brand : CallO P w K mg base 2 (.ref a.is_brand) (spBrand K a) := ok_is_brand T
  refine T.d_Registry_check_new.okX sc_Registry_check_new (fun vs H Q E h => ?_) (fun cdv A outer s H vs Q E hr h => ?_)
  · obtain ⟨p, rd, kvs, z, rfl, _⟩ := h
    rfl
  · obtain ⟨p, rd, kvs, z, rfl, hz, ⟨⟨dx, hp⟩, hrd⟩, h⟩ := h
    have hu := hu_of hr
    refine ⟨_, (pss_cons (ps_if (PW.pt (pw_or (pt_not (pt_val (pe_co G_is_brand (hr.mono (by decide)) rfl T.g_is_brand T.k_is_brand (takes_of rfl rfl rfl rfl) (pa_cons (pv 1) pa_nil)))) (pw_or1 (pt_cmpR op_eq (pv 1) (pe_glob (v := .str "bag") (by rfl) T.c_BAG.choose_spec ⟨_, rfl⟩) (nomark _)))))
 (pss_one (ps_raiseErr rfl T.e_InvalidBrand T.i_InvalidBrand T.k_InvalidBrand T.x_InvalidBrand T.t_InvalidBrand hr (takes_of rfl rfl rfl rfl) (pa_cons (pv 1) pa_nil) (by rfl)))
 pss_nil)
 (pss_one (ps_if (pt_cmp (pc_din hu (pv 1) (pe_fld (pv 0) rfl)))
 (pss_one (ps_raiseErr rfl T.e_BrandTaken T.i_BrandTaken T.k_BrandTaken T.x_BrandTaken T.t_BrandTaken hr (takes_of rfl rfl rfl rfl) (pa_cons (pv 1) pa_nil) (by rfl)))
 pss_nil))), ?_⟩
    obtain ⟨b1, b2, _⟩ := brand_ok hz
    refine q_when (b := !brandV (.str z) || decide (V.str z = V.str "bag")) (et_or (et_not (et_B (ev_ca (ea_cons (ev_var rfl) ea_nil) fun H1 e1 Q E q => ⟨_, false, rfl, kn_dz T (.str z), brand_fits hz, q⟩))) fun _ => et_test (ev_op (ev_var rfl) ev_c (rv_eq rfl))) (fun hb => ?_) fun _ H1 e1 => ?_
    · rw [b1, decide_eq_false b2] at hb
      cases hb
    · refine ⟨_, rfl, _, rfl, p, a.Registry, dx, _, _, rfl, e1 _ _ hp, T.c_Registry, T.n_Registry_rules, rfl, rd, _, rfl, DGet.k (k := .inr z) (e1 _ _ hrd), ?_⟩
      rcases h with ⟨hv, hq⟩ | ⟨⟨v, hv⟩, hB⟩
      · rw [hv]
        exact ⟨_, rfl, iteF (hq _ e1)⟩
      · rw [hv]
        exact ⟨_, rfl, iteT ⟨_, rfl, rfl, fun d hd => hB d _ (fresh_back e1 hd) (e1.trans (Ex.new hd)) upd_same⟩⟩
theorem ok_check_new (T : Txt P K mg a) : CallX P w K mg base 6 (.ref a.Registry_check_new) [] fun vs zs H Q E => zs = [] ∧ spNew K a vs H Q E := (fnO (of_check_new T)).x
/-- book.check_known(z) -/
def spKnown (_K : PySem.W.Frag) (a : Adr) : Sp := fun vs H Q E => ∃ p rd kvs, ∃ z : Str, vs = [.ref p, .str z] ∧ RgAt a H p rd kvs ∧
  (((∃ v, valV kvs (.inr z) = some v) ∧ ∀ H', Ex H H' → Q .non H') ∨ (valV kvs (.inr z) = none ∧ Bad a.UnknownBrand "given" (.str z) H E))
theorem of_check_known (T : Txt P K mg a) : ∃ fd, FnOk P w K mg base (L2.CX P w) 6 a.Registry_check_known fd ["self", "brand"] (spKnown K a) ∧ Binds K fd ["self", "brand"] [] ∧ Fun K "check_known" "Registry.check_known" s_Registry_check_known a.Registry_check_known fd := by
  refine T.d_Registry_check_known.okX sc_Registry_check_known (fun vs H Q E h => ?_) (fun cdv A outer s H vs Q E hr h => ?_)
  · obtain ⟨p, rd, kvs, z, rfl, _⟩ := h
    rfl
  · obtain ⟨p, rd, kvs, z, rfl, ⟨⟨dx, hp⟩, hrd⟩, h⟩ := h
    have hu := hu_of hr
    refine ⟨_, (pss_one (ps_if (PW.pt (pw_or (pt_not (pt_val (pe_callB (call_isG' (K := K) rfl) (by rfl) T.b_isinstance (by decide +kernel) (pa_cons (pv 1) (pa_cons (pe_bltn (v := .ty "str") (u := .type "str") (by rfl) T.b_str (by decide +kernel) (by exact rfl)) pa_nil))))) (pw_or1 (pt_cmp (pc_dnotin hu (pv 1) (pe_fld (pv 0) rfl))))))
 (pss_one (ps_raiseErr rfl T.e_UnknownBrand T.i_UnknownBrand T.k_UnknownBrand T.x_UnknownBrand T.t_UnknownBrand hr (takes_of rfl rfl rfl rfl) (pa_cons (pv 1) pa_nil) (by rfl)))
 pss_nil)), ?_⟩
    obtain ⟨t, ty, _, _, k3, _⟩ := kn_dz T (H := H) (.str z)
    refine ⟨_, rfl, .str z, _, t, _, true, rfl, .ty "str", .ty ty, k3, true, rfl, ?_⟩
    refine ⟨_, rfl, _, rfl, p, a.Registry, dx, _, _, rfl, hp, T.c_Registry, T.n_Registry_rules, rfl, rd, _, rfl, DGet.k (k := .inr z) hrd, ?_⟩
    rcases h with ⟨⟨v, hv⟩, hq⟩ | ⟨hv, hB⟩
    · rw [hv]
      exact ⟨_, rfl, iteF (hq _ (Ex.refl _))⟩
    · rw [hv]
      exact ⟨_, rfl, iteT ⟨_, rfl, rfl, fun d hd => hB d _ hd (Ex.new hd) upd_same⟩⟩
theorem ok_check_known (T : Txt P K mg a) : CallX P w K mg base 6 (.ref a.Registry_check_known) [] fun vs zs H Q E => zs = [] ∧ spKnown K a vs H Q E := (fnO (of_check_known T)).x

end
end BJL

namespace BJL
open PySem PySem.Spec PyProof.Rows L2 BJ
section
variable {P : Program} {w : World} {K : PySem.W.Frag} {mg : Str → Option Value} {base : Heap} {a : Adr}
open Evl
/-- book.allow(z) -/
def spAllow (_K : PySem.W.Frag) (a : Adr) : Sp := fun vs H Q E => ∃ p rd kvs, ∃ z : Str, vs = [.ref p, .str z] ∧ z ∈ BRANDS ∧ RgAt a H p rd kvs ∧ kvs.length ≤ 900 ∧
  ((valV kvs (.inr z) = none ∧ ∀ H', Ex H H' → Q .non (upd H' rd (.dK (putK kvs (.inr z) (.ref a.NO_RULES))))) ∨ ((∃ v, valV kvs (.inr z) = some v) ∧ Bad a.BrandTaken "given" (.str z) H E))
theorem of_allow (T : Txt P K mg a) : ∃ fd, FnOk P w K mg base (L2.CX P w) 8 a.Registry_allow fd ["self", "brand"] (spAllow K a) ∧ Binds K fd ["self", "brand"] [] ∧ Fun K "allow" "Registry.allow" s_Registry_allow a.Registry_allow fd := by
  refine T.d_Registry_allow.okX sc_Registry_allow (fun vs H Q E h => ?_) (fun cdv A outer s H vs Q E hr h => ?_)
  · obtain ⟨p, rd, kvs, z, rfl, _⟩ := h
    rfl
  · obtain ⟨p, rd, kvs, z, rfl, hz, rg, hl, h⟩ := h
    obtain ⟨dx, hp⟩ := rg.at_
    have hu := hu_of hr
    refine ⟨_, (pss_cons (ps_expr (pe_me (pv 0) (takes_of rfl rfl rfl rfl) (pa_cons (pv 1) pa_nil) pk_nil))
 (pss_one (ps_dput hu (pe_fld (pv 0) rfl) (pv 1) (pe_glob (v := .ref a.NO_RULES) (by rfl) T.g_NO_RULES rfl) rfl))), ?_⟩
    refine ⟨_, rfl, p, a.Registry, dx, a.Registry_check_new, _, 6, _, rfl, hp, rfl, T.c_Registry, T.p_Registry_check_new, ok_check_new T, hr.mono (by decide), _, rfl, rfl, p, rd, kvs, z, rfl, hz, rg, ?_⟩
    rcases h with ⟨hv, hq⟩ | h
    · exact .inl ⟨hv, fun H1 e1 => ⟨_, rfl, p, a.Registry, dx, _, _, rfl, e1 _ _ hp, T.c_Registry, T.n_Registry_rules, rfl, _, rfl, rd, _, rfl, DPut.k (k := .inr z) (e1 _ _ rg.dict) (small1000 (by omega)), hq H1 e1⟩⟩
    · exact .inr h
theorem ok_allow (T : Txt P K mg a) : CallX P w K mg base 8 (.ref a.Registry_allow) [] fun vs zs H Q E => zs = [] ∧ spAllow K a vs H Q E := (fnO (of_allow T)).x
theorem ok_allow_kw (T : Txt P K mg a) : CallX P w K mg base 8 (.ref a.Registry_allow) ["brand"] fun vs zs H Q E => vs.length = 1 ∧ zs.length = 1 ∧ spAllow K a (vs ++ zs) H Q E := by
  obtain ⟨fd, F, _, F2⟩ := of_allow (P := P) (w := w) (base := base) (mg := mg) T
  refine callX_of F (n := 1) (g := fun us ws => us ++ ws) (gV := fun vs zs => vs ++ zs) ⟨fun s us ws X hu hw => ?_, fun r r2 => r.append r2⟩
  obtain ⟨oc, od, kV, doc, pm, an, cdv, ct, osl, rfl, lk, hcd⟩ := F2.ex
  match us, ws, hu, hw with
  | [u], [v], _, _ => exact .of_eq rfl
/-- book.forget(z) -/
def spForget (_K : PySem.W.Frag) (a : Adr) : Sp := fun vs H Q E => ∃ p rd kvs, ∃ z : Str, vs = [.ref p, .str z] ∧ RgAt a H p rd kvs ∧
  (((∃ v, valV kvs (.inr z) = some v) ∧ ∀ H', Ex H H' → Q .non (upd H' rd (.dK (dropK kvs (.inr z))))) ∨ (valV kvs (.inr z) = none ∧ Bad a.UnknownBrand "given" (.str z) H E))
theorem of_forget (T : Txt P K mg a) : ∃ fd, FnOk P w K mg base (L2.CX P w) 8 a.Registry_forget fd ["self", "brand"] (spForget K a) ∧ Binds K fd ["self", "brand"] [] ∧ Fun K "forget" "Registry.forget" s_Registry_forget a.Registry_forget fd := by
  refine T.d_Registry_forget.okX sc_Registry_forget (fun vs H Q E h => ?_) (fun cdv A outer s H vs Q E hr h => ?_)
  · obtain ⟨p, rd, kvs, z, rfl, _⟩ := h
    rfl
  · obtain ⟨p, rd, kvs, z, rfl, rg, h⟩ := h
    obtain ⟨dx, hp⟩ := rg.at_
    have hu := hu_of hr
    refine ⟨_, (pss_cons (ps_expr (pe_me (pv 0) (takes_of rfl rfl rfl rfl) (pa_cons (pv 1) pa_nil) pk_nil))
 (pss_one (ps_expr (pe_bm PySem.F.plainAttrs_dict PySem.F.slot_dict_pop PySem.F.type_dict_pop mt_popK (pe_fld (pv 0) rfl) (pa_cons (pv 1) pa_nil))))), ?_⟩
    refine ⟨_, rfl, p, a.Registry, dx, a.Registry_check_known, _, 6, _, rfl, hp, rfl, T.c_Registry, T.p_Registry_check_known, ok_check_known T, hr.mono (by decide), _, rfl, rfl, p, rd, kvs, z, rfl, rg, ?_⟩
    rcases h with ⟨⟨v, hv⟩, hq⟩ | h
    · exact .inl ⟨⟨v, hv⟩, fun H1 e1 => ⟨_, rfl, p, a.Registry, dx, _, _, rfl, e1 _ _ hp, T.c_Registry, T.n_Registry_rules, rfl, .inr (.inr (.inl ⟨rfl, .inl ⟨_, e1 _ _ rg.dict⟩⟩)), _, rfl, rd, kvs, .inr z, v, rfl, rfl, e1 _ _ rg.dict, hv, hq H1 e1⟩⟩
    · exact .inr h
theorem ok_forget_kw (T : Txt P K mg a) : CallX P w K mg base 8 (.ref a.Registry_forget) ["brand"] fun vs zs H Q E => vs.length = 1 ∧ zs.length = 1 ∧ spForget K a (vs ++ zs) H Q E := by
  obtain ⟨fd, F, _, F2⟩ := of_forget (P := P) (w := w) (base := base) (mg := mg) T
  refine callX_of F (n := 1) (g := fun us ws => us ++ ws) (gV := fun vs zs => vs ++ zs) ⟨fun s us ws X hu hw => ?_, fun r r2 => r.append r2⟩
  obtain ⟨oc, od, kV, doc, pm, an, cdv, ct, osl, rfl, lk, hcd⟩ := F2.ex
  match us, ws, hu, hw with
  | [u], [v], _, _ => exact .of_eq rfl
/-- book.takes_of(z) -/
def spTakes (K : PySem.W.Frag) (a : Adr) : Sp := fun vs H Q E => ∃ p rd kvs, ∃ z : Str, vs = [.ref p, .str z] ∧ RgAt a H p rd kvs ∧
  ((∃ t x y n b, valV kvs (.inr z) = some (.ref t) ∧ SqT K H t [x, y, n, b] ∧ ∀ H', Ex H H' → Q n H') ∨ (valV kvs (.inr z) = none ∧ Bad a.UnknownBrand "given" (.str z) H E))
theorem of_takes_of (T : Txt P K mg a) : ∃ fd, FnOk P w K mg base (L2.CX P w) 8 a.Registry_takes_of fd ["self", "brand"] (spTakes K a) ∧ Binds K fd ["self", "brand"] [] ∧ Fun K "takes_of" "Registry.takes_of" s_Registry_takes_of a.Registry_takes_of fd := by
  refine T.d_Registry_takes_of.okX sc_Registry_takes_of (fun vs H Q E h => ?_) (fun cdv A outer s H vs Q E hr h => ?_)
  · obtain ⟨p, rd, kvs, z, rfl, _⟩ := h
    rfl
  · obtain ⟨p, rd, kvs, z, rfl, rg, h⟩ := h
    obtain ⟨dx, hp⟩ := rg.at_
    have hu := hu_of hr
    refine ⟨_, (pss_cons (ps_expr (pe_me (pv 0) (takes_of rfl rfl rfl rfl) (pa_cons (pv 1) pa_nil) pk_nil))
 (pss_one (ps_ret (pe_ix (ix_tup' (K := K) rfl) (pe_dget hu (pe_fld (pv 0) rfl) (pv 1) (fun _ _ => rfl)) pe_int (fun _ _ => rfl))))), ?_⟩
    refine ⟨_, rfl, p, a.Registry, dx, a.Registry_check_known, _, 6, _, rfl, hp, rfl, T.c_Registry, T.p_Registry_check_known, ok_check_known T, hr.mono (by decide), _, rfl, rfl, p, rd, kvs, z, rfl, rg, ?_⟩
    rcases h with ⟨t, x, y, n, b, hv, ht, hq⟩ | h
    · exact .inl ⟨⟨_, hv⟩, fun H1 e1 => ⟨_, rfl, p, a.Registry, dx, _, _, rfl, e1 _ _ hp, T.c_Registry, T.n_Registry_rules, rfl, _, rfl, rd, _, rfl, dg (k := .inr z) (e1 _ _ rg.dict) hv, t, _, 2, n, rfl, rfl, ex_t e1 ht, rfl, hq H1 e1⟩⟩
    · exact .inr h
theorem ok_takes_of (T : Txt P K mg a) : CallX P w K mg base 8 (.ref a.Registry_takes_of) [] fun vs zs H Q E => zs = [] ∧ spTakes K a vs H Q E := (fnO (of_takes_of T)).x
theorem ok_takes_of_kw (T : Txt P K mg a) : CallX P w K mg base 8 (.ref a.Registry_takes_of) ["brand"] fun vs zs H Q E => vs.length = 1 ∧ zs.length = 1 ∧ spTakes K a (vs ++ zs) H Q E := by
  obtain ⟨fd, F, _, F2⟩ := of_takes_of (P := P) (w := w) (base := base) (mg := mg) T
  refine callX_of F (n := 1) (g := fun us ws => us ++ ws) (gV := fun vs zs => vs ++ zs) ⟨fun s us ws X hu hw => ?_, fun r r2 => r.append r2⟩
  obtain ⟨oc, od, kV, doc, pm, an, cdv, ct, osl, rfl, lk, hcd⟩ := F2.ex
  match us, ws, hu, hw with
  | [u], [v], _, _ => exact .of_eq rfl
/-- len(book) -/
def spLen (_K : PySem.W.Frag) (a : Adr) : Sp := fun vs H Q _ => ∃ p rd kvs, vs = [.ref p] ∧ RgAt a H p rd kvs ∧ Q (.int (kvs.length : Int)) H
theorem ok_len (T : Txt P K mg a) : CallO P w K mg base 2 (.ref a.Registry___len__) (spLen K a) := by
  refine fnO (T.d_Registry___len__.okX sc_Registry___len__ (fun vs H Q E h => ?_) (fun cdv A outer s H vs Q E hr h => ?_))
  · obtain ⟨p, rd, kvs, rfl, _⟩ := h
    rfl
  · obtain ⟨p, rd, kvs, rfl, ⟨⟨dx, hp⟩, hrd⟩, hq⟩ := h
    refine ⟨_, (pss_one (ps_ret (pe_callB call_lenD (by rfl) T.b_len (by decide +kernel) (pa_cons (pe_fld (pv 0) rfl) pa_nil)))), ?_⟩
    exact ⟨_, rfl, p, a.Registry, dx, _, _, rfl, hp, T.c_Registry, T.n_Registry_rules, rfl, rd, kvs, rfl, hrd, hq⟩
/-- x in book -/
def inRg (kvs : List (Key × V)) : V → Bool | .str z => (valV kvs (.inr z)).isSome | _ => false
def spIn (K : PySem.W.Frag) (a : Adr) : Sp := fun vs H Q _ => ∃ p rd kvs x b, vs = [.ref p, x] ∧ RgAt a H p rd kvs ∧ Kn K a H x b ∧ Q (.bl (inRg kvs x)) H
theorem ok_in (T : Txt P K mg a) : CallO P w K mg base 2 (.ref a.Registry___contains__) (spIn K a) := by
  refine fnO (T.d_Registry___contains__.okX sc_Registry___contains__ (fun vs H Q E h => ?_) (fun cdv A outer s H vs Q E hr h => ?_))
  · obtain ⟨p, rd, kvs, x, b, rfl, _⟩ := h
    rfl
  · obtain ⟨p, rd, kvs, x, b, rfl, ⟨⟨dx, hp⟩, hrd⟩, ⟨t, ty, _, _, k3, _⟩, hq⟩ := h
    have hu := hu_of hr
    refine ⟨_, (pss_one (ps_ret (pe_and (pe_callB (call_isG' (K := K) rfl) (by rfl) T.b_isinstance (by decide +kernel) (pa_cons (pv 1) (pa_cons (pe_bltn (v := .ty "str") (u := .type "str") (by rfl) T.b_str (by decide +kernel) (by exact rfl)) pa_nil))) (pe_one (pe_cmp (pc_din hu (pv 1) (pe_fld (pv 0) rfl)) rfl))))), ?_⟩
    refine ⟨_, rfl, x, _, t, _, isS x, rfl, .ty "str", .ty ty, k3, isS x, rfl, ?_⟩
    cases x with
    | str z => exact ⟨_, rfl, _, rfl, p, a.Registry, dx, _, _, rfl, hp, T.c_Registry, T.n_Registry_rules, rfl, rd, _, rfl, DGet.k (k := .inr z) hrd, hq⟩
    | _ => exact hq
/-- book.brands -/
def spBrands (_K : PySem.W.Frag) (a : Adr) : Sp := fun vs H Q _ => ∃ p rd kvs, ∃ zs : List Str, vs = [.ref p] ∧ RgAt a H p rd kvs ∧ (kvs.map fun kv => kV kv.1) = zs.map V.str ∧ zs.length < 64 ∧
  ∀ t H', Ex H H' → H' t = some (.tup ((srtS zs).map V.str)) → Q (.ref t) H'
theorem ok_brands (T : Txt P K mg a) : CallO P w K mg base 2 (.ref a.Registry_brands) (spBrands K a) := by
  refine fnO (T.d_Registry_brands.okX sc_Registry_brands (fun vs H Q E h => ?_) (fun cdv A outer s H vs Q E hr h => ?_))
  · obtain ⟨p, rd, kvs, zs, rfl, _⟩ := h
    rfl
  · obtain ⟨p, rd, kvs, zs, rfl, ⟨⟨dx, hp⟩, hrd⟩, hz, hl, hq⟩ := h
    refine ⟨_, (pss_one (ps_ret (pe_callTy call_tuple_of (by rfl) T.b_tuple (by decide +kernel) (pa_cons (pe_callB (call_sortedDK rfl) (by rfl) T.b_sorted (by decide +kernel) (pa_cons (pe_fld (pv 0) rfl) pa_nil)) pa_nil)))), ?_⟩
    refine ⟨_, rfl, p, a.Registry, dx, _, _, rfl, hp, T.c_Registry, T.n_Registry_rules, rfl, rd, kvs, zs, rfl, hrd, hz, hl, fun ys l hperm hs nl => ?_⟩
    rw [srtS_is hperm hs]
    refine ⟨l, _, rfl, .inl ⟨sq_of upd_same, fun t nt => ?_⟩⟩
    exact hq t _ ((Ex.new nl).trans (Ex.new nt)) upd_same

end
end BJL

namespace BJL
open PySem PySem.Spec PyProof.Rows L2 BJ
section
variable {P : Program} {w : World} {K : PySem.W.Frag} {mg : Str → Option Value} {base : Heap} {a : Adr}
open Evl
/-- numbers of arguments -/
def takesB : V → Bool | .int i => decide (0 ≤ i) && decide (i ≤ 20) | _ => false
/-- book.enter(z, m, r, takes=k, build=b) -/
def spEnter (K : PySem.W.Frag) (a : Adr) : Sp := fun vs H Q E => ∃ p rd kvs, ∃ z : Str, ∃ m r k b kb, vs = [.ref p, .str z, m, r, k, b] ∧ z ∈ BRANDS ∧ RgAt a H p rd kvs ∧ kvs.length ≤ 900 ∧ Kn K a H k kb ∧
  (((∃ v, valV kvs (.inr z) = some v) ∧ Bad a.BrandTaken "given" (.str z) H E) ∨ (valV kvs (.inr z) = none ∧
    ((takesB k = false ∧ Bad a.InvalidTakes "value" k H E) ∨ (takesB k = true ∧ ∀ H' t, H t = none → H' t = none → Ex H H' → Q .non (upd (upd H' t (.tup [m, r, k, b])) rd (.dK (putK kvs (.inr z) (.ref t))))))))
theorem body_enter (T : Txt P K mg a) (cdv : Value) (A : Around) (outer : List Env) (s : Shared) (H : Hp) (vs : List V) (Q : VK) (E : XK) (hr : Room 7 (A.deeper (envOfC "Registry.enter" (defScope s_Registry_enter) s.heap.objs.size a.Registry_enter cdv))) (h : spEnter K a vs H Q E) :
    ∃ t, PSs (cxOf (L2.CX P w) P w K mg base ["self", "brand", "make", "reduce", "takes", "build"] "Registry.enter" (defScope s_Registry_enter) a.Registry_enter cdv A outer s H E) (defBody s_Registry_enter) t ∧ t { nx := fun _ H' => Q .non H', rt := Q } (start ["self", "brand", "make", "reduce", "takes", "build"] vs) H := by
  have G_is_integer : CallO P w K mg base 1 (.ref a.is_integer) (spIsI K a) := ok_is_integer T
  obtain ⟨p, rd, kvs, z, m, r, k, b, kb, rfl, hz, rg, hl, kn, h⟩ := h
  obtain ⟨dx, hp⟩ := rg.at_
  have hu := hu_of hr
  refine ⟨_, (pss_cons (ps_expr (pe_me (pv 0) (takes_of rfl rfl rfl rfl) (pa_cons (pv 1) pa_nil) pk_nil))
 (pss_cons (ps_if (PW.pt (pw_or (pt_not (pt_val (pe_co G_is_integer (hr.mono (by decide)) rfl T.g_is_integer T.k_is_integer (takes_of rfl rfl rfl rfl) (pa_cons (pv 4) pa_nil)))) (pw_or1 (pt_not (pt_chain op_le op_le pe_int (pv 4) (pe_glob (v := .int (20)) (by rfl) T.c_MOST_TAKEN.choose_spec ⟨_, rfl⟩))))))
 (pss_one (ps_raiseErr rfl T.e_InvalidTakes T.i_InvalidTakes T.k_InvalidTakes T.x_InvalidTakes T.t_InvalidTakes hr (takes_of rfl rfl rfl rfl) (pa_cons (pv 4) pa_nil) (by rfl)))
 pss_nil)
 (pss_one (ps_dput hu (pe_fld (pv 0) rfl) (pv 1) (pe_tup (pa_cons (pv 2) (pa_cons (pv 3) (pa_cons (pv 4) (pa_cons (pv 5) pa_nil))))) rfl)))), ?_⟩
  refine ⟨_, rfl, p, a.Registry, dx, a.Registry_check_new, _, 6, _, rfl, hp, rfl, T.c_Registry, T.p_Registry_check_new, ok_check_new T, hr.mono (by decide), _, rfl, rfl, p, rd, kvs, z, rfl, hz, rg, ?_⟩
  rcases h with h | ⟨hv, h⟩
  · exact .inr h
  refine .inl ⟨hv, fun H1 e1 => ?_⟩
  have t1 : EvT (tNot (tB (tCa (spIsI K a) (fun cls d _ H => E cls d H) (tCons (tVar 4) tNil)))) (start ["self", "brand", "make", "reduce", "takes", "build"] [.ref p, .str z, m, r, k, b]) H1 (!isI k) :=
    et_not (et_B (ev_ca (ea_cons (ev_var rfl) ea_nil) fun H2 e2 Q E q => ⟨k, kb, rfl, kn.ex (e1.trans e2), q H2 (Ex.refl _)⟩))
  have raise : takesB k = false → ∀ {D : Ends} {H2 : Hp}, Ex H1 H2 → tRaiseErr a.InvalidTakes ["value"] (fun cls d _ H => E cls d H) (tCons (tVar 4) tNil) D (start ["self", "brand", "make", "reduce", "takes", "build"] [.ref p, .str z, m, r, k, b]) H2 := fun hf D H2 e2 => by
    rcases h with ⟨_, hB⟩ | ⟨hk, _⟩
    · exact ⟨_, rfl, rfl, fun d hd => hB d _ (fresh_back (e1.trans e2) hd) ((e1.trans e2).trans (Ex.new hd)) upd_same⟩
    · rw [hf] at hk; cases hk
  cases k with
  | int i =>
    have t2 : EvT (tNot (tTest (tChain (rI0 fun i j => V.bl (decide (i ≤ j))) (rI0 fun i j => V.bl (decide (i ≤ j))) (tC (.int 0)) (tVar 4) (tC (.int 20))))) (start ["self", "brand", "make", "reduce", "takes", "build"] [.ref p, .str z, m, r, .int i, b]) H1 (!(decide (0 ≤ i) && decide (i ≤ 20))) :=
      et_not (et_test (ev_chain (k := decide (0 ≤ i)) (v := .bl (decide (0 ≤ i) && decide (i ≤ 20))) (z := .int 20) ev_c (ev_var rfl) rv_I0 (fun h => ⟨ev_c, by rw [h]; exact rv_I0⟩) (fun h => by rw [h]; rfl)))
    refine q_when (et_or t1 fun _ => t2) (fun hb H2 e2 => raise ?_ e2) fun hb H2 e2 => ?_
    · show (decide (0 ≤ i) && decide (i ≤ 20)) = false
      rw [show isI (V.int i) = true from rfl, Bool.not_true, Bool.false_or, Bool.not_eq_true'] at hb
      exact hb
    · have hk : takesB (.int i) = true := by
        show (decide (0 ≤ i) && decide (i ≤ 20)) = true
        rw [show isI (V.int i) = true from rfl, Bool.not_true, Bool.false_or, Bool.not_eq_false'] at hb
        exact hb
      rcases h with ⟨hf, _⟩ | ⟨_, hq⟩
      · rw [hf] at hk; cases hk
      · have e12 := e1.trans e2
        refine ⟨_, rfl, _, rfl, _, rfl, _, rfl, (by show 4 ≤ sizeLine; decide), fun t nt => ?_⟩
        have e3 := Ex.new (o := .tup [m, r, .int i, b]) nt
        exact ⟨_, rfl, p, a.Registry, dx, _, _, rfl, (e12.trans e3) _ _ hp, T.c_Registry, T.n_Registry_rules, rfl, _, rfl, rd, _, rfl, DPut.k (k := .inr z) ((e12.trans e3) _ _ rg.dict) (small1000 (by omega)), hq H2 t (fresh_back e12 nt) nt e12⟩
  | _ => exact q_when (b := !false || false) (et_or t1 fun h => nomatch h) (fun _ H2 e2 => raise rfl e2) fun h => nomatch h
theorem ok_enter (T : Txt P K mg a) : (CallX P w K mg base 8 (.ref a.Registry_enter) ["takes"] fun vs zs H Q E => vs.length = 4 ∧ zs.length = 1 ∧ spEnter K a (vs ++ zs ++ [.non]) H Q E) ∧
    (CallX P w K mg base 8 (.ref a.Registry_enter) ["build", "takes", "reduce", "make", "brand"] fun vs zs H Q E => vs.length = 1 ∧ zs.length = 5 ∧ spEnter K a (vs ++ zs.reverse.take 3 ++ [zs.getD 1 .non, zs.getD 0 .non]) H Q E) := by
  refine T.d_Registry_enter.ok sc_Registry_enter (fun vs H Q E h => ?_) fun cdv A outer s H vs Q E hr h => body_enter T cdv A outer s H vs Q E hr h
  obtain ⟨p, rd, kvs, z, m, r, k, b, kb, rfl, _⟩ := h
  rfl

end
end BJL

namespace BJL
open PySem PySem.Spec PyProof.Rows L2 BJ
section
variable {P : Program} {w : World} {K : PySem.W.Frag} {mg : Str → Option Value} {base : Heap} {a : Adr}
open Evl
/-- all but p stands -/
def ExB (p : Addr) (H H' : Hp) : Prop := ∀ b o, H b = some o → b ≠ p → H' b = some o
theorem sqt_ne {H : Hp} {p t : Addr} {u o : HO} {xs : List V} (hp : H p = some u) (h1 : ∀ ys, u ≠ .tup ys) (h2 : ∀ x ys, u ≠ .frz x (.tup ys)) (h : SqT K H t xs) : SqT K (upd H p o) t xs := by
  rcases h with (h | ⟨z, h⟩) | h
  · exact .inl (.inl (by rw [upd_ne (fun e => by rw [e, hp] at h; cases h; exact h1 _ rfl)]; exact h))
  · exact .inl (.inr ⟨z, by rw [upd_ne (fun e => by rw [e, hp] at h; cases h; exact h2 _ _ rfl)]; exact h⟩)
  · exact .inr h
/-- brands without rules -/
def NR (a : Adr) (zs : List Str) : List (Key × V) := zs.map fun z => ((Sum.inr z : Key), V.ref a.NO_RULES)
theorem nr_none {zs : List Str} {z : Str} (h : z ∉ zs) : valV (NR a zs) (.inr z) = none := by
  cases hv : valV (NR a zs) (.inr z) with
  | none => rfl
  | some v =>
    have := valV_in hv
    unfold NR at this
    rw [List.map_map] at this
    obtain ⟨y, hy, e⟩ := List.mem_map.mp this
    cases e
    exact (h hy).elim
def spRI (K : PySem.W.Frag) (a : Adr) : Sp := fun vs H Q _ => ∃ p dx t, ∃ zs : List Str, vs = [.ref p, .ref t] ∧ H p = some (.ins a.Registry dx []) ∧ SqT K H t (zs.map V.str) ∧ zs.Nodup ∧ zs.length ≤ 20 ∧ (∀ z ∈ zs, z ∈ BRANDS) ∧
  ∀ H' rd, H rd = none → ExB p H H' → RgAt a H' p rd (NR a zs) → Q .non H'
theorem body_rinit (T : Txt P K mg a) (cdv : Value) (A : Around) (outer : List Env) (s : Shared) (H : Hp) (vs : List V) (Q : VK) (E : XK) (hr : Room 9 (A.deeper (envOfC "Registry.__init__" (defScope s_Registry___init__) s.heap.objs.size a.Registry___init__ cdv))) (h : spRI K a vs H Q E) :
    ∃ t, PSs (cxOf (L2.CX P w) P w K mg base ["self", "brands", "brand"] "Registry.__init__" (defScope s_Registry___init__) a.Registry___init__ cdv A outer s H E) (defBody s_Registry___init__) t ∧ t { nx := fun _ H' => Q .non H', rt := Q } (start ["self", "brands", "brand"] vs) H := by
  obtain ⟨p, dx, t, zs, rfl, hp, hs, nd, hl, hk, hq⟩ := h
  refine ⟨_, (pss_cons (ps_fld (pv 0) pe_dnewK rfl)
 (pss_one (ps_for (passes_of rfl) rfl (pi_tup (pv 1)) (pg_name (i := 2) sc_Registry___init__.nd rfl (Or.inl rfl))
 (pss_one (ps_expr (pe_me (pv 0) (takes_of rfl rfl rfl rfl) (pa_cons (pv 2) pa_nil) pk_nil)))))), ?_⟩
  intro rd nrd
  have prd : p ≠ rd := fun z => by rw [z, nrd] at hp; cases hp
  have hp1 : (upd H rd (.dK [])) p = some (.ins a.Registry dx []) := by rw [upd_ne prd]; exact hp
  refine ⟨_, rfl, p, a.Registry, dx, [], rfl, hp1, T.c_Registry, T.n_Registry_rules, (by decide), ?_⟩
  have hs2 : SqT K (upd (upd H rd (.dK [])) p (.ins a.Registry dx [("rules", .ref rd)])) t (zs.map V.str) := sqt_ne hp1 (fun _ z => nomatch z) (fun _ _ z => nomatch z) (ex_t (Ex.new nrd) hs)
  have eb : ExB p H (upd (upd H rd (.dK [])) p (.ins a.Registry dx [("rules", .ref rd)])) := fun b o hb hbp => by
    have hbr : b ≠ rd := fun z => by rw [z, nrd] at hb; cases hb
    rw [upd_ne hbp, upd_ne hbr]
    exact hb
  refine s_forT (K := K) (a := t) (xs := zs.map V.str) (ev_var rfl) hs2 (fun i σ' H' => (∃ o2, σ' = [some (.ref p), some (.ref t), o2]) ∧ ExB p H H' ∧ RgAt a H' p rd (NR a (zs.take i)) ∧ SqT K H' t (zs.map V.str)) (fun H1 e => ⟨⟨_, rfl⟩, fun b o hb hbp => e _ _ (eb b o hb hbp), ⟨⟨dx, e _ _ upd_same⟩, e _ _ (by rw [upd_ne prd.symm]; exact upd_same)⟩, ex_t e hs2⟩) (fun i σ' H' _ ⟨_, _, _, h⟩ => h) ?_ ?_
  · rintro i x σ' H' hx ⟨⟨o2, rfl⟩, e, rg, hst⟩
    rw [List.getElem?_map] at hx
    obtain ⟨z, hz, rfl⟩ := Option.map_eq_some_iff.mp hx
    have hmem := List.mem_of_getElem? hz
    have hil := (List.getElem?_eq_some_iff.mp hz).1
    obtain ⟨dx2, hp2⟩ := rg.at_
    have hnone : valV (NR a (zs.take i)) (.inr z) = none := nr_none fun hm => by
      obtain ⟨j, hj⟩ := List.mem_iff_getElem?.mp hm
      have hjl := (List.getElem?_eq_some_iff.mp hj).1
      rw [List.length_take] at hjl
      rw [List.getElem?_take_of_lt (by omega)] at hj
      have := (List.getElem?_inj (by omega) nd).mp (hj.trans hz.symm)
      omega
    refine ⟨_, rfl, p, a.Registry, dx2, a.Registry_allow, _, 8, _, rfl, hp2, rfl, T.c_Registry, T.p_Registry_allow, ok_allow T, hr.mono (by decide), _, rfl, rfl, p, rd, _, z, rfl, hk z hmem, rg, ?_, .inl ⟨hnone, fun H1 e1 => ?_⟩⟩
    · unfold NR; rw [List.length_map, List.length_take]; omega
    · rw [putK_new _ hnone]
      have e3 : NR a (zs.take i) ++ [((Sum.inr z : Key), V.ref a.NO_RULES)] = NR a (zs.take (i + 1)) := by
        unfold NR
        rw [List.take_add_one, hz, List.map_append]
        rfl
      rw [e3]
      have rg1 := rg.ex e1
      refine ⟨⟨_, rfl⟩, fun b o hb hbp => ?_, rg1.put, sqt_ne rg1.dict (fun _ z => nomatch z) (fun _ _ z => nomatch z) (ex_t e1 hst)⟩
      have hbr : b ≠ rd := fun z => by rw [z, nrd] at hb; cases hb
      rw [upd_ne hbr]
      exact e1 _ _ (e b o hb hbp)
  · rintro σ' H' ⟨_, e, rg, _⟩
    rw [List.length_map, List.take_length] at rg
    exact hq H' rd nrd e rg
theorem ok_Registry (T : Txt P K mg a) : CallX P w K mg base 11 (.ref a.Registry) [] fun vs zs H Q E => ∃ ls : List Str, vs = ls.map V.str ∧ zs = [] ∧ ls.Nodup ∧ ls.length ≤ 20 ∧ (∀ z ∈ ls, z ∈ BRANDS) ∧
    ∀ p rd H', H p = none → H rd = none → Ex H H' → RgAt a H' p rd (NR a ls) → Q (.ref p) H' := by
  have h1 := (T.d_Registry___init__.ok (N := ["self", "brands", "brand"]) (sp := spRI K a) (P := P) (w := w) (base := base) (mg := mg) (k := 9) sc_Registry___init__ (fun cdv A outer s H vs Q E hr h => body_rinit T cdv A outer s H vs Q E hr h)).x
  refine (CallX.make T.m_Registry h1).imp ?_
  rintro vs zs H Q E ⟨ls, rfl, rfl, nd, hl, hk, hq⟩ p dx hp hd ne hs
  have e1 : Ex H (upd (upd H dx (.own p)) p (.ins a.Registry dx [])) := (Ex.new hd).trans (Ex.new (by rw [upd_ne ne.symm]; exact hp))
  refine ⟨rfl, [.ref p], ls.map V.str, rfl, rfl, (by rw [List.length_map, sizeLine_eq]; omega), fun t ht => ?_⟩
  have e2 := e1.trans (Ex.new (o := .tup (ls.map V.str)) ht)
  have htp : t ≠ p := fun z => by rw [z, upd_same] at ht; cases ht
  refine ⟨p, dx, t, ls, rfl, (Ex.new ht) _ _ upd_same, st_of upd_same, nd, hl, hk, fun H' rd nrd he rg => ⟨rfl, hq p rd H' hp (fresh_back e2 nrd) (fun b o hb => he b o (e2 b o hb) fun z => ?_) rg⟩⟩
  rw [z, hp] at hb
  cases hb
/-- book.twin() -/
def spTwin (_K : PySem.W.Frag) (a : Adr) : Sp := fun vs H Q _ => ∃ p rd kvs, vs = [.ref p] ∧ RgAt a H p rd kvs ∧ ∀ p2 rd2 H', H p2 = none → H rd2 = none → Ex H H' → RgAt a H' p2 rd2 kvs → Q (.ref p2) H'
theorem ok_twin (T : Txt P K mg a) : CallO P w K mg base 13 (.ref a.Registry_twin) (spTwin K a) := by
  have G0_Registry := ok_Registry (P := P) (w := w) (base := base) (mg := mg) T
  refine fnO (T.d_Registry_twin.okX sc_Registry_twin (fun vs H Q E h => ?_) (fun cdv A outer s H vs Q E hr h => ?_))
  · obtain ⟨p, rd, kvs, rfl, _⟩ := h
    rfl
  · obtain ⟨p, rd, kvs, rfl, rg, hq⟩ := h
    obtain ⟨dx, hp⟩ := rg.at_
    refine ⟨_, (pss_cons (ps_set (i := 1) sc_Registry_twin.nd rfl (Or.inl rfl) (pe_cx0 G0_Registry (hr.mono (by decide)) rfl T.g_Registry T.k_Registry (takes_of rfl rfl rfl rfl) pk_nil))
 (pss_cons (ps_fld (pv 1) (pe_callTy call_dictD (by rfl) T.b_dict (by decide +kernel) (pa_cons (pe_fld (pv 0) rfl) pa_nil)) rfl)
 (pss_one (ps_ret (pv 1))))), ?_⟩
    refine ⟨[], rfl, rfl, .nil, Nat.zero_le _, (fun z h => nomatch h), fun p2 rd1 H1 np2 nrd1 e1 rg1 => ?_⟩
    obtain ⟨dx2, hp2⟩ := rg1.at_
    refine ⟨_, rfl, p, a.Registry, dx, _, _, rfl, e1 _ _ hp, T.c_Registry, T.n_Registry_rules, rfl, rd, kvs, rfl, .inl (e1 _ _ rg.dict), fun rd2 nrd2 => ?_⟩
    have e2 := Ex.new (o := .dK kvs) nrd2
    have n2 : p2 ≠ rd2 := fun z => by rw [z, nrd2] at hp2; cases hp2
    refine ⟨_, rfl, p2, a.Registry, dx2, _, rfl, e2 _ _ hp2, T.c_Registry, T.n_Registry_rules, (by show 1 < 1000; decide), _, rfl, ?_⟩
    refine hq p2 rd2 _ np2 (fresh_back e1 nrd2) (fun b o hb => ?_) ⟨⟨dx2, upd_same⟩, by rw [upd_ne n2.symm]; exact upd_same⟩
    have hb2 : b ≠ p2 := fun z => by rw [z, np2] at hb; cases hb
    rw [upd_ne hb2]
    exact (e1.trans e2) _ _ hb

end
end BJL

namespace BJL
open PySem PySem.Spec PyProof.Rows L2 BJ
section
variable {P : Program} {w : World} {K : PySem.W.Frag} {mg : Str → Option Value} {base : Heap} {a : Adr}
open Evl
def spLabels (K : PySem.W.Frag) (a : Adr) : Sp := fun vs H Q _ => ∃ (t : Addr) (zs : List Str), vs = [.ref t] ∧ SqT K H t (zs.map V.str) ∧ zs.Nodup ∧ zs.length ≤ 20 ∧ (∀ z ∈ zs, keyS (.str z) = true) ∧ ∀ H', Ex H H' → Q .non H'
theorem key_fits {z : Str} (h : keyS (.str z) = true) : Fits (.str z) := fun y hy => by
  cases hy
  have : (z.length : Int) ≤ 2000 := of_decide_eq_true h
  rw [sizeLine_eq]
  omega
theorem ok_check_labels (T : Txt P K mg a) : CallO P w K mg base 9 (.ref a.check_labels) (spLabels K a) := by
  have G_is_text : CallO P w K mg base 2 (.ref a.is_text) (spBV K a fun x _ => keyS x) := ok_is_text T
  refine fnO (T.d_check_labels.okX sc_check_labels (fun vs H Q E h => ?_) (fun cdv A outer s H vs Q E hr h => ?_))
  · obtain ⟨t, zs, rfl, _⟩ := h
    rfl
  · obtain ⟨t, zs, rfl, hs, nd, hl, hk, hq⟩ := h
    have hu := hu_of hr
    refine ⟨_, (pss_cons (ps_set (i := 1) sc_check_labels.nd rfl (Or.inl rfl) pe_dnewK)
 (pss_one (ps_for (passes_of rfl) rfl (pi_tup (pv 0)) (pg_name (i := 2) sc_check_labels.nd rfl (Or.inl rfl))
 (pss_cons (ps_if (PW.pt (pw_or (pt_not (pt_val (pe_co G_is_text (hr.mono (by decide)) rfl T.g_is_text T.k_is_text (takes_of rfl rfl rfl rfl) (pa_cons (pv 2) pa_nil)))) (pw_or1 (pt_cmp (pc_din hu (pv 2) (pv 1))))))
 (pss_one (ps_raiseErr rfl T.e_InvalidKey T.i_InvalidKey T.k_InvalidKey T.x_InvalidKey T.t_InvalidKey hr (takes_of rfl rfl rfl rfl) (pa_cons (pv 2) pa_nil) (by rfl)))
 pss_nil)
 (pss_one (ps_dput hu (pv 1) (pv 2) pe_bl rfl)))))), ?_⟩
    intro kd nkd
    have e1 := Ex.new (o := .dK []) nkd
    refine s_forT (K := K) (a := t) (xs := zs.map V.str) (ev_var rfl) (ex_t e1 hs) (fun i σ' H' => (∃ o2, σ' = [some (.ref t), some (.ref kd), o2]) ∧ Ex H H' ∧ ∃ kvs, H' kd = some (.dK kvs) ∧ kvs.map (·.1) = (zs.take i).map Sum.inr) (fun H1 e => ⟨⟨_, rfl⟩, e1.trans e, [], e _ _ upd_same, rfl⟩) (fun i σ' H' _ ⟨_, e, _⟩ => ex_t e hs) ?_ ?_
    · rintro i x σ' H' hx ⟨⟨o2, rfl⟩, e, kvs, hkd, hkeys⟩
      rw [List.getElem?_map] at hx
      obtain ⟨z, hz, rfl⟩ := Option.map_eq_some_iff.mp hx
      have hmem := List.mem_of_getElem? hz
      have hil := (List.getElem?_eq_some_iff.mp hz).1
      have hks := hk z hmem
      have hnone : valV kvs (.inr z) = none := by
        cases hv : valV kvs (.inr z) with
        | none => rfl
        | some v =>
          exfalso
          have hm := valV_in hv
          rw [hkeys] at hm
          obtain ⟨y, hy, hyz⟩ := List.mem_map.mp hm
          cases hyz
          obtain ⟨j, hj⟩ := List.mem_iff_getElem?.mp hy
          have hjl := (List.getElem?_eq_some_iff.mp hj).1
          rw [List.length_take] at hjl
          rw [List.getElem?_take_of_lt (by omega)] at hj
          have := (List.getElem?_inj (by omega) nd).mp (hj.trans hz.symm)
          omega
      refine ⟨_, rfl, .str z, false, rfl, kn_dz T (.str z), key_fits hks, ?_⟩
      dsimp only
      rw [hks]
      refine ⟨_, rfl, iteF ⟨_, rfl, _, rfl, kd, _, rfl, DGet.k (k := .inr z) hkd, ?_⟩⟩
      rw [hnone]
      have hkl : kvs.length = i := by have := congrArg List.length hkeys; rw [List.length_map, List.length_map, List.length_take] at this; omega
      refine ⟨_, rfl, iteF ⟨_, rfl, _, rfl, kd, _, rfl, DPut.k (k := .inr z) hkd (small1000 (by omega)), ?_⟩⟩
      refine ⟨⟨_, rfl⟩, Ex.mut e nkd, kvs ++ [(.inr z, .bl true)], by rw [upd_same, putK_new _ hnone], ?_⟩
      rw [List.map_append, hkeys, List.take_add_one, hz, List.map_append]
      rfl
    · rintro σ' H' ⟨_, e, _⟩
      exact hq H' e

def spFdI (K : PySem.W.Frag) (a : Adr) : Sp := fun vs H Q E => ∃ p dx x b t, ∃ zs : List Str, vs = [.ref p, x, .ref t] ∧ H p = some (.ins a.Fields dx []) ∧ Kn K a H x b ∧ Fits x ∧ thingV x = true ∧ SqT K H t (zs.map V.str) ∧ zs.Nodup ∧ zs.length ≤ 20 ∧ (∀ z ∈ zs, keyS (.str z) = true) ∧
  ∀ H', ExB p H H' → H' p = some (.ins a.Fields dx [("new_brand", x), ("label_row", .ref t)]) → Q .non H'
theorem body_finit (T : Txt P K mg a) (cdv : Value) (A : Around) (outer : List Env) (s : Shared) (H : Hp) (vs : List V) (Q : VK) (E : XK) (hr : Room 10 (A.deeper (envOfC "Fields.__init__" (defScope s_Fields___init__) s.heap.objs.size a.Fields___init__ cdv))) (h : spFdI K a vs H Q E) :
    ∃ t, PSs (cxOf (L2.CX P w) P w K mg base ["self", "brand", "labels"] "Fields.__init__" (defScope s_Fields___init__) a.Fields___init__ cdv A outer s H E) (defBody s_Fields___init__) t ∧ t { nx := fun _ H' => Q .non H', rt := Q } (start ["self", "brand", "labels"] vs) H := by
  have G_is_brand : CallO P w K mg base 2 (.ref a.is_brand) (spBrand K a) := ok_is_brand T
  have G_check_labels : CallO P w K mg base 9 (.ref a.check_labels) (spLabels K a) := ok_check_labels T
  obtain ⟨p, dx, x, b, t, zs, rfl, hp, kn, hz, hv, hs, nd, hl, hk, hq⟩ := h
  refine ⟨_, (pss_cons (ps_if (PW.pt (pw_or (pt_not (pt_val (pe_co G_is_brand (hr.mono (by decide)) rfl T.g_is_brand T.k_is_brand (takes_of rfl rfl rfl rfl) (pa_cons (pv 1) pa_nil)))) (pw_or1 (pt_cmpR op_eq (pv 1) (pe_glob (v := .str "bag") (by rfl) T.c_BAG.choose_spec ⟨_, rfl⟩) (nomark _)))))
 (pss_one (ps_raiseErr rfl T.e_InvalidBrand T.i_InvalidBrand T.k_InvalidBrand T.x_InvalidBrand T.t_InvalidBrand hr (takes_of rfl rfl rfl rfl) (pa_cons (pv 1) pa_nil) (by rfl)))
 pss_nil)
 (pss_cons (ps_expr (pe_co G_check_labels (hr.mono (by decide)) rfl T.g_check_labels T.k_check_labels (takes_of rfl rfl rfl rfl) (pa_cons (pv 2) pa_nil)))
 (pss_one (ps_asg (pe_tup (pa_cons (pv 1) (pa_cons (pv 2) pa_nil))) (pg_tup rfl (pgs_cons (pg_fld (pv 0)) (pgs_cons (pg_fld (pv 0)) pgs_nil))) (by rfl))))), ?_⟩
  cases x with
  | str z =>
    have hv' : brandL z.cps.toList = true ∧ decide (V.str z = V.str "bag") = false := by
      have : (brandL z.cps.toList && !decide (V.str z = V.str "bag")) = true := hv
      simpa using this
    have t1 : EvT (tNot (tB (tCa (spBrand K a) (fun cls d _ H => E cls d H) (tCons (tVar 1) tNil)))) (L2.start ["self", "brand", "labels"] [.ref p, .str z, .ref t]) H (!true) :=
      et_not (et_B (ev_ca (ea_cons (ev_var rfl) ea_nil) fun H1 e Q E q => ⟨.str z, b, rfl, kn.ex e, hz, fun H2 e2 => by rw [show brandV (.str z) = true from hv'.1]; exact q H2 e2⟩))
    have t2 : EvT (tTest (tOp rEq (tVar 1) (tC (.str "bag")))) (L2.start ["self", "brand", "labels"] [.ref p, .str z, .ref t]) H false := by
      have := et_test (ev_op (σ := L2.start ["self", "brand", "labels"] [.ref p, .str z, .ref t]) (H := H) (ta := tVar 1) (tb := tC (.str "bag")) (ev_var rfl) ev_c (rv_eq (x := .str z) (y := .str "bag") rfl))
      rw [hv'.2] at this
      exact this
    refine q_when (et_or t1 fun _ => t2) (fun z => nomatch z) fun _ H1 e1 => ?_
    refine ⟨_, rfl, t, zs, rfl, ex_t e1 hs, nd, hl, hk, fun H2 e2 => ?_⟩
    refine ⟨_, rfl, _, rfl, (by show 2 ≤ sizeLine; decide), fun tp np => ?_⟩
    have e3 := (e1.trans e2).trans (Ex.new (o := .tup [.str z, .ref t]) np)
    have hp3 := e3 _ _ hp
    refine ⟨tp, _, rfl, st_of upd_same, rfl, _, _, rfl, _, rfl, p, a.Fields, dx, [], rfl, hp3, T.c_Fields, T.n_Fields_new_brand, (by decide), _, _, rfl, _, rfl, p, a.Fields, dx, _, rfl, upd_same, T.c_Fields, T.n_Fields_label_row, (by show 1 < 1000; decide), rfl, ?_⟩
    exact hq _ (fun b o hb hbp => by rw [upd_ne hbp, upd_ne hbp]; exact e3 _ _ hb) upd_same
  | _ => cases hv
theorem ok_Fields (T : Txt P K mg a) : CallX P w K mg base 12 (.ref a.Fields) [] fun vs zs H Q E => ∃ x b, ∃ ls : List Str, vs = x :: ls.map V.str ∧ zs = [] ∧ Kn K a H x b ∧ Fits x ∧ thingV x = true ∧ ls.Nodup ∧ ls.length ≤ 20 ∧ (∀ z ∈ ls, keyS (.str z) = true) ∧
    ∀ p dx t H', H p = none → Ex H H' → H' p = some (.ins a.Fields dx [("new_brand", x), ("label_row", .ref t)]) → SqT K H' t (ls.map V.str) → Q (.ref p) H' := by
  have h1 := (T.d_Fields___init__.ok (N := ["self", "brand", "labels"]) (sp := spFdI K a) (P := P) (w := w) (base := base) (mg := mg) (k := 10) sc_Fields___init__ (fun cdv A outer s H vs Q E hr h => body_finit T cdv A outer s H vs Q E hr h)).x
  refine (CallX.make T.m_Fields h1).imp ?_
  rintro vs zs H Q E ⟨x, b, ls, rfl, rfl, kn, hz, hv, nd, hl, hk, hq⟩ p dx hp hd ne hs
  have e1 : Ex H (upd (upd H dx (.own p)) p (.ins a.Fields dx [])) := (Ex.new hd).trans (Ex.new (by rw [upd_ne ne.symm]; exact hp))
  refine ⟨rfl, [.ref p, x], ls.map V.str, rfl, rfl, (by rw [List.length_map, sizeLine_eq]; omega), fun t ht => ?_⟩
  have e2 := e1.trans (Ex.new (o := .tup (ls.map V.str)) ht)
  have htp : t ≠ p := fun z => by rw [z, upd_same] at ht; cases ht
  refine ⟨p, dx, x, b, t, ls, rfl, (Ex.new ht) _ _ upd_same, kn.ex e2, hz, hv, st_of upd_same, nd, hl, hk, fun H' he hp' => ⟨rfl, hq p dx t H' hp (fun b o hb => he b o (e2 b o hb) fun z => ?_) hp' (st_of (he t _ upd_same htp))⟩⟩
  rw [z, hp] at hb
  cases hb
theorem ok_Whole (T : Txt P K mg a) : CallX P w K mg base 1 (.ref a.Whole) [] fun vs zs H Q E => vs = [] ∧ zs = [] ∧ ∀ x dx, H x = none → H dx = none → dx ≠ x → Q (.ref x) (upd (upd H dx (.own x)) x (.ins a.Whole dx [])) := CallX.make0 ⟨T.m0_Whole, T.i0_Whole⟩
theorem ok_Refill (T : Txt P K mg a) : CallX P w K mg base 1 (.ref a.Refill) [] fun vs zs H Q E => vs = [] ∧ zs = [] ∧ ∀ x dx, H x = none → H dx = none → dx ≠ x → Q (.ref x) (upd (upd H dx (.own x)) x (.ins a.Refill dx [])) := CallX.make0 ⟨T.m0_Refill, T.i0_Refill⟩
theorem ex_ins {H : Hp} {x dx C : Addr} (nx : H x = none) (ndx : H dx = none) (ne : dx ≠ x) : Ex H (upd (upd H dx (.own x)) x (.ins C dx [])) := (Ex.new ndx).trans (Ex.new (by rw [upd_ne ne.symm]; exact nx))
/-- _law_entered(book, z, k, named) -/
def spEntered (K : PySem.W.Frag) (a : Adr) : Sp := fun vs H Q E => ∃ p rd kvs, ∃ z : Str, ∃ k kb bn, vs = [.ref p, .str z, k, .bl bn] ∧ z ∈ BRANDS ∧ RgAt a H p rd kvs ∧ kvs.length ≤ 900 ∧ Kn K a H k kb ∧
  (((∃ v, valV kvs (.inr z) = some v) ∧ Bad a.BrandTaken "given" (.str z) H E) ∨ (valV kvs (.inr z) = none ∧
    ((takesB k = false ∧ Bad a.InvalidTakes "value" k H E) ∨ (takesB k = true ∧ ∀ H1 t m r b, H t = none → H1 t = some (.tup [m, r, k, b]) → Ex H H1 → Q .non (upd H1 rd (.dK (putK kvs (.inr z) (.ref t))))))))
theorem ok__law_entered (T : Txt P K mg a) : CallO P w K mg base 14 (.ref a._law_entered) (spEntered K a) := by
  have G_Fields := ok_Fields (P := P) (w := w) (base := base) (mg := mg) T
  have G0_Refill := ok_Refill (P := P) (w := w) (base := base) (mg := mg) T
  have G0_Whole := ok_Whole (P := P) (w := w) (base := base) (mg := mg) T
  refine fnO (T.d__law_entered.okX sc__law_entered (fun vs H Q E h => ?_) (fun cdv A outer s H vs Q E hr h => ?_))
  · obtain ⟨p, rd, kvs, z, k, kb, bn, rfl, _⟩ := h
    rfl
  · obtain ⟨p, rd, kvs, z, k, kb, bn, rfl, hz, rg, hl, kn, h⟩ := h
    refine ⟨_, (pss_cons (ps_par (i := 4) (j := 5) rfl sc__law_entered.nd rfl rfl (by decide) rfl rfl (pa_cons (pe_cx G_Fields (hr.mono (by decide)) rfl T.g_Fields T.k_Fields (takes_of rfl rfl rfl rfl) (pa_cons pe_str pa_nil) pk_nil) (pa_cons (pe_cx0 G0_Refill (hr.mono (by decide)) rfl T.g_Refill T.k_Refill (takes_of rfl rfl rfl rfl) pk_nil) pa_nil)) (by rfl))
 (pss_cons (ps_if (pt_val (pv 3))
 (pss_one (ps_ret (pe_me0 (pv 0) (takes_of rfl rfl rfl rfl) (pk_cons (pv 5) (pk_cons (pv 2) (pk_cons (pe_cx0 G0_Whole (hr.mono (by decide)) rfl T.g_Whole T.k_Whole (takes_of rfl rfl rfl rfl) pk_nil) (pk_cons (pv 4) (pk_cons (pv 1) pk_nil))))))))
 pss_nil)
 (pss_one (ps_ret (pe_me (pv 0) (takes_of rfl rfl rfl rfl) (pa_cons (pv 1) (pa_cons (pv 4) (pa_cons (pe_cx0 G0_Whole (hr.mono (by decide)) rfl T.g_Whole T.k_Whole (takes_of rfl rfl rfl rfl) pk_nil) pa_nil))) (pk_cons (pv 2) pk_nil)))))), ?_⟩
    refine ⟨.str "made", false, [], rfl, rfl, kn_dz T (.str "made"), (fun y hy => by cases hy; decide), by decide +kernel, .nil, Nat.zero_le _, (fun z h => nomatch h), fun q dq t H1 nq e1 hq ht => ?_⟩
    refine ⟨rfl, rfl, fun x dx nx ndx ne => ⟨_, _, rfl, ?_⟩⟩
    have e2 := e1.trans (ex_ins (C := a.Refill) nx ndx ne)
    obtain ⟨H2, hH2⟩ : ∃ H2, H2 = upd (upd H1 dx (.own x)) x (.ins a.Refill dx []) := ⟨_, rfl⟩
    rw [← hH2] at e2
    rw [← hH2]
    obtain ⟨dp, hp⟩ := (rg.ex e2).at_
    have fin : ∀ (y dy : Addr) (m r b : V) (Q' : VK) (E' : XK), H2 y = none → H2 dy = none → dy ≠ y → (∀ H' v, Q' v H' = Q v H') → (∀ c d H', E' c d H' = E c d H') → spEnter K a [.ref p, .str z, m, r, k, b] (upd (upd H2 dy (.own y)) y (.ins a.Whole dy [])) Q' E' := fun y dy m r b Q' E' ny ndy ney hQ hE => by
      have e3 := e2.trans (ex_ins (C := a.Whole) ny ndy ney)
      refine ⟨p, rd, kvs, z, m, r, k, b, kb, rfl, hz, rg.ex e3, hl, kn.ex e3, ?_⟩
      rcases h with ⟨hv, hB⟩ | ⟨hv, ⟨hk, hB⟩ | ⟨hk, hq⟩⟩
      · exact .inl ⟨hv, fun d H' hd he hx => by rw [hE]; exact hB.back e3 d H' hd he hx⟩
      · exact .inr ⟨hv, .inl ⟨hk, fun d H' hd he hx => by rw [hE]; exact hB.back e3 d H' hd he hx⟩⟩
      · exact .inr ⟨hv, .inr ⟨hk, fun H' t nt nt' e' => by rw [hQ]; exact hq _ t m r b (fresh_back e3 nt) upd_same ((e3.trans e').trans (Ex.new nt'))⟩⟩
    cases bn with
    | true =>
      refine ⟨_, rfl, true, rfl, ?_⟩
      refine ⟨_, rfl, p, a.Registry, dp, a.Registry_enter, _, 8, _, rfl, hp, rfl, T.c_Registry, T.p_Registry_enter, (ok_enter T).2, hr.mono (by decide), ?_⟩
      refine ⟨_, rfl, _, rfl, rfl, rfl, fun y dy ny ndy ney => ⟨_, rfl, _, rfl, rfl, rfl, ?_⟩⟩
      exact fin y dy _ _ _ _ _ ny ndy ney (fun _ _ => rfl) (fun _ _ _ => rfl)
    | false =>
      refine ⟨_, rfl, false, rfl, ?_⟩
      refine ⟨_, rfl, p, a.Registry, dp, a.Registry_enter, _, 8, _, rfl, hp, rfl, T.c_Registry, T.p_Registry_enter, (ok_enter T).1, hr.mono (by decide), ?_⟩
      refine ⟨_, rfl, _, rfl, rfl, rfl, fun y dy ny ndy ney => ⟨_, rfl, rfl, rfl, ?_⟩⟩
      exact fin y dy _ _ _ _ _ ny ndy ney (fun _ _ => rfl) (fun _ _ _ => rfl)

end
end BJL

namespace BJL
open PySem PySem.Spec PyProof.Rows L2 BJ
section
variable {P : Program} {w : World} {K : PySem.W.Frag} {mg : Str → Option Value} {base : Heap} {a : Adr}
theorem ok__law_mixed (T : Txt P K mg a) : CallO P w K mg base 1 (.ref a._law_mixed) spMixed := by
  refine fnO (T.d__law_mixed.okX sc__law_mixed (fun vs H Q E h => ?_) (fun cdv A outer s H vs Q E hr h => ?_))
  · obtain ⟨cell, k, rfl, _⟩ := h
    rfl
  · obtain ⟨cell, k, rfl, k0, k1, hq⟩ := h
    refine ⟨_, (pss_cons (ps_set (i := 2) sc__law_mixed.nd rfl (Or.inl rfl) (pe_op op_mod (pe_op op_add (pe_op op_add (pe_op op_add (pe_op op_mod (pv 0) pe_int) (pe_op op_mul (pe_op op_mul pe_int (pv 1)) (pv 1))) (pe_op op_mul pe_int (pv 1))) pe_int) pe_int))
 (pss_cons (ps_set (i := 2) sc__law_mixed.nd rfl (Or.inl rfl) (pe_op op_mod (pe_op op_mul (pe_op op_mod (pe_op op_mul (pv 2) (pv 2)) pe_int) (pv 2)) pe_int))
 (pss_one (ps_ret (pe_op op_fdiv (pe_op op_mod (pe_op op_mul (pv 2) (pe_op op_add pe_int (pe_op op_mul pe_int (pe_op op_mod (pv 1) pe_int)))) pe_int) pe_int))))), ?_⟩
    refine ⟨_, rfl, _, _, rfl, rfl, (by show (0 : Int) < _; decide), _, rfl, _, _, rfl, rfl, .inl (by omega), _, rfl, _, _, rfl, rfl, .inl (by constructor <;> omega), _, _, rfl, rfl, _, rfl, _, _, rfl, rfl, .inl (by omega), _, _, rfl, rfl, _, _, rfl, rfl, _, _, rfl, rfl, (by show (0 : Int) < _; decide), ?_⟩
    generalize hm : (cell % 1000000007 + 7919 * k * k + 31 * k + 7) % 2147483647 = m
    have m0 : 0 ≤ m := by omega
    have m1 : m < 2147483647 := by omega
    refine ⟨_, rfl, _, rfl, _, _, rfl, rfl, .inl (by omega), _, _, rfl, rfl, (by show (0 : Int) < _; decide), _, rfl, _, _, rfl, rfl, .inl (by omega), _, _, rfl, rfl, (by show (0 : Int) < _; decide), ?_⟩
    generalize hm2 : m * m % 2147483647 * m % 2147483629 = m'
    have m0' : 0 ≤ m' := by omega
    have m1' : m' < 2147483629 := by omega
    refine ⟨_, rfl, _, rfl, _, _, rfl, rfl, (by show (0 : Int) < _; decide), _, _, rfl, rfl, .inl (by omega), _, _, rfl, rfl, _, _, rfl, rfl, .inl (by omega), _, _, rfl, rfl, (by show (0 : Int) < _; decide), _, _, rfl, rfl, ⟨by decide, by decide⟩, ?_⟩
    exact hq _ (by omega)
theorem ok__law_begin (T : Txt P K mg a) : CallO P w K mg base 1 (.ref a._law_begin) (spBegin K) := by
  refine fnO (T.d__law_begin.okX sc__law_begin (fun vs H Q E h => ?_) (fun cdv A outer s H vs Q E hr h => ?_))
  · obtain ⟨s, ns, rfl, _⟩ := h
    rfl
  · obtain ⟨s, ns, rfl, hS, hl, hq⟩ := h
    refine ⟨_, (pss_one (ps_ret (pe_disp (pps_cons pe_str (pe_op op_catS (pv 0) (pe_lst (pa_cons pe_int pa_nil))) (pps_cons pe_str pe_int (pps_cons pe_str pe_int (pps_cons pe_str pe_int pps_nil)))) (by rfl) (by rfl) (fun z => by cases z) (by decide)))), ?_⟩
    intro d nd
    refine ⟨_, rfl, (by show 1 ≤ sizeLine; decide), fun q nq => ?_⟩
    have hS1 : Scr K (upd (upd H d (.dK [])) q (.lst [.int 0])) s (ns.map V.int) := by
      rcases hS with (h | ⟨o, h⟩) | h
      · exact .inl (.inl (upd_keep (upd_keep h nd) nq))
      · exact .inl (.inr ⟨o, upd_keep (upd_keep h nd) nq⟩)
      · exact .inr h
    have nqd : q ≠ d := fun z => by
      rw [z, upd_same] at nq
      cases nq
    have nq0 : H q = none := by rw [upd_ne nqd] at nq; exact nq
    refine ⟨_, _, _, _, rfl, rfl, hS1, .inl (.inl upd_same), (by rw [List.length_map, sizeLine_eq]; show ns.length + 1 ≤ 16777216; omega), fun c nc => ?_⟩
    have ncq : c ≠ q := fun z => by
      rw [z, upd_same] at nc
      cases nc
    have ncd : c ≠ d := fun z => by
      rw [z, upd_ne nqd.symm, upd_same] at nc
      cases nc
    have nc0 : H c = none := by rw [upd_ne ncq, upd_ne ncd] at nc; exact nc
    refine ⟨?_, drw c 0 0 0, rfl, (by show 4 ≤ 15; decide), ?_⟩
    · rw [upd_ne ncd.symm, upd_ne nqd.symm, upd_same]
    have em : mergeK [] (drw c 0 0 0) = drw c 0 0 0 := by
      have h1 : ¬ (("cells" : Str) = "at") := by decide
      have h2 : ¬ (("cells" : Str) = "left") := by decide
      have h3 : ¬ (("cells" : Str) = "used") := by decide
      have h4 : ¬ (("at" : Str) = "left") := by decide
      have h5 : ¬ (("at" : Str) = "used") := by decide
      have h6 : ¬ (("left" : Str) = "used") := by decide
      simp [mergeK, drw, putK, h1, h2, h3, h4, h5, h6]
    rw [em]
    refine hq d c _ (fun p o e => ?_) nd nc0 ⟨⟨0, 0, 0, upd_same, by omega, by omega, by omega, by omega, by omega⟩, ?_, by simp, by rw [List.length_append]; show ns.length + 1 ≤ 64; omega⟩
    · have pd : p ≠ d := ne_of_none e nd
      rw [upd_ne pd, upd_ne (ne_of_none e nc0), upd_ne (ne_of_none e nq0), upd_ne pd]
      exact e
    · rw [upd_ne ncd, upd_same, List.map_append]
      rfl

end
end BJL

namespace BJL
open PySem PySem.Spec PyProof.Rows L2 BJ
section
variable {P : Program} {w : World} {K : PySem.W.Frag} {mg : Str → Option Value} {base : Heap} {a : Adr}
theorem ok__law_next (T : Txt P K mg a) : CallO P w K mg base 2 (.ref a._law_next) spNext := by
  have G__law_mixed : CallO P w K mg base 1 (.ref a._law_mixed) spMixed := ok__law_mixed T
  refine fnO (T.d__law_next.okX sc__law_next (fun vs H Q E h => ?_) (fun cdv A outer s H vs Q E hr h => ?_))
  · obtain ⟨d, c, cells, n, b, rfl, _⟩ := h
    rfl
  · obtain ⟨d, c, cells, n, b, rfl, D, hn, b0, b1, hq⟩ := h
    have hu := hu_of hr
    refine ⟨_, (pss_cons (ps_if (pt_cmpR op_gt (pe_dget hu (pv 0) pe_str (fun _ _ => rfl)) pe_int (nomark _))
 (pss_cons (ps_set (i := 2) sc__law_next.nd rfl (Or.inl rfl) (pe_op op_modN (pe_dget hu (pv 0) pe_str (fun _ _ => rfl)) (pv 1)))
 (pss_cons (ps_dput hu (pv 0) pe_str (pe_op op_fdivN (pe_dget hu (pv 0) pe_str (fun _ _ => rfl)) (pv 1)) rfl)
 (pss_one (ps_ret (pv 2)))))
 pss_nil)
 (pss_cons (ps_set (i := 3) sc__law_next.nd rfl (Or.inl rfl) (pe_dget hu (pv 0) pe_str (fun _ _ => rfl)))
 (pss_cons (ps_set (i := 4) sc__law_next.nd rfl (Or.inl rfl) (pe_ix (ix_list' (K := K) rfl) (pv 3) (pe_op op_modN (pe_dget hu (pv 0) pe_str (fun _ _ => rfl)) (pe_callB call_len_seq (by rfl) T.b_len (by decide +kernel) (pa_cons (pv 3) pa_nil))) (fun _ _ => rfl)))
 (pss_cons (ps_dput hu (pv 0) pe_str (pe_op op_add (pe_dget hu (pv 0) pe_str (fun _ _ => rfl)) pe_int) rfl)
 (pss_cons (ps_if (PW.pt (pw_and (pt_cmpR op_ge (pv 4) (pe_op op_pow pe_int pe_int) (nomark _)) (pw_and1 (pt_cmpR op_le (pe_dget hu (pv 0) pe_str (fun _ _ => rfl)) (pe_callB call_len_seq (by rfl) T.b_len (by decide +kernel) (pa_cons (pv 3) pa_nil)) (nomark _)))))
 (pss_cons (ps_dput hu (pv 0) pe_str (pe_op op_fdivN (pv 4) (pv 1)) rfl)
 (pss_one (ps_ret (pe_op op_modN (pv 4) (pv 1)))))
 pss_nil)
 (pss_cons (ps_dput hu (pv 0) pe_str (pe_op op_add (pe_dget hu (pv 0) pe_str (fun _ _ => rfl)) pe_int) rfl)
 (pss_one (ps_ret (pe_op op_modN (pe_co G__law_mixed (hr.mono (by decide)) rfl T.g__law_mixed T.k__law_mixed (takes_of rfl rfl rfl rfl) (pa_cons (pe_co G__law_mixed (hr.mono (by decide)) rfl T.g__law_mixed T.k__law_mixed (takes_of rfl rfl rfl rfl) (pa_cons (pv 4) (pa_cons (pe_dget hu (pv 0) pe_str (fun _ _ => rfl)) pa_nil))) (pa_cons (pe_dget hu (pv 0) pe_str (fun _ _ => rfl)) pa_nil))) (pv 1)))))))))), ?_⟩
    obtain ⟨av, lv, uv, hd, a0, a1, u0, u1, l0⟩ := D.dict
    have bb : b.natAbs < 1073741824 := by omega
    refine ⟨_, rfl, d, _, rfl, dg (k := .inr "left") hd drw_left, _, _, rfl, rfl, _, rfl, ?_⟩
    refine ifd (fun hl => ?_) (fun hl => ?_)
    · refine ⟨_, rfl, d, _, rfl, dg (k := .inr "left") hd drw_left, _, rfl, _, _, rfl, rfl, (by show b ≠ 0; omega), ?_⟩
      refine ⟨_, rfl, d, _, rfl, dg (k := .inr "left") hd drw_left, _, rfl, _, _, rfl, rfl, ⟨(by omega), bb⟩, _, rfl, d, _, rfl, dp (k := .inr "left") hd drw_put_left (by show 4 < 1000; decide), ?_⟩
      refine ⟨_, rfl, ?_⟩
      exact hq _ _ (fm b0).1 (fm b0).2 (Dr_up D a0 (by omega) u0 (by omega) (fd b0 l0)) But.upd
    · refine ⟨_, rfl, d, _, rfl, dg (k := .inr "cells") hd drw_cells, ?_⟩
      have hlen : 0 < cells.length := List.length_pos_iff.mpr D.ne
      have hm := fm (i := av) (b := (cells.length : Int)) (by omega)
      have hi : (av.fmod (cells.length : Int)).toNat < cells.length := by omega
      have hx : (cells.map V.int)[(av.fmod (cells.length : Int)).toNat]? = some (.int cells[(av.fmod (cells.length : Int)).toNat]) := by
        rw [List.getElem?_map, List.getElem?_eq_getElem hi]
        rfl
      generalize cells[(av.fmod (cells.length : Int)).toNat] = cell at hx
      have hlm : ((cells.map V.int).length : Int) = (cells.length : Int) := by rw [List.length_map]
      have hat : atI (cells.map V.int) (av.fmod ((cells.map V.int).length : Int)) = some (.int cell) := by
        rw [hlm]
        have := atI_nat hx
        rw [show (((av.fmod (cells.length : Int)).toNat : Nat) : Int) = av.fmod (cells.length : Int) by omega] at this
        exact this
      refine ⟨_, rfl, _, rfl, d, _, rfl, dg (k := .inr "at") hd drw_at, _, rfl, c, _, rfl, .inl (SqL.of D.list), _, _, rfl, rfl, (by show (((cells.map V.int).length : Nat) : Int) ≠ 0; omega), c, _, _, _, rfl, rfl, SqL.of D.list, hat, ?_⟩
      refine ⟨_, rfl, d, _, rfl, dg (k := .inr "at") hd drw_at, _, _, rfl, rfl, _, rfl, d, _, rfl, dp (k := .inr "at") hd drw_put_at (by show 4 < 1000; decide), ?_⟩
      have hd1 : (upd H d (.dK (drw c (av + 1) lv uv))) d = some (.dK (drw c (av + 1) lv uv)) := upd_same
      have hc1 : SqL K (upd H d (.dK (drw c (av + 1) lv uv))) c (cells.map V.int) := SqL.of (by rw [upd_ne D.dc.symm]; exact D.list)
      -- the way by the mixer
      have fin : ∀ r : Int, Q (.int (r.fmod b)) (upd (upd H d (.dK (drw c (av + 1) lv uv))) d (.dK (drw c (av + 1) lv (uv + 1)))) := fun r => by
        rw [upd_upd]
        exact hq _ _ (fm b0).1 (fm b0).2 (Dr_up D (by omega) (by omega) (by omega) (by omega) l0) But.upd
      have last : ∀ tl, tl = (tSeq (sDPut (tVar 0) (tC (V.str "used")) (tOp (rI0 fun i j => V.int (i + j)) (tDGet (tVar 0) (tC (V.str "used"))) (tC (V.int 1))))
          (tRet (tOp (rI (fun x j => j ≠ 0) fun i j => V.int (i.fmod j)) (tCa spMixed (fun cls d _ H => E cls d H) (tCons (tCa spMixed (fun cls d _ H => E cls d H) (tCons (tVar 4) (tCons (tDGet (tVar 0) (tC (V.str "at"))) tNil))) (tCons (tDGet (tVar 0) (tC (V.str "used"))) tNil))) (tVar 1)))) →
          tl { nx := fun _ H' => Q .non H', rt := Q } [some (.ref d), some (.int b), none, some (.ref c), some (.int cell)] (upd H d (.dK (drw c (av + 1) lv uv))) := by
        rintro _ rfl
        have hd2 : (upd (upd H d (.dK (drw c (av + 1) lv uv))) d (.dK (drw c (av + 1) lv (uv + 1)))) d = some (.dK (drw c (av + 1) lv (uv + 1))) := upd_same
        refine ⟨_, rfl, d, _, rfl, dg (k := .inr "used") hd1 drw_used, _, _, rfl, rfl, _, rfl, d, _, rfl, dp (k := .inr "used") hd1 drw_put_used (by show 4 < 1000; decide), ?_⟩
        refine ⟨_, rfl, _, rfl, d, _, rfl, dg (k := .inr "at") hd2 drw_at, cell, av + 1, rfl, by omega, by omega, fun r r0 => ?_⟩
        refine ⟨_, rfl, d, _, rfl, dg (k := .inr "used") hd2 drw_used, r, uv + 1, rfl, by omega, by omega, fun r' r0' => ?_⟩
        exact ⟨_, rfl, _, _, rfl, rfl, (by show b ≠ 0; omega), fin r'⟩
      refine ⟨_, rfl, _, _, rfl, rfl, ⟨by decide, by decide, by decide⟩, _, _, rfl, rfl, _, rfl, ?_⟩
      refine ifd (fun h1 => ?_) (fun h1 => ?_)
      · refine ⟨_, rfl, d, _, rfl, dg (k := .inr "at") hd1 drw_at, _, rfl, c, _, rfl, .inl hc1, _, _, rfl, rfl, _, rfl, ?_⟩
        refine ifd (fun h2 => ?_) (fun h2 => last _ rfl)
        refine ⟨_, rfl, _, rfl, _, _, rfl, rfl, ⟨(by omega), bb⟩, _, rfl, d, _, rfl, dp (k := .inr "left") hd1 drw_put_left (by show 4 < 1000; decide), ?_⟩
        refine ⟨_, rfl, _, rfl, _, _, rfl, rfl, (by show b ≠ 0; omega), ?_⟩
        rw [upd_upd]
        have hcell : (0 : Int) ≤ cell := by
          have h1' : (10 : Int) ^ (18 : Int).toNat ≤ cell := h1
          have h10 : (0 : Int) ≤ (10 : Int) ^ (18 : Int).toNat := by decide
          omega
        exact hq _ _ (fm b0).1 (fm b0).2 (Dr_up D (by omega) (by omega) (by omega) (by omega) (fd b0 hcell)) But.upd
      · refine iteF ?_
        exact last _ rfl

end
end BJL

namespace BJL
open PySem PySem.Spec PyProof.Rows L2 BJ
section
variable {P : Program} {w : World} {K : PySem.W.Frag} {mg : Str → Option Value} {base : Heap} {a : Adr}
open Evl
theorem x40 : (⟨Array.replicate 40 120⟩ : Str) = X40 := by decide +kernel
/-- _law_brand(draw) -/
def spBr : Sp := fun vs H Q _ => ∃ (d c : Addr) (cells : List Int) (n : Nat), vs = [.ref d] ∧ Dr H d c cells n ∧ n < 100000000 ∧ ∀ (z : Str) H', z ∈ BRANDS → Dr H' d c cells (n + 1) → SameBut d H H' → Q (.str z) H'
theorem ok__law_brand (T : Txt P K mg a) : CallO P w K mg base 3 (.ref a._law_brand) spBr := by
  have G__law_next : CallO P w K mg base 2 (.ref a._law_next) spNext := ok__law_next T
  refine fnO (T.d__law_brand.okX sc__law_brand (fun vs H Q E h => ?_) (fun cdv A outer s H vs Q E hr h => ?_))
  · obtain ⟨d, c, cells, n, rfl, _⟩ := h
    rfl
  · obtain ⟨d, c, cells, n, rfl, dr, hn, hq⟩ := h
    have hu := hu_of hr
    refine ⟨_, (pss_cons (ps_set (i := 1) sc__law_brand.nd rfl (Or.inl rfl) (pe_lst (pa_cons pe_str (pa_cons pe_str (pa_cons pe_str (pa_cons pe_str (pa_cons pe_str (pa_cons pe_str (pa_cons pe_str (pa_cons pe_str (pa_cons (pe_op op_mulS pe_str pe_int) (pa_cons pe_str (pa_cons pe_str (pa_cons pe_str pa_nil))))))))))))))
 (pss_one (ps_ret (pe_ix (ix_list' (K := K) rfl) (pv 1) (pe_co G__law_next (hr.mono (by decide)) rfl T.g__law_next T.k__law_next (takes_of rfl rfl rfl rfl) (pa_cons (pv 0) (pa_cons pe_int pa_nil))) (fun _ _ => rfl))))), ?_⟩
    have el : EvL (tLst (tCons (tC (.str "a")) (tCons (tC (.str "Z")) (tCons (tC (.str "shop")) (tCons (tC (.str "shop.item")) (tCons (tC (.str "shop_item")) (tCons (tC (.str "None")) (tCons (tC (.str "bag.")) (tCons (tC (.str "bagA")) (tCons (tOp rMulS (tC (.str "x")) (tC (.int 40))) (tCons (tC (.str "a1.b2_c3")) (tCons (tC (.str "Bag")) (tCons (tC (.str "bags")) tNil))))))))))))) (start ["draw", "some"] [.ref d]) H (BRANDS.map V.str) := by
      refine el_lst (vs := BRANDS.map V.str) ?_ (by decide)
      refine ea_cons ev_c (ea_cons ev_c (ea_cons ev_c (ea_cons ev_c (ea_cons ev_c (ea_cons ev_c (ea_cons ev_c (ea_cons ev_c (ea_cons (ev_op ev_c ev_c ?_) (ea_cons ev_c (ea_cons ev_c (ea_cons ev_c ea_nil)))))))))))
      exact fun H1 e Q q => ⟨120, 40, rfl, rfl, by decide, by decide, by rw [← x40] at q; exact q H1 (Ex.refl _)⟩
    refine q_asgL el fun l H1 nl e1 hl => ?_
    have ld : l ≠ d := fun z => by obtain ⟨u, hu⟩ := dr.atd; rw [z, hu] at nl; cases nl
    refine ⟨_, rfl, _, rfl, d, c, cells, n, 12, rfl, dr.same e1, by omega, by omega, by omega, fun r H2 r0 r1 D2 B2 => ?_⟩
    obtain ⟨m, hm, rfl⟩ : ∃ m : Nat, m < 12 ∧ r = (m : Int) := ⟨r.toNat, by omega, by omega⟩
    have hl2 : H2 l = some (.lst (BRANDS.map V.str)) := by rw [B2 _ ld]; exact hl
    have hb : BRANDS.length = 12 := rfl
    have hat : atI (BRANDS.map V.str) (m : Int) = some (.str (BRANDS[m]'(by omega))) := by
      unfold atI
      rw [ixN_nat (by rw [List.length_map]; omega)]
      show (List.map V.str BRANDS)[m]? = _
      rw [List.getElem?_map, List.getElem?_eq_getElem (by omega)]
      rfl
    exact ⟨l, _, (m : Int), _, rfl, rfl, sq_of hl2, hat, hq _ H2 (List.getElem_mem _) D2 fun p o hp h => by rw [B2 p hp]; exact e1 _ _ h⟩

end
end BJL

namespace BJL
open PySem PySem.Spec PyProof.Rows L2 BJ
section
variable {P : Program} {w : World} {K : PySem.W.Frag} {mg : Str → Option Value} {base : Heap} {a : Adr}
open Evl
/-- what _law_caught gives of a call -/
def TCau (a : Adr) : (XK → Hp → VK → Prop) → Hp → VK → Prop := fun tl H Q => ∀ H1, Ex H H1 → ∀ (E : XK) (Q2 : VK),
  (∀ cls d H', (∃ d' v, d = some d' ∧ ∃ nm : Str, ((cls = .ref a.BrandTaken ∧ H' d' = some (.xd [("given", v)]) ∧ nm = "taken") ∨ (cls = .ref a.InvalidTakes ∧ H' d' = some (.xd [("value", v)]) ∧ nm = "takes") ∨ (cls = .ref a.UnknownBrand ∧ H' d' = some (.xd [("given", v)]) ∧ nm = "unknown")) ∧
    ∀ p H2, H' p = none → Ex H' H2 → H2 p = some (.tup [.str nm, v]) → Q (.ref p) H2) → E cls d H') →
  (∀ v H', (∀ p H2, H' p = none → Ex H' H2 → H2 p = some (.tup [.str "returned", v]) → Q (.ref p) H2) → Q2 v H') → tl E H1 Q2
theorem ret_ifU {t : TT} {t1 t2 : TE} {D : Ends} {σ : L2.St} {H : Hp} {b : Bool} {xs : List V} (ht : EvT t σ H b) (h1 : b = true → EvU t1 σ H xs) (h2 : b = false → EvU t2 σ H xs) (k : ∀ p H1, H p = none → Ex H H1 → H1 p = some (.tup xs) → D.rt (.ref p) H1) : tRet (tIf t t1 t2) D σ H := by
  refine ht H (Ex.refl _) _ fun H1 e1 => ?_
  cases b with
  | true => exact iteT (h1 rfl H1 e1 _ fun p H2 np e2 hp => k p H2 (fresh_back e1 np) (e1.trans e2) hp)
  | false => exact iteF (h2 rfl H1 e1 _ fun p H2 np e2 hp => k p H2 (fresh_back e1 np) (e1.trans e2) hp)
theorem exm_BrandTaken (T : Txt P K mg a) : PySem.W.exmAny K (.ref a.BrandTaken) [.ref a.BrandTaken, .ref a.InvalidTakes, .ref a.UnknownBrand] = some true := by
  unfold PySem.W.exmAny PySem.W.exmAny PySem.W.exmAny PySem.W.exmAny
  rw [T.v_BrandTaken_BrandTaken, T.v_BrandTaken_InvalidTakes, T.v_BrandTaken_UnknownBrand]
  rfl
theorem exm_InvalidTakes (T : Txt P K mg a) : PySem.W.exmAny K (.ref a.InvalidTakes) [.ref a.BrandTaken, .ref a.InvalidTakes, .ref a.UnknownBrand] = some true := by
  unfold PySem.W.exmAny PySem.W.exmAny PySem.W.exmAny PySem.W.exmAny
  rw [T.v_InvalidTakes_BrandTaken, T.v_InvalidTakes_InvalidTakes, T.v_InvalidTakes_UnknownBrand]
  rfl
theorem exm_UnknownBrand (T : Txt P K mg a) : PySem.W.exmAny K (.ref a.UnknownBrand) [.ref a.BrandTaken, .ref a.InvalidTakes, .ref a.UnknownBrand] = some true := by
  unfold PySem.W.exmAny PySem.W.exmAny PySem.W.exmAny PySem.W.exmAny
  rw [T.v_UnknownBrand_BrandTaken, T.v_UnknownBrand_InvalidTakes, T.v_UnknownBrand_UnknownBrand]
  rfl
theorem caught_gives (T : Txt P K mg a) {N : List Str} {qual : Str} {sc : Scope} {fl : Addr} {cdl : Value} {A : Around} {outer : List Env} {s0 : Shared} {H0 : Hp} {E : XK} {cdg : Value} {q : Str} :
    Gives2 (cxOf (L2.CX P w) P w K mg base N qual sc fl cdl A outer s0 H0 E) ["call", "caught", "found", "e"] "_law_caught" (defScope s__law_caught) a._law_caught cdg (defBody s__law_caught) "call" q (TCau a) := by
  intro f c' s H Q tl act hc hT
  refine ⟨_, (pss_cons (ps_asg (pe_tup (pa_cons pe_non (pa_cons pe_non pa_nil))) (pg_tup rfl (pgs_cons (pg_name (i := 1) sc__law_caught.nd rfl (Or.inl rfl)) (pgs_cons (pg_name (i := 2) sc__law_caught.nd rfl (Or.inl rfl)) pgs_nil))) (by rfl))
 (pss_cons (ps_tryK (i := 3) (ts := fun a cls d => tAsg (tVar 3) (gName 1)) rfl rfl rfl sc__law_caught.nd rfl rfl (cl_three ⟨rfl, by decide, Or.inl T.g_BrandTaken⟩ ⟨rfl, by decide, Or.inl T.g_InvalidTakes⟩ ⟨rfl, by decide, Or.inl T.g_UnknownBrand⟩) tkN
 (fun W pn xe tk pn_ => (pss_one (ps_set (i := 2) sc__law_caught.nd rfl (Or.inl rfl) (act W pn xe _ _ tk))))
 (fun a oe cls d pn hz hf => (pss_one (ps_set (i := 1) sc__law_caught.nd rfl (Or.inl rfl) (pv 3)))))
 (pss_cons (ps_if (pt_cmp (pc_isN (pv 1)))
 (pss_one (ps_ret (pe_tup (pa_cons pe_str (pa_cons (pv 2) pa_nil)))))
 pss_nil)
 (pss_cons (ps_if (pt_val (pe_callB (call_isG' (K := K) rfl) (by rfl) T.b_isinstance (by decide +kernel) (pa_cons (pv 1) (pa_cons (pe_glob (v := .ref a.InvalidTakes) (by rfl) T.g_InvalidTakes rfl) pa_nil))))
 (pss_one (ps_ret (pe_tup (pa_cons pe_str (pa_cons (pe_exf (pv 1)) pa_nil)))))
 pss_nil)
 (pss_one (ps_ret (pe_ifExp (pt_val (pe_callB (call_isG' (K := K) rfl) (by rfl) T.b_isinstance (by decide +kernel) (pa_cons (pv 1) (pa_cons (pe_glob (v := .ref a.BrandTaken) (by rfl) T.g_BrandTaken rfl) pa_nil)))) (pe_tup (pa_cons pe_str (pa_cons (pe_exf (pv 1)) pa_nil))) (pe_tup (pa_cons pe_str (pa_cons (pe_exf (pv 1)) pa_nil)))))))))), ?_⟩
  have hst : L2.start ["call", "caught", "found", "e"] [.ref f] = [some (.ref f), none, none, none] := rfl
  rw [hst]
  refine ⟨(by show 2 ≤ sizeLine; decide), fun p0 n0 => ⟨p0, _, rfl, st_of upd_same, rfl, _, _, rfl, _, _, rfl, rfl, ?_⟩⟩
  refine ⟨rfl, (Ex.new n0) _ _ hc, hT _ (Ex.new n0) _ _ ?_ ?_⟩
  · rintro cls d H' ⟨d', v, rfl, nm, hcase, hq⟩
    rcases hcase with ⟨rfl, hd, rfl⟩ | ⟨rfl, hd, rfl⟩ | ⟨rfl, hd, rfl⟩
    · refine ⟨true, exm_BrandTaken T, fun _ e he => ?_, fun z => nomatch z⟩
      have hat : ExcAt (upd H' e (ExcK e (.ref a.BrandTaken) (some d'))) e a.BrandTaken d' [("given", v)] := ⟨upd_same, by rw [upd_ne (ne_of_none hd he)]; exact hd⟩
      have x0 := Ex.new (o := ExcK e (.ref a.BrandTaken) (some d')) he
      refine ⟨_, rfl, ?_⟩
      refine ⟨_, rfl, false, rfl, ?_⟩
      refine q_when (b := false) (et_B (ev_cb (ea_cons (ev_var rfl) (ea_cons ev_c ea_nil)) (rc_isE hat T.R_BrandTaken T.u_BrandTaken_InvalidTakes))) (fun z => nomatch z) fun _ H1 e1 => ret_ifU (b := true) (et_B (ev_cb (ea_cons (ev_var rfl) (ea_cons ev_c ea_nil)) (rc_isE (excAt_ex e1 hat) T.R_BrandTaken T.u_BrandTaken_BrandTaken))) (fun _ => (eu_tup (ea_cons ev_c (ea_cons (ev_exf (ev_var rfl) (excAt_ex e1 hat) T.R_BrandTaken T.n_BrandTaken_given rfl) ea_nil)) (by show 2 ≤ 100000; decide))) (fun z => nomatch z) (fun p H2 np e2 hp => hq p H2 (fresh_back (x0.trans e1) np) ((x0.trans e1).trans e2) hp)
    · refine ⟨true, exm_InvalidTakes T, fun _ e he => ?_, fun z => nomatch z⟩
      have hat : ExcAt (upd H' e (ExcK e (.ref a.InvalidTakes) (some d'))) e a.InvalidTakes d' [("value", v)] := ⟨upd_same, by rw [upd_ne (ne_of_none hd he)]; exact hd⟩
      have x0 := Ex.new (o := ExcK e (.ref a.InvalidTakes) (some d')) he
      refine ⟨_, rfl, ?_⟩
      refine ⟨_, rfl, false, rfl, ?_⟩
      refine q_when (b := true) (et_B (ev_cb (ea_cons (ev_var rfl) (ea_cons ev_c ea_nil)) (rc_isE hat T.R_InvalidTakes T.u_InvalidTakes_InvalidTakes))) (fun _ H1 e1 => s_retU (eu_tup (ea_cons ev_c (ea_cons (ev_exf (ev_var rfl) (excAt_ex e1 hat) T.R_InvalidTakes T.n_InvalidTakes_value rfl) ea_nil)) (by show 2 ≤ 100000; decide)) (fun p H2 np e2 hp => hq p H2 (fresh_back (x0.trans e1) np) ((x0.trans e1).trans e2) hp)) fun z => nomatch z
    · refine ⟨true, exm_UnknownBrand T, fun _ e he => ?_, fun z => nomatch z⟩
      have hat : ExcAt (upd H' e (ExcK e (.ref a.UnknownBrand) (some d'))) e a.UnknownBrand d' [("given", v)] := ⟨upd_same, by rw [upd_ne (ne_of_none hd he)]; exact hd⟩
      have x0 := Ex.new (o := ExcK e (.ref a.UnknownBrand) (some d')) he
      refine ⟨_, rfl, ?_⟩
      refine ⟨_, rfl, false, rfl, ?_⟩
      refine q_when (b := false) (et_B (ev_cb (ea_cons (ev_var rfl) (ea_cons ev_c ea_nil)) (rc_isE hat T.R_UnknownBrand T.u_UnknownBrand_InvalidTakes))) (fun z => nomatch z) fun _ H1 e1 => ret_ifU (b := false) (et_B (ev_cb (ea_cons (ev_var rfl) (ea_cons ev_c ea_nil)) (rc_isE (excAt_ex e1 hat) T.R_UnknownBrand T.u_UnknownBrand_BrandTaken))) (fun z => nomatch z) (fun _ => (eu_tup (ea_cons ev_c (ea_cons (ev_exf (ev_var rfl) (excAt_ex e1 hat) T.R_UnknownBrand T.n_UnknownBrand_given rfl) ea_nil)) (by show 2 ≤ 100000; decide))) (fun p H2 np e2 hp => hq p H2 (fresh_back (x0.trans e1) np) ((x0.trans e1).trans e2) hp)
  · intro v H' hq
    refine ⟨_, rfl, true, rfl, ?_⟩
    exact s_retU (eu_tup (ea_cons ev_c (ea_cons (ev_var rfl) ea_nil)) (by show 2 ≤ 100000; decide)) hq

end
end BJL

namespace BJL
open PySem PySem.Spec PyProof.Rows L2 BJ
section
variable {P : Program} {w : World} {K : PySem.W.Frag} {mg : Str → Option Value} {base : Heap} {a : Adr}
open Evl
def MANY : List V := [.int 0, .int 1, .int 20, .int 21, .int (0 - 1), .bl true, .non, .str "2"]
def VALS : List V := .non :: (MANY ++ (BRANDS ++ [("bag" : Str)]).map V.str)
def dataV : V → PyData | .bl b => .bool b | .int i => .int i | .str z => .str z | _ => .none
def scalV : V → Bool | .non => true | .bl _ => true | .int _ => true | .str _ => true | _ => false
theorem dp_scal {H : Hp} {x : V} (h : scalV x = true) : Dp K H x (dataV x) := by
  cases x with
  | non => exact .non
  | bl b => exact .bl b
  | int i => exact .int i
  | str z => exact .str z
  | _ => cases h
theorem vals_scal {x : V} (h : x ∈ VALS) : scalV x = true := List.all_eq_true.mp (show VALS.all scalV = true by decide +kernel) x h
theorem vals_brand {z : Str} (h : z ∈ BRANDS) : V.str z ∈ VALS := List.mem_cons_of_mem _ (List.mem_append_right _ (List.mem_map.mpr ⟨z, List.mem_append_left _ h, rfl⟩))
theorem vals_many {x : V} (h : x ∈ MANY) : x ∈ VALS := List.mem_cons_of_mem _ (List.mem_append_left _ h)
def NAMES : List Str := ["returned", "taken", "takes", "unknown"]
def okP (d : PyData) : Bool := (d.showable && !d.hasDict) && (decide (d.depth ≤ 40) && decide (d.shown.length ≤ 1000))
theorem okP_s {d : PyData} (h : okP d = true) : d.showable = true ∧ (d = .dict [] ∨ d.hasDict = false) ∧ d.depth ≤ 40 ∧ d.shown.length ≤ sizeLine := by
  unfold okP at h
  simp only [Bool.and_eq_true, decide_eq_true_eq, Bool.not_eq_true'] at h
  exact ⟨h.1.1, .inr h.1.2, h.2.1, Nat.le_trans h.2.2 (by decide)⟩
theorem shows_pair {nm : Str} {v : V} (hn : nm ∈ NAMES) (hv : v ∈ VALS) : okP (.tuple [.str nm, dataV v]) = true := by
  have q : NAMES.all (fun nm => VALS.all fun v => okP (.tuple [.str nm, dataV v])) = true := by decide +kernel
  exact List.all_eq_true.mp (List.all_eq_true.mp q nm hn) v hv
theorem shows_two {nm : Str} {v : V} (hn : nm ∈ NAMES) (hv : v ∈ VALS) : okP (.list [.tuple [.str nm, dataV v], .tuple [.str nm, dataV v]]) = true := by
  have q : NAMES.all (fun nm => VALS.all fun v => okP (.list [.tuple [.str nm, dataV v], .tuple [.str nm, dataV v]])) = true := by decide +kernel
  exact List.all_eq_true.mp (List.all_eq_true.mp q nm hn) v hv
/-- what is known of the brands agrees with the rules -/
def RlOk (K : PySem.W.Frag) (H : Hp) (kvs kns : List (Key × V)) : Prop := kvs.map (·.1) = kns.map (·.1) ∧ ∀ k v, valV kns k = some v → ∃ t x y z, valV kvs k = some (.ref t) ∧ SqT K H t [x, y, v, z]
theorem val_none {κ : Type} [DecidableEq κ] {l l' : List (κ × V)} {k : κ} (h : l.map (·.1) = l'.map (·.1)) (hv : valV l k = none) : valV l' k = none := by
  cases e : valV l' k with
  | none => rfl
  | some v =>
    have := valV_in e
    rw [← h] at this
    exact (valV_not hv this).elim
theorem val_some {κ : Type} [DecidableEq κ] {l l' : List (κ × V)} {k : κ} {v : V} (h : l.map (·.1) = l'.map (·.1)) (hv : valV l k = some v) : ∃ v', valV l' k = some v' := by
  cases e : valV l' k with
  | some v' => exact ⟨v', rfl⟩
  | none =>
    rw [val_none h.symm e] at hv
    cases hv
theorem RlOk.put {H : Hp} {kvs kns : List (Key × V)} {k : Key} {v : V} {t : Addr} {x y z : V} (h : RlOk K H kvs kns) (hv : valV kns k = none) (ht : SqT K H t [x, y, v, z]) : RlOk K H (putK kvs k (.ref t)) (putK kns k v) := by
  have hv2 := val_none h.1.symm hv
  refine ⟨?_, fun j u hj => ?_⟩
  · rw [putK_new _ hv, putK_new _ hv2, List.map_append, List.map_append, h.1]
    rfl
  · rw [valV_put] at hj
    rw [valV_put]
    split at hj
    · rename_i e
      cases hj
      exact ⟨t, x, y, z, by rw [if_pos e], ht⟩
    · rename_i e
      obtain ⟨t', x', y', z', h1, h2⟩ := h.2 j u hj
      exact ⟨t', x', y', z', by rw [if_neg e]; exact h1, h2⟩
theorem drop_keys (l : List (Key × V)) (k : Key) : (dropK l k).map (·.1) = (l.map (·.1)).filter fun x => decide (x ≠ k) := by
  unfold dropK
  rw [List.filter_map]
  rfl
theorem val_drop (k j : Key) : ∀ l : List (Key × V), valV (dropK l k) j = if j = k then none else valV l j
  | [] => by
    show valV [] j = _
    rw [valV_nil]
    split <;> rfl
  | p :: r => by
    have ih := val_drop k j r
    by_cases e : p.1 = k
    · rw [dropK_pos e, ih]
      split
      · rfl
      · rename_i hne
        rw [valV_neg (fun z => hne (z.symm.trans e))]
    · rw [dropK_neg e]
      by_cases e2 : p.1 = j
      · rw [valV_pos e2, valV_pos e2, if_neg (fun z => e (e2.trans z))]
      · rw [valV_neg e2, valV_neg e2, ih]
theorem RlOk.drop {H : Hp} {kvs kns : List (Key × V)} {k : Key} (h : RlOk K H kvs kns) : RlOk K H (dropK kvs k) (dropK kns k) := by
  refine ⟨by rw [drop_keys, drop_keys, h.1], fun j u hj => ?_⟩
  rw [val_drop] at hj
  rw [val_drop]
  split at hj
  · cases hj
  · rename_i e
    obtain ⟨t', x', y', z', h1, h2⟩ := h.2 j u hj
    exact ⟨t', x', y', z', by rw [if_neg e]; exact h1, h2⟩
theorem drop_put (l : List (Key × V)) (k : Key) (v : V) : dropK (putK l k v) k = dropK l k := by
  unfold putK
  split
  · induction l with
    | nil => rfl
    | cons p r ih =>
      rw [List.map_cons]
      by_cases e : p.1 = k
      · have ih2 : dropK (List.map (fun kv => if kv.1 = k then (kv.1, v) else kv) r) k = dropK r k := by
          by_cases ha : (r.any fun kv => decide (kv.1 = k)) = true
          · exact ih ha
          · have : r.map (fun kv => if kv.1 = k then (kv.1, v) else kv) = r := by
              conv => rhs; rw [← List.map_id r]
              refine List.map_congr_left fun q hq => ?_
              rw [if_neg fun z => ha (List.any_eq_true.mpr ⟨q, hq, decide_eq_true z⟩)]
              rfl
            rw [this]
        rw [if_pos e, dropK_pos (p := (p.1, v)) e, dropK_pos e, ih2]
      · rename_i ha
        rw [List.any_cons, decide_eq_false e, Bool.false_or] at ha
        rw [if_neg e, dropK_neg e, dropK_neg e, ih ha]
  · unfold dropK
    rw [List.filter_append]
    simp
theorem nd_drop {l : List (Key × V)} {k : Key} (nd : (l.map (·.1)).Nodup) : ((dropK l k).map (·.1)).Nodup := by
  rw [drop_keys]
  exact List.Pairwise.sublist List.filter_sublist nd
/-- all but the places L and the tables stands -/
def Fr (L : List Addr) (H H' : Hp) : Prop := ∀ p o, p ∉ L → (∀ ps, o ≠ .tbl ps) → H p = some o → H' p = some o
theorem Fr.ex {L : List Addr} {H H' : Hp} (e : Ex H H') : Fr L H H' := fun p o _ _ h => e p o h
theorem Fr.extN {L : List Addr} {H H' : Hp} (e : LamX.ExtN H H') : Fr L H H' := fun p o _ n h => e p o h n
theorem Fr.trans {L : List Addr} {H H1 H2 : Hp} (a : Fr L H H1) (b : Fr L H1 H2) : Fr L H H2 := fun p o n t h => b p o n t (a p o n t h)
theorem Fr.sb {L : List Addr} {d : Addr} {H H' : Hp} (b : SameBut d H H') (hd : d ∈ L) : Fr L H H' := fun p o n _ h => b p o (fun z => n (z ▸ hd)) h
theorem Fr.upd {L : List Addr} {d : Addr} {H : Hp} {o : HO} (hd : d ∈ L) : Fr L H (upd H d o) := fun p u n _ h => by
  have q : p ≠ d := fun z => n (by rw [z]; exact hd)
  rw [upd_ne q]
  exact h
theorem Fr.mono {L L' : List Addr} {H H' : Hp} (b : Fr L H H') (h : ∀ p ∈ L, p ∈ L') : Fr L' H H' := fun p o n t q => b p o (fun z => n (h p z)) t q
/-- each place of L holds a dict -/
def Dks (L : List Addr) (H : Hp) : Prop := ∀ p ∈ L, ∃ kvs, H p = some (.dK kvs)
theorem fr_sqT {L : List Addr} {H H' : Hp} {p : Addr} {xs : List V} (b : Fr L H H') (hL : Dks L H) (h : SqT K H p xs) : SqT K H' p xs := by
  have off : ∀ {o}, H p = some o → (∀ kvs, o ≠ .dK kvs) → p ∉ L := fun ho h1 hm => by
    obtain ⟨kvs, q⟩ := hL p hm
    rw [ho] at q; cases q; exact h1 _ rfl
  rcases h with (h | ⟨o, h⟩) | h
  · exact .inl (.inl (b p _ (off h (fun _ z => nomatch z)) (fun _ z => nomatch z) h))
  · exact .inl (.inr ⟨o, b p _ (off h (fun _ z => nomatch z)) (fun _ z => nomatch z) h⟩)
  · exact .inr h
theorem fr_ins {L : List Addr} {H H' : Hp} {p C dx : Addr} {fs : List (Str × V)} (b : Fr L H H') (hL : Dks L H) (h : H p = some (.ins C dx fs)) : H' p = some (.ins C dx fs) :=
  b p _ (fun hm => by obtain ⟨kvs, q⟩ := hL p hm; rw [h] at q; cases q) (fun _ z => nomatch z) h
theorem fr_lst {L : List Addr} {H H' : Hp} {p : Addr} {xs : List V} (b : Fr L H H') (hL : Dks L H) (h : H p = some (.lst xs)) : H' p = some (.lst xs) :=
  b p _ (fun hm => by obtain ⟨kvs, q⟩ := hL p hm; rw [h] at q; cases q) (fun _ z => nomatch z) h
theorem fr_tup {L : List Addr} {H H' : Hp} {p : Addr} {xs : List V} (b : Fr L H H') (hL : Dks L H) (h : H p = some (.tup xs)) : H' p = some (.tup xs) :=
  b p _ (fun hm => by obtain ⟨kvs, q⟩ := hL p hm; rw [h] at q; cases q) (fun _ z => nomatch z) h
theorem fr_rl {L : List Addr} {H H' : Hp} {kvs kns : List (Key × V)} (b : Fr L H H') (hL : Dks L H) (h : RlOk K H kvs kns) : RlOk K H' kvs kns := ⟨h.1, fun k v hv => by
  obtain ⟨t, x, y, z, h1, h2⟩ := h.2 k v hv
  exact ⟨t, x, y, z, h1, fr_sqT b hL h2⟩⟩
/-- a registry and the law's own list of it -/
structure Bk (K : PySem.W.Frag) (a : Adr) (H : Hp) (p rd kd : Addr) (kvs kns : List (Key × V)) : Prop where
  rg : RgAt a H p rd kvs
  kn : H kd = some (.dK kns)
  ok : RlOk K H kvs kns
  ks : ∀ kn ∈ kns, (∃ z ∈ BRANDS, kn.1 = .inr z) ∧ (kn.2 = .int 0 ∨ kn.2 = .int 1 ∨ kn.2 = .int 20)
  nd : (kns.map (·.1)).Nodup
  ne : rd ≠ kd
/-- it stands where neither its dicts nor what they hold changes -/
theorem Bk.fr {L : List Addr} {H H' : Hp} {p rd kd : Addr} {kvs kns : List (Key × V)} (h : Bk K a H p rd kd kvs kns) (b : Fr L H H') (hL : Dks L H) (h1 : rd ∉ L) (h2 : kd ∉ L) : Bk K a H' p rd kd kvs kns := by
  obtain ⟨⟨⟨dx, hp⟩, hrd⟩, hk, ok, ks, nd, ne⟩ := h
  exact ⟨⟨⟨dx, fr_ins b hL hp⟩, b _ _ h1 (fun _ z => nomatch z) hrd⟩, b _ _ h2 (fun _ z => nomatch z) hk, fr_rl b hL ok, ks, nd, ne⟩
theorem Bk.ex {H H' : Hp} {p rd kd : Addr} {kvs kns : List (Key × V)} (h : Bk K a H p rd kd kvs kns) (e : Ex H H') : Bk K a H' p rd kd kvs kns := h.fr (L := []) (Fr.ex e) (fun _ z => nomatch z) (fun z => nomatch z) (fun z => nomatch z)
theorem Bk.extN {H H' : Hp} {p rd kd : Addr} {kvs kns : List (Key × V)} (h : Bk K a H p rd kd kvs kns) (e : LamX.ExtN H H') : Bk K a H' p rd kd kvs kns := h.fr (L := []) (Fr.extN e) (fun _ z => nomatch z) (fun z => nomatch z) (fun z => nomatch z)
theorem key_fit {z : Str} (h : z ∈ BRANDS) : Fits (.str z) := brand_fits h

end
end BJL

namespace BJL
open PySem PySem.Spec PyProof.Rows L2 BJ
section
variable {P : Program} {w : World} {K : PySem.W.Frag} {mg : Str → Option Value} {base : Heap} {a : Adr}
open Evl
open LamX
theorem two_hd {P P2 : Addr} {q q2 : Str} (ne : P ≠ P2) : ∀ p ∈ [(P, q), (P2, q2)], p.1 = P → p.2 = q := fun p hp e => by
  rcases List.mem_cons.mp hp with rfl | hp
  · rfl
  · rw [List.mem_singleton.mp hp] at e
    exact (ne e.symm).elim
theorem two_tl {P P2 : Addr} {q q2 : Str} (ne : P2 ≠ P) : ∀ p ∈ [(P2, q2), (P, q)], p.1 = P → p.2 = q := fun p hp e => by
  rcases List.mem_cons.mp hp with rfl | hp
  · exact (ne e).elim
  · rw [List.mem_singleton.mp hp]
theorem et_din {i j : Nat} {kd : Addr} {l : List (Key × V)} {z : Str} {σ : L2.St} {H : Hp} (h1 : σ[i]? = some (some (.str z))) (h2 : σ[j]? = some (some (.ref kd))) (h : H kd = some (.dK l)) : EvT (tB (tDIn (tVar i) (tVar j))) σ H (valV l (.inr z)).isSome := fun H1 e Q q =>
  ⟨_, h1, _, h2, kd, _, rfl, DGet.k (k := .inr z) (e _ _ h), _, rfl, q H1 (Ex.refl _)⟩
theorem asg_if {t : TT} {t1 t2 : TE} {i : Nat} {D : Ends} {σ : L2.St} {H : Hp} {b : Bool} (ht : EvT t σ H b) (h1 : b = true → ∀ H1, Ex H H1 → tAsg t1 (gName i) D σ H1) (h2 : b = false → ∀ H1, Ex H H1 → tAsg t2 (gName i) D σ H1) : tAsg (tIf t t1 t2) (gName i) D σ H := by
  refine ht H (Ex.refl _) _ fun H1 e1 => ?_
  cases b with
  | true => exact iteT (h1 rfl H1 e1)
  | false => exact iteF (h2 rfl H1 e1)
/-- what stands between the law's calls -/
structure Cs (K : PySem.W.Frag) (a : Adr) (TT : List (Addr × Str)) (d c : Addr) (cells : List Int) (n : Nat) (p rd kd : Addr) (kvs kns : List (Key × V)) (H : Hp) : Prop where
  dr : Dr H d c cells n
  bk : Bk K a H p rd kd kvs kns
  tb : Tabs TT H
  d1 : d ≠ rd
  d2 : d ≠ kd
section
variable {TT : List (Addr × Str)} {d c : Addr} {cells : List Int} {n : Nat} {p rd kd : Addr} {kvs kns kvs' kns' : List (Key × V)} {H H' : Hp}
theorem Cs.ex (h : Cs K a TT d c cells n p rd kd kvs kns H) (e : Ex H H') : Cs K a TT d c cells n p rd kd kvs kns H' := ⟨h.dr.same e, h.bk.ex e, h.tb.ext e, h.d1, h.d2⟩
theorem Cs.extN (h : Cs K a TT d c cells n p rd kd kvs kns H) (e : ExtN H H') (tb : Tabs TT H') : Cs K a TT d c cells n p rd kd kvs kns H' := ⟨h.dr.extN e, h.bk.extN e, tb, h.d1, h.d2⟩
theorem dr_upd {q : Addr} {l : List (Key × V)} (D : Dr H d c cells n) (h : H q = some (.dK l)) (hd : d ≠ q) {l' : List (Key × V)} : Dr (upd H q (.dK l')) d c cells n := by
  obtain ⟨⟨x, y, z, h1, h2⟩, hl, hn, hz⟩ := D
  exact ⟨⟨x, y, z, by rw [upd_ne hd]; exact h1, h2⟩, by rw [upd_ne (ne_of hl h fun z => nomatch z)]; exact hl, hn, hz⟩
theorem tb_upd {q : Addr} {l l' : List (Key × V)} (t : Tabs TT H) (h : H q = some (.dK l)) : Tabs TT (upd H q (.dK l')) := Tabs.but t h (SameBut.of_upd)
where SameBut.of_upd {q : Addr} {H : Hp} {o : HO} : SameBut q H (upd H q o) := fun _ _ hp h => by rw [upd_ne hp]; exact h
theorem ex_dk {q : Addr} {l : List (Key × V)} (h : H q = some (.dK l)) : Ex H (upd H q (.dK l)) := fun b o hb => by
  by_cases e : b = q
  · rw [e] at hb ⊢
    rw [h] at hb
    cases hb
    exact upd_same
  · rw [upd_ne e]; exact hb
/-- the registry's dict and the law's own change alike -/
theorem Cs.both (h : Cs K a TT d c cells n p rd kd kvs kns H) (ok : RlOk K H kvs' kns') (ks : ∀ kn ∈ kns', (∃ z ∈ BRANDS, kn.1 = .inr z) ∧ (kn.2 = .int 0 ∨ kn.2 = .int 1 ∨ kn.2 = .int 20)) (nd : (kns'.map (·.1)).Nodup) (e : Ex (upd H rd (.dK kvs')) H') :
    Cs K a TT d c cells n p rd kd kvs' kns' (upd H' kd (.dK kns')) ∧ Fr [rd, kd] H (upd H' kd (.dK kns')) := by
  obtain ⟨dr, bk, tb, d1, d2⟩ := h
  obtain ⟨rg, hk, _, _, _, ne⟩ := bk
  have hk1 : (upd H rd (.dK kvs')) kd = some (.dK kns) := by rw [upd_ne ne.symm]; exact hk
  have f1 : Fr [rd, kd] H (upd H rd (.dK kvs')) := Fr.upd (List.Mem.head _)
  have f2 : Fr [rd, kd] H H' := f1.trans (Fr.ex e)
  have f3 : Fr [rd, kd] H (upd H' kd (.dK kns')) := f2.trans (Fr.upd (List.Mem.tail _ (List.Mem.head _)))
  have hL : Dks [rd, kd] H := fun q hq => by
    rcases List.mem_cons.mp hq with rfl | hq
    · exact ⟨_, rg.dict⟩
    · rw [List.mem_singleton.mp hq]; exact ⟨_, hk⟩
  refine ⟨⟨?_, ⟨⟨?_, ?_⟩, upd_same, fr_rl f3 hL ok, ks, nd, ne⟩, ?_, d1, d2⟩, f3⟩
  · exact dr_upd ((dr_upd dr rg.dict d1).same e) (e _ _ hk1) d2
  · obtain ⟨dx, hp⟩ := rg.at_
    exact ⟨dx, fr_ins f3 hL hp⟩
  · rw [upd_ne ne]
    exact e _ _ upd_same
  · exact tb_upd ((tb_upd tb rg.dict).ext e) (e _ _ hk1)
/-- nothing changes but what is new -/
theorem Cs.same_kd (h : Cs K a TT d c cells n p rd kd kvs kns H) : Cs K a TT d c cells n p rd kd kvs kns (upd H kd (.dK kns)) := h.ex (ex_dk h.bk.kn)
end
/-- behind a call: told and due -/
structure CrP (K : PySem.W.Frag) (a : Adr) (TT : List (Addr × Str)) (d c : Addr) (cells : List Int) (n : Nat) (p rd kd : Addr) (kns : List (Key × V)) (H H' : Hp) (kvs' kns' : List (Key × V)) (tp dp : Addr) (nm : Str) (v : V) : Prop where
  cs : Cs K a TT d c cells n p rd kd kvs' kns' H'
  le : kns'.length ≤ kns.length + 1
  fr : Fr [rd, kd] H H'
  t1 : H' tp = some (.tup [.str nm, v])
  t2 : H' dp = some (.tup [.str nm, v])
  hn : nm ∈ NAMES
  hv : v ∈ VALS
abbrev crN : List Str := ["draw", "book", "known", "word", "way", "many", "due", "told"]
abbrev crX (P : Program) (w : World) (K : PySem.W.Frag) (mg : Str → Option Value) (base : Heap) (a : Adr) (A : Around) (outer : List Env) (s : Shared) (H : Hp) (E : XK) : Cx := cxOf (L2.CX P w) P w K mg base BJL.crN "_law_call_right" (defScope s__law_call_right) a._law_call_right (.ref a.lcode_law_call_right) A outer s H E
abbrev crB (i : Nat) : Stmt := (defBody s__law_call_right).getD i (.Pass ⟨0, 0, 0, 0⟩)
def ifB : Stmt → List Stmt | .If _ b _ _ => b | _ => []
def ifO : Stmt → List Stmt | .If _ _ o _ => o | _ => []
/-- keys and values as the law wants them -/
theorem ks_put {kns : List (Key × V)} {z : Str} {v : V} (h : ∀ kn ∈ kns, (∃ z ∈ BRANDS, kn.1 = .inr z) ∧ (kn.2 = .int 0 ∨ kn.2 = .int 1 ∨ kn.2 = .int 20)) (hz : z ∈ BRANDS) (hv : v = .int 0 ∨ v = .int 1 ∨ v = .int 20) :
    ∀ kn ∈ putK kns (.inr z) v, (∃ z ∈ BRANDS, kn.1 = .inr z) ∧ (kn.2 = .int 0 ∨ kn.2 = .int 1 ∨ kn.2 = .int 20) := fun kn hm => by
  rcases put_mem hm with rfl | hm
  · exact ⟨⟨z, hz, rfl⟩, hv⟩
  · exact h kn hm
theorem len_of {K : PySem.W.Frag} {H : Hp} {kvs kns : List (Key × V)} (h : RlOk K H kvs kns) : kvs.length = kns.length := by
  have := congrArg List.length h.1
  rwa [List.length_map, List.length_map] at this
theorem cr_allow (T : Txt P K mg a) (TB : TabB base mg a.lcode_law_call_right a.tab_law_call_right) {A : Around} {outer : List Env} {s : Shared} {H0 : Hp} {E : XK} {q2 : Str} (hr : Room 22 (A.deeper (envOfC "_law_call_right" (defScope s__law_call_right) s.heap.objs.size a._law_call_right (.ref a.lcode_law_call_right)))) (hG0 : A.guards = some []) :
    ∃ tr, PSs (crX P w K mg base a A outer s H0 E) (ifB (crB 2)) tr ∧ ∀ (D : Ends) (H : Hp) (d c : Addr) (cells : List Int) (n : Nat) (p rd kd : Addr) (kvs kns : List (Key × V)) (z : Str) (wy : V) (mv : V) (dp0 : Addr), Cs K a [(a.tab_law_call_right, (crX P w K mg base a A outer s H0 E).env.qual ++ ("<lambda>" : Str)), (a.tab_law_read_right, q2)] d c cells n p rd kd kvs kns H → kns.length ≤ 60 → z ∈ BRANDS → mv ∈ MANY → H dp0 = some (.tup [.str "returned", .non]) → 
      (∀ H' kvs' kns' tp dp nm v, CrP K a [(a.tab_law_call_right, (crX P w K mg base a A outer s H0 E).env.qual ++ ("<lambda>" : Str)), (a.tab_law_read_right, q2)] d c cells n p rd kd kns H H' kvs' kns' tp dp nm v → D.nx [some (.ref d), some (.ref p), some (.ref kd), some (.str z), some wy, some mv, some (.ref dp), some (.ref tp)] H') →
      tr D [some (.ref d), some (.ref p), some (.ref kd), some (.str z), some wy, some mv, some (.ref dp0), some .non] H := by
  obtain ⟨fdm, Fm, hb__law_caught⟩ := T.d__law_caught.fn
  obtain ⟨ocm, odm, kVm, docm, pmm, anm, cdm, ctm, oslm, rfl, lk__law_caught, hc__law_caught⟩ := Fm.ex
  have GM_Registry_allow_brand := ok_allow_kw (P := P) (w := w) (base := base) (mg := mg) T
  have hu := hu_of hr
  refine ⟨_, (pss_cons (ps_set (i := 7) sc__law_call_right.nd rfl (Or.inl rfl) (pe_lam2 (T := [(a.tab_law_call_right, _), (a.tab_law_read_right, q2)]) (TT := TCau a) (c := a.lcode_law_call_right) (P := a.tab_law_call_right) (k := 14) (by rfl) T.g__law_caught T.k__law_caught lk__law_caught hc__law_caught hb__law_caught sc__law_caught rfl (Or.inl rfl) (caught_gives T) TB rfl (List.Mem.head _) (two_hd T.tabne) (hr.mono (by decide)) (lamS_by (by show lamSB (defScope s__law_call_right) _ = true; decide +kernel)) rfl (fun _ _ _ _ _ => rfl) (fun E A outer s H f c' hr => (pe_mo0 T.c_Registry T.p_Registry_allow GM_Registry_allow_brand (hr.mono (by decide)) (pv 1) (takes_of rfl rfl rfl rfl) (pk_cons (pv 3) pk_nil)))))
 (pss_cons (ps_set (i := 6) sc__law_call_right.nd rfl (Or.inl rfl) (pe_ifExp (pt_cmp (pc_din hu (pv 3) (pv 2))) (pe_tup (pa_cons pe_str (pa_cons (pv 3) pa_nil))) (pv 6)))
 (pss_one (ps_dput hu (pv 2) (pv 3) (pe_dget2 hu (pv 2) (pv 3) pe_int ⟨rfl, rfl, rfl, rfl⟩) rfl)))), ?_⟩
  generalize (crX P w K mg base a A outer s H0 E).env.qual ++ ("<lambda>" : Str) = lq
  intro D H d c cells n p rd kd kvs kns z wy mv dp0 hcs hl hz hmv hdp k
  refine ⟨hcs.tb, fun H1 eN tb1 => ?_⟩
  have cs1 := hcs.extN eN tb1
  have dp1 : H1 dp0 = some (.tup [.str "returned", .non]) := eN _ _ hdp (fun _ z => nomatch z)
  intro H2 e2 E2 Q2 hE hQ
  have cs2 := cs1.ex e2
  obtain ⟨dx, hp2⟩ := cs2.bk.rg.at_
  refine ⟨_, rfl, p, dx, _, rfl, hp2, rfl, _, rfl, rfl, rfl, p, rd, kvs, z, rfl, hz, cs2.bk.rg, (by have := len_of cs2.bk.ok; omega), ?_⟩
  have f2 : Fr [rd, kd] H H2 := (Fr.extN eN).trans (Fr.ex e2)
  cases hv : valV kns (.inr z) with
  | none =>
    refine .inl ⟨val_none cs2.bk.ok.1.symm hv, fun H3 e3 => hQ .non _ fun tp H4 ntp e4 h4 => ?_⟩
    have cs3 := cs2.ex e3
    have hk4 : H4 kd = some (.dK kns) := e4 _ _ (by rw [upd_ne cs3.bk.ne.symm]; exact cs3.bk.kn)
    refine asg_if (et_din (i := 3) (j := 2) rfl rfl hk4) (fun h => by rw [hv] at h; cases h) fun _ H5 e5 => ⟨_, rfl, ?_⟩
    refine ⟨_, rfl, kd, rfl, .inl ⟨_, .inl (e5 _ _ hk4)⟩, _, rfl, _, DGet.k (k := .inr z) (e5 _ _ hk4), ?_⟩
    rw [hv]
    refine ⟨_, rfl, _, rfl, kd, _, rfl, DPut.k (k := .inr z) (e5 _ _ hk4) (small1000 (by omega)), ?_⟩
    obtain ⟨cs5, fr5⟩ := cs3.both (kns' := putK kns (.inr z) (.int 0)) (cs3.bk.ok.put hv (rowN_at T.norules H3)) (ks_put cs3.bk.ks hz (.inl rfl)) (put_nd cs3.bk.nd) (e4.trans e5)
    have hL3 : Dks [rd, kd] H3 := fun q hq => by
      rcases List.mem_cons.mp hq with rfl | hq
      · exact ⟨_, cs3.bk.rg.dict⟩
      · rw [List.mem_singleton.mp hq]; exact ⟨_, cs3.bk.kn⟩
    refine k _ _ _ tp dp0 "returned" .non ⟨cs5, putK_le _ _ _, (f2.trans (Fr.ex e3)).trans fr5, ?_, fr_tup fr5 hL3 (e3 _ _ (e2 _ _ dp1)), by decide, List.Mem.head _⟩
    rw [upd_ne (ne_of (e5 _ _ h4) (e5 _ _ hk4) fun z => nomatch z)]
    exact e5 _ _ h4
  | some v =>
    refine .inr ⟨val_some cs2.bk.ok.1.symm hv, fun dd H3 nd e3 hx => hE _ _ H3 ⟨dd, .str z, rfl, "taken", .inl ⟨rfl, hx, rfl⟩, fun tp H4 ntp e4 h4 => ?_⟩⟩
    have cs4 := (cs2.ex e3).ex e4
    refine asg_if (et_din (i := 3) (j := 2) rfl rfl cs4.bk.kn) (fun _ H5 e5 => ?_) fun h => by rw [hv] at h; cases h
    refine ⟨_, rfl, (by show 2 ≤ sizeLine; decide), fun dp nd5 => ?_⟩
    have e6 := e5.trans (Ex.new (o := .tup [.str "taken", .str z]) nd5)
    have cs6 := cs4.ex e6
    refine ⟨_, rfl, kd, rfl, .inl ⟨_, .inl cs6.bk.kn⟩, _, rfl, _, DGet.k (k := .inr z) cs6.bk.kn, ?_⟩
    rw [hv]
    refine ⟨_, rfl, _, rfl, kd, _, rfl, DPut.k (k := .inr z) cs6.bk.kn (small1000 (by omega)), ?_⟩
    rw [show (some v).getD (V.int 0) = v from rfl, put_same cs6.bk.nd hv]
    have e7 := ex_dk cs6.bk.kn
    exact k _ _ _ tp dp "taken" (.str z) ⟨cs6.same_kd, by omega, f2.trans (Fr.ex (((e3.trans e4).trans e6).trans e7)), e7 _ _ (e6 _ _ h4), e7 _ _ upd_same, by decide, vals_brand hz⟩

end
end BJL

namespace BJL
open PySem PySem.Spec PyProof.Rows L2 BJ
section
variable {P : Program} {w : World} {K : PySem.W.Frag} {mg : Str → Option Value} {base : Heap} {a : Adr}
open Evl
open LamX
theorem upd_two {H : Hp} {p : Addr} {o o' : HO} : upd (upd H p o) p o' = upd H p o' := by
  funext b
  by_cases e : b = p
  · rw [e, upd_same, upd_same]
  · rw [upd_ne e, upd_ne e, upd_ne e]
theorem dks_of {TT : List (Addr × Str)} {d c : Addr} {cells : List Int} {n : Nat} {p rd kd : Addr} {kvs kns : List (Key × V)} {H : Hp} (h : Cs K a TT d c cells n p rd kd kvs kns H) : Dks [rd, kd] H := fun q hq => by
  rcases List.mem_cons.mp hq with rfl | hq
  · exact ⟨_, h.bk.rg.dict⟩
  · rw [List.mem_singleton.mp hq]; exact ⟨_, h.bk.kn⟩
theorem cr_forget (T : Txt P K mg a) (TB : TabB base mg a.lcode_law_call_right a.tab_law_call_right) {A : Around} {outer : List Env} {s : Shared} {H0 : Hp} {E : XK} {q2 : Str} (hr : Room 22 (A.deeper (envOfC "_law_call_right" (defScope s__law_call_right) s.heap.objs.size a._law_call_right (.ref a.lcode_law_call_right)))) (hG0 : A.guards = some []) :
    ∃ tr, PSs (crX P w K mg base a A outer s H0 E) (ifB ((ifO (crB 2)).getD 0 (.Pass ⟨0, 0, 0, 0⟩))) tr ∧ ∀ (D : Ends) (H : Hp) (d c : Addr) (cells : List Int) (n : Nat) (p rd kd : Addr) (kvs kns : List (Key × V)) (z : Str) (wy : V) (mv : V) (dp0 : Addr), Cs K a [(a.tab_law_call_right, (crX P w K mg base a A outer s H0 E).env.qual ++ ("<lambda>" : Str)), (a.tab_law_read_right, q2)] d c cells n p rd kd kvs kns H → kns.length ≤ 60 → z ∈ BRANDS → mv ∈ MANY → H dp0 = some (.tup [.str "returned", .non]) → 
      (∀ H' kvs' kns' tp dp nm v, CrP K a [(a.tab_law_call_right, (crX P w K mg base a A outer s H0 E).env.qual ++ ("<lambda>" : Str)), (a.tab_law_read_right, q2)] d c cells n p rd kd kns H H' kvs' kns' tp dp nm v → D.nx [some (.ref d), some (.ref p), some (.ref kd), some (.str z), some wy, some mv, some (.ref dp), some (.ref tp)] H') →
      tr D [some (.ref d), some (.ref p), some (.ref kd), some (.str z), some wy, some mv, some (.ref dp0), some .non] H := by
  obtain ⟨fdm, Fm, hb__law_caught⟩ := T.d__law_caught.fn
  obtain ⟨ocm, odm, kVm, docm, pmm, anm, cdm, ctm, oslm, rfl, lk__law_caught, hc__law_caught⟩ := Fm.ex
  have GM_Registry_forget_brand := ok_forget_kw (P := P) (w := w) (base := base) (mg := mg) T
  have hu := hu_of hr
  refine ⟨_, (pss_cons (ps_set (i := 7) sc__law_call_right.nd rfl (Or.inl rfl) (pe_lam2 (T := [(a.tab_law_call_right, _), (a.tab_law_read_right, q2)]) (TT := TCau a) (c := a.lcode_law_call_right) (P := a.tab_law_call_right) (k := 14) (by rfl) T.g__law_caught T.k__law_caught lk__law_caught hc__law_caught hb__law_caught sc__law_caught rfl (Or.inl rfl) (caught_gives T) TB rfl (List.Mem.head _) (two_hd T.tabne) (hr.mono (by decide)) (lamS_by (by show lamSB (defScope s__law_call_right) _ = true; decide +kernel)) rfl (fun _ _ _ _ _ => rfl) (fun E A outer s H f c' hr => (pe_mo0 T.c_Registry T.p_Registry_forget GM_Registry_forget_brand (hr.mono (by decide)) (pv 1) (takes_of rfl rfl rfl rfl) (pk_cons (pv 3) pk_nil)))))
 (pss_cons (ps_set (i := 6) sc__law_call_right.nd rfl (Or.inl rfl) (pe_ifExp (pt_cmp (pc_din hu (pv 3) (pv 2))) (pv 6) (pe_tup (pa_cons pe_str (pa_cons (pv 3) pa_nil)))))
 (pss_cons (ps_dput hu (pv 2) (pv 3) pe_int rfl)
 (pss_one (ps_expr (pe_bm PySem.F.plainAttrs_dict PySem.F.slot_dict_pop PySem.F.type_dict_pop mt_popK (pv 2) (pa_cons (pv 3) pa_nil))))))), ?_⟩
  generalize (crX P w K mg base a A outer s H0 E).env.qual ++ ("<lambda>" : Str) = lq
  intro D H d c cells n p rd kd kvs kns z wy mv dp0 hcs hl hz hmv hdp k
  refine ⟨hcs.tb, fun H1 eN tb1 => ?_⟩
  have cs1 := hcs.extN eN tb1
  have dp1 : H1 dp0 = some (.tup [.str "returned", .non]) := eN _ _ hdp (fun _ z => nomatch z)
  intro H2 e2 E2 Q2 hE hQ
  have cs2 := cs1.ex e2
  obtain ⟨dx, hp2⟩ := cs2.bk.rg.at_
  refine ⟨_, rfl, p, dx, _, rfl, hp2, rfl, _, rfl, rfl, rfl, p, rd, kvs, z, rfl, cs2.bk.rg, ?_⟩
  have f2 : Fr [rd, kd] H H2 := (Fr.extN eN).trans (Fr.ex e2)
  cases hv : valV kns (.inr z) with
  | some v =>
    refine .inl ⟨val_some cs2.bk.ok.1.symm hv, fun H3 e3 => hQ .non _ fun tp H4 ntp e4 h4 => ?_⟩
    have cs3 := cs2.ex e3
    have hk4 : H4 kd = some (.dK kns) := e4 _ _ (by rw [upd_ne cs3.bk.ne.symm]; exact cs3.bk.kn)
    refine asg_if (et_din (i := 3) (j := 2) rfl rfl hk4) (fun _ H5 e5 => ⟨_, rfl, ?_⟩) fun h => by rw [hv] at h; cases h
    refine ⟨_, rfl, _, rfl, kd, _, rfl, DPut.k (k := .inr z) (e5 _ _ hk4) (small1000 (by omega)), ?_⟩
    refine ⟨_, rfl, .inr (.inr (.inl ⟨rfl, .inl ⟨_, upd_same⟩⟩)), _, rfl, kd, _, .inr z, .int 0, rfl, rfl, upd_same, by rw [valV_put, if_pos rfl], ?_⟩
    rw [upd_two, drop_put]
    obtain ⟨cs5, fr5⟩ := cs3.both (kns' := dropK kns (.inr z)) (cs3.bk.ok.drop (k := .inr z)) (fun kn hm => cs3.bk.ks kn (dropK_mem hm)) (nd_drop cs3.bk.nd) (e4.trans e5)
    refine k _ _ _ tp dp0 "returned" .non ⟨cs5, by have := dropK_le kns (.inr z); omega, (f2.trans (Fr.ex e3)).trans fr5, ?_, fr_tup fr5 (dks_of cs3) (e3 _ _ (e2 _ _ dp1)), by decide, List.Mem.head _⟩
    rw [upd_ne (ne_of (e5 _ _ h4) (e5 _ _ hk4) fun z => nomatch z)]
    exact e5 _ _ h4
  | none =>
    refine .inr ⟨val_none cs2.bk.ok.1.symm hv, fun dd H3 nd e3 hx => hE _ _ H3 ⟨dd, .str z, rfl, "unknown", .inr (.inr ⟨rfl, hx, rfl⟩), fun tp H4 ntp e4 h4 => ?_⟩⟩
    have cs4 := (cs2.ex e3).ex e4
    refine asg_if (et_din (i := 3) (j := 2) rfl rfl cs4.bk.kn) (fun h => by rw [hv] at h; cases h) fun _ H5 e5 => ?_
    refine ⟨_, rfl, (by show 2 ≤ sizeLine; decide), fun dp nd5 => ?_⟩
    have e6 := e5.trans (Ex.new (o := .tup [.str "unknown", .str z]) nd5)
    have cs6 := cs4.ex e6
    refine ⟨_, rfl, _, rfl, kd, _, rfl, DPut.k (k := .inr z) cs6.bk.kn (small1000 (by omega)), ?_⟩
    refine ⟨_, rfl, .inr (.inr (.inl ⟨rfl, .inl ⟨_, upd_same⟩⟩)), _, rfl, kd, _, .inr z, .int 0, rfl, rfl, upd_same, by rw [valV_put, if_pos rfl], ?_⟩
    rw [upd_two, drop_put, dropK_no (valV_not hv)]
    have e7 := ex_dk cs6.bk.kn
    exact k _ _ _ tp dp "unknown" (.str z) ⟨cs6.same_kd, by omega, f2.trans (Fr.ex (((e3.trans e4).trans e6).trans e7)), e7 _ _ (e6 _ _ h4), e7 _ _ upd_same, by decide, vals_brand hz⟩
theorem dz_scal {H : Hp} {x : V} (h : scalV x = true) : Dz K H x (dataV x) := by
  cases x with
  | non => exact .non
  | bl b => exact .bl b
  | int i => exact .int i
  | str z => exact .str z
  | _ => cases h
theorem many_ok {x : V} (h : x ∈ MANY) : okP (dataV x) = true ∧ inV (.str (dataV x).shown) [.str "0", .str "1", .str "20"] = takesB x ∧ (takesB x = true → x = .int 0 ∨ x = .int 1 ∨ x = .int 20) := by
  have q : MANY.all (fun x => okP (dataV x) && (decide (inV (.str (dataV x).shown) [.str "0", .str "1", .str "20"] = takesB x) && (!takesB x || (decide (x = .int 0) || (decide (x = .int 1) || decide (x = .int 20)))))) = true := by decide +kernel
  have := List.all_eq_true.mp q x h
  simp only [Bool.and_eq_true, decide_eq_true_eq, Bool.or_eq_true, Bool.not_eq_true'] at this
  refine ⟨this.1, this.2.1, fun ht => ?_⟩
  rcases this.2.2 with h | h
  · rw [ht] at h; cases h
  · exact h
theorem cr_enter (T : Txt P K mg a) (TB : TabB base mg a.lcode_law_call_right a.tab_law_call_right) {A : Around} {outer : List Env} {s : Shared} {H0 : Hp} {E : XK} {q2 : Str} (hr : Room 22 (A.deeper (envOfC "_law_call_right" (defScope s__law_call_right) s.heap.objs.size a._law_call_right (.ref a.lcode_law_call_right)))) (hG0 : A.guards = some []) :
    ∃ tr, PSs (crX P w K mg base a A outer s H0 E) (ifO ((ifO (crB 2)).getD 0 (.Pass ⟨0, 0, 0, 0⟩))) tr ∧ ∀ (D : Ends) (H : Hp) (d c : Addr) (cells : List Int) (n : Nat) (p rd kd : Addr) (kvs kns : List (Key × V)) (z : Str) (wy : V) (mv : V) (dp0 : Addr), Cs K a [(a.tab_law_call_right, (crX P w K mg base a A outer s H0 E).env.qual ++ ("<lambda>" : Str)), (a.tab_law_read_right, q2)] d c cells n p rd kd kvs kns H → kns.length ≤ 60 → z ∈ BRANDS → mv ∈ MANY → H dp0 = some (.tup [.str "returned", .non]) → (∃ m : Int, wy = .int m) →
      (∀ H' kvs' kns' tp dp nm v, CrP K a [(a.tab_law_call_right, (crX P w K mg base a A outer s H0 E).env.qual ++ ("<lambda>" : Str)), (a.tab_law_read_right, q2)] d c cells n p rd kd kns H H' kvs' kns' tp dp nm v → D.nx [some (.ref d), some (.ref p), some (.ref kd), some (.str z), some wy, some mv, some (.ref dp), some (.ref tp)] H') →
      tr D [some (.ref d), some (.ref p), some (.ref kd), some (.str z), some wy, some mv, some (.ref dp0), some .non] H := by
  obtain ⟨fdm, Fm, hb__law_caught⟩ := T.d__law_caught.fn
  obtain ⟨ocm, odm, kVm, docm, pmm, anm, cdm, ctm, oslm, rfl, lk__law_caught, hc__law_caught⟩ := Fm.ex
  have GO__law_entered : CallO P w K mg base 14 (.ref a._law_entered) (spEntered K a) := ok__law_entered T
  have hu := hu_of hr
  have hG : A.guards = some [] := hG0
  refine ⟨_, (pss_cons (ps_set (i := 7) sc__law_call_right.nd rfl (Or.inl rfl) (pe_lam2 (T := [(a.tab_law_call_right, _), (a.tab_law_read_right, q2)]) (TT := TCau a) (c := a.lcode_law_call_right) (P := a.tab_law_call_right) (k := 14) (by rfl) T.g__law_caught T.k__law_caught lk__law_caught hc__law_caught hb__law_caught sc__law_caught rfl (Or.inl rfl) (caught_gives T) TB rfl (List.Mem.head _) (two_hd T.tabne) (hr.mono (by decide)) (lamS_by (by show lamSB (defScope s__law_call_right) _ = true; decide +kernel)) rfl (fun _ _ _ _ _ => rfl) (fun E A outer s H f c' hr => (pe_co GO__law_entered (hr.mono (by decide)) rfl T.g__law_entered T.k__law_entered (takes_of rfl rfl rfl rfl) (pa_cons (pv 1) (pa_cons (pv 3) (pa_cons (pv 5) (pa_cons (pe_cmpR op_eq (pv 4) pe_int (nomark _)) pa_nil))))))))
 (pss_one (ps_if (pt_cmp (pc_din hu (pv 3) (pv 2)))
 (pss_one (ps_set (i := 6) sc__law_call_right.nd rfl (Or.inl rfl) (pe_tup (pa_cons pe_str (pa_cons (pv 3) pa_nil)))))
 (pss_one (ps_if (pt_cmpR op_notIn_seq (pe_callB (call_reprQ' (K := K) rfl hr hG) (by rfl) T.b_repr (by decide +kernel) (pa_cons (pv 5) pa_nil)) (pe_tup (pa_cons pe_str (pa_cons pe_str (pa_cons pe_str pa_nil)))) (by rfl))
 (pss_one (ps_set (i := 6) sc__law_call_right.nd rfl (Or.inl rfl) (pe_tup (pa_cons pe_str (pa_cons (pv 5) pa_nil)))))
 (pss_one (ps_dput hu (pv 2) (pv 3) (pv 5) rfl))))))), ?_⟩
  generalize (crX P w K mg base a A outer s H0 E).env.qual ++ ("<lambda>" : Str) = lq
  rintro D H d c cells n p rd kd kvs kns z wy mv dp0 hcs hl hz hmv hdp ⟨m, rfl⟩ k
  obtain ⟨ok1, ok2, ok3⟩ := many_ok hmv
  have sc := vals_scal (vals_many hmv)
  refine ⟨hcs.tb, fun H1 eN tb1 => ?_⟩
  have cs1 := hcs.extN eN tb1
  have dp1 : H1 dp0 = some (.tup [.str "returned", .non]) := eN _ _ hdp (fun _ z => nomatch z)
  intro H2 e2 E2 Q2 hE hQ
  have cs2 := cs1.ex e2
  refine ⟨_, rfl, _, rfl, _, rfl, _, rfl, rfl, p, rd, kvs, z, mv, false, _, rfl, hz, cs2.bk.rg, (by have := len_of cs2.bk.ok; omega), kn_dz T (dz_scal sc), ?_⟩
  have f2 : Fr [rd, kd] H H2 := (Fr.extN eN).trans (Fr.ex e2)
  have tn : ∀ (H5 : Hp) (σ : L2.St), σ[5]? = some (some mv) → EvT (tTest (tOp (rIn K true) (tCB (rReprQ K) (tCons (tVar 5) tNil)) (tTup (tCons (tC (.str "0")) (tCons (tC (.str "1")) (tCons (tC (.str "20")) tNil)))))) σ H5 (!takesB mv) := fun H5 σ hσ => by
    rw [← ok2]
    exact et_test (ev_niU (ev_cb (ea_cons (ev_var hσ) ea_nil) fun H6 e6 Q q => ⟨mv, dataV mv, rfl, .dp (dp_scal sc), (okP_s ok1).1, (okP_s ok1).2.1, (okP_s ok1).2.2.1, (okP_s ok1).2.2.2, q H6 (Ex.refl _)⟩) (eu_tup (ea_cons ev_c (ea_cons ev_c (ea_cons ev_c ea_nil))) (by show 3 ≤ 100000; decide)) rfl rfl)
  cases hv : valV kns (.inr z) with
  | some v =>
    refine .inl ⟨val_some cs2.bk.ok.1.symm hv, fun dd H3 nd e3 hx => hE _ _ H3 ⟨dd, .str z, rfl, "taken", .inl ⟨rfl, hx, rfl⟩, fun tp H4 ntp e4 h4 => ?_⟩⟩
    have cs4 := (cs2.ex e3).ex e4
    refine s_if (et_din (i := 3) (j := 2) rfl rfl cs4.bk.kn) (fun _ H5 e5 => ?_) fun h => by rw [hv] at h; cases h
    refine ⟨_, rfl, (by show 2 ≤ sizeLine; decide), fun dp nd5 => ?_⟩
    have e6 := e5.trans (Ex.new (o := .tup [.str "taken", .str z]) nd5)
    exact k _ _ _ tp dp "taken" (.str z) ⟨cs4.ex e6, by omega, f2.trans (Fr.ex ((e3.trans e4).trans e6)), e6 _ _ h4, upd_same, by decide, vals_brand hz⟩
  | none =>
    refine .inr ⟨val_none cs2.bk.ok.1.symm hv, ?_⟩
    cases ht : takesB mv with
    | false =>
      refine .inl ⟨rfl, fun dd H3 nd e3 hx => hE _ _ H3 ⟨dd, mv, rfl, "takes", .inr (.inl ⟨rfl, hx, rfl⟩), fun tp H4 ntp e4 h4 => ?_⟩⟩
      have cs4 := (cs2.ex e3).ex e4
      refine s_if (et_din (i := 3) (j := 2) rfl rfl cs4.bk.kn) (fun h => by rw [hv] at h; cases h) fun _ H5 e5 => ?_
      refine s_if (tn H5 _ rfl) (fun _ H6 e6 => ?_) fun h => by rw [ht] at h; cases h
      refine ⟨_, rfl, (by show 2 ≤ sizeLine; decide), fun dp nd5 => ?_⟩
      have e7 := (e5.trans e6).trans (Ex.new (o := .tup [.str "takes", mv]) nd5)
      exact k _ _ _ tp dp "takes" mv ⟨cs4.ex e7, by omega, f2.trans (Fr.ex ((e3.trans e4).trans e7)), e7 _ _ h4, upd_same, by decide, vals_many hmv⟩
    | true =>
      refine .inr ⟨rfl, fun H3 t mk rdc bd nt ht3 e3 => hQ .non _ fun tp H4 ntp e4 h4 => ?_⟩
      have cs3 := cs2.ex e3
      have hk4 : H4 kd = some (.dK kns) := e4 _ _ (by rw [upd_ne cs3.bk.ne.symm]; exact cs3.bk.kn)
      refine s_if (et_din (i := 3) (j := 2) rfl rfl hk4) (fun h => by rw [hv] at h; cases h) fun _ H5 e5 => ?_
      refine s_if (tn H5 _ rfl) (fun h => by rw [ht] at h; cases h) fun _ H6 e6 => ?_
      have e56 := e5.trans e6
      refine ⟨_, rfl, _, rfl, _, rfl, kd, _, rfl, DPut.k (k := .inr z) (e56 _ _ hk4) (small1000 (by omega)), ?_⟩
      obtain ⟨cs5, fr5⟩ := cs3.both (kns' := putK kns (.inr z) mv) (cs3.bk.ok.put hv (st_of ht3)) (ks_put cs3.bk.ks hz (ok3 ht)) (put_nd cs3.bk.nd) (e4.trans e56)
      refine k _ _ _ tp dp0 "returned" .non ⟨cs5, putK_le _ _ _, (f2.trans (Fr.ex e3)).trans fr5, ?_, fr_tup fr5 (dks_of cs3) (e3 _ _ (e2 _ _ dp1)), by decide, List.Mem.head _⟩
      rw [upd_ne (ne_of (e56 _ _ h4) (e56 _ _ hk4) fun z => nomatch z)]
      exact e56 _ _ h4

end
end BJL

namespace BJL
open PySem PySem.Spec PyProof.Rows L2 BJ
section
variable {P : Program} {w : World} {K : PySem.W.Frag} {mg : Str → Option Value} {base : Heap} {a : Adr}
open Evl
open LamX
theorem Cs.draw {TT : List (Addr × Str)} {d c : Addr} {cells : List Int} {n m : Nat} {p rd kd : Addr} {kvs kns : List (Key × V)} {H H' : Hp} (h : Cs K a TT d c cells n p rd kd kvs kns H) (D : Dr H' d c cells m) (sb : SameBut d H H') : Cs K a TT d c cells m p rd kd kvs kns H' := by
  obtain ⟨u, hd⟩ := h.dr.atd
  have hL : Dks [d] H := fun q hq => by rw [List.mem_singleton.mp hq]; exact ⟨_, hd⟩
  have no : ∀ {q : Addr}, d ≠ q → q ∉ [d] := fun h z => h (List.mem_singleton.mp z).symm
  exact ⟨D, h.bk.fr (Fr.sb sb (List.Mem.head _)) hL (no h.d1) (no h.d2), Tabs.but h.tb hd sb, h.d1, h.d2⟩
def lqC : Str := (("_law_call_right" : Str) ++ ".<locals>.") ++ ("<lambda>" : Str)
def lqR : Str := (("_law_read_right" : Str) ++ ".<locals>.") ++ ("<lambda>" : Str)
def TTs (a : Adr) : List (Addr × Str) := [(a.tab_law_call_right, lqC), (a.tab_law_read_right, lqR)]
def spCallR (K : PySem.W.Frag) (a : Adr) : Sp := fun vs H Q _ => ∃ d c cells n p rd kd kvs kns, vs = [.ref d, .ref p, .ref kd] ∧ Cs K a (TTs a) d c cells n p rd kd kvs kns H ∧ n < 90000 ∧ kns.length ≤ 60 ∧
  ∀ H' kvs' kns', Cs K a (TTs a) d c cells (n + 3) p rd kd kvs' kns' H' → kns'.length ≤ kns.length + 1 → Fr [d, rd, kd] H H' → Q (.bl true) H'
theorem ta_fst {t1 : TE} {t2 : TA} {σ : L2.St} {H : Hp} {Q : List V → Hp → Prop} (h : t1 σ H fun x H1 => t2 σ H1 fun xs H2 => Q (x :: xs) H2) : tCons t1 t2 σ H Q := h
theorem op_fst {r : R2} {ta tb : TE} {σ : L2.St} {H : Hp} {Q : VK} (h : ta σ H fun x H1 => tb σ H1 fun y H2 => r x y H2 Q) : tOp r ta tb σ H Q := h
theorem ev_repr {i : Nat} {x : V} {dx : PyData} {σ : L2.St} {H : Hp} (h : σ[i]? = some (some x)) (hd : Dq K H x dx) (ok : okP dx = true) : Ev (tCB (rReprQ K) (tCons (tVar i) tNil)) σ H (.str dx.shown) :=
  ev_cb (ea_cons (ev_var h) ea_nil) fun H1 e Q q => ⟨x, dx, rfl, hd.ex e, (okP_s ok).1, (okP_s ok).2.1, (okP_s ok).2.2.1, (okP_s ok).2.2.2, q H1 (Ex.refl _)⟩
theorem dp_pair {H : Hp} {t : Addr} {nm : Str} {v : V} (h : H t = some (.tup [.str nm, v])) (hv : v ∈ VALS) : Dp K H (.ref t) (.tuple [.str nm, dataV v]) := .tup (st_of h) (.cons (.str nm) (.cons (dp_scal (vals_scal hv)) .nil))
theorem ok__law_call_right (T : Txt P K mg a) (TB : TabB base mg a.lcode_law_call_right a.tab_law_call_right) : CallP P w K mg base 23 (.ref a._law_call_right) (spCallR K a) := by
  have G__law_brand : CallP P w K mg base 3 (.ref a._law_brand) spBr := (ok__law_brand T).p
  have G__law_next : CallP P w K mg base 2 (.ref a._law_next) spNext := (ok__law_next T).p
  refine T.dc__law_call_right.ok sc__law_call_right (fun vs H Q E h => ?_) (fun A outer s H vs Q E hr hG h => ?_)
  · obtain ⟨d, c, cells, n, p, rd, kd, kvs, kns, rfl, _⟩ := h
    rfl
  · obtain ⟨d, c, cells, n, p, rd, kd, kvs, kns, rfl, hcs, hn, hl, hq⟩ := h
    have hu := hu_of hr
    obtain ⟨t1, p1, u1⟩ := cr_allow (P := P) (w := w) (mg := mg) (base := base) (outer := outer) (s := s) (H0 := H) (E := E) (q2 := lqR) T TB hr hG
    obtain ⟨t2, p2, u2⟩ := cr_forget (P := P) (w := w) (mg := mg) (base := base) (outer := outer) (s := s) (H0 := H) (E := E) (q2 := lqR) T TB hr hG
    obtain ⟨t3, p3, u3⟩ := cr_enter (P := P) (w := w) (mg := mg) (base := base) (outer := outer) (s := s) (H0 := H) (E := E) (q2 := lqR) T TB hr hG
    have lq : (crX P w K mg base a A outer s H E).env.qual ++ ("<lambda>" : Str) = lqC := congrArg (fun z : Str => z ++ ("<lambda>" : Str)) (rfl : (crX P w K mg base a A outer s H E).env.qual = (("_law_call_right" : Str) ++ ".<locals>."))
    rw [lq] at u1 u2 u3
    have pp : PS (crX P w K mg base a A outer s H E) (crB 2) _ := ps_if (pt_cmpR op_eq (pv 4) pe_int (nomark _)) p1 (pss_one (ps_if (pt_cmpR op_eq (pv 4) pe_int (nomark _)) p2 p3))
    refine ⟨_, pss_cons (ps_asg (pe_tup (pa_cons (pe_ca G__law_brand (hr.mono (by decide)) hG rfl T.g__law_brand T.k__law_brand (takes_of rfl rfl rfl rfl) (pa_cons (pv 0) pa_nil)) (pa_cons (pe_ca G__law_next (hr.mono (by decide)) hG rfl T.g__law_next T.k__law_next (takes_of rfl rfl rfl rfl) (pa_cons (pv 0) (pa_cons pe_int pa_nil))) (pa_cons (pe_ix (ix_list' (K := K) rfl) (pe_lst (pa_cons pe_int (pa_cons pe_int (pa_cons pe_int (pa_cons pe_int (pa_cons (pe_op op_sub pe_int pe_int) (pa_cons pe_bl (pa_cons pe_non (pa_cons pe_str pa_nil))))))))) (pe_ca G__law_next (hr.mono (by decide)) hG rfl T.g__law_next T.k__law_next (takes_of rfl rfl rfl rfl) (pa_cons (pv 0) (pa_cons pe_int pa_nil))) (fun _ _ => rfl)) pa_nil)))) (pg_tup rfl (pgs_cons (pg_name (i := 3) sc__law_call_right.nd rfl (Or.inr rfl)) (pgs_cons (pg_name (i := 4) sc__law_call_right.nd rfl (Or.inr rfl)) (pgs_cons (pg_name (i := 5) sc__law_call_right.nd rfl (Or.inr rfl)) pgs_nil)))) (by rfl)) (pss_cons (ps_asg (pe_tup (pa_cons (pe_tup (pa_cons pe_str (pa_cons pe_non pa_nil))) (pa_cons pe_non pa_nil))) (pg_tup rfl (pgs_cons (pg_name (i := 6) sc__law_call_right.nd rfl (Or.inl rfl)) (pgs_cons (pg_name (i := 7) sc__law_call_right.nd rfl (Or.inl rfl)) pgs_nil))) (by rfl)) (pss_cons pp (pss_one (ps_ret (pe_cmpR op_eq (pe_callB (call_reprQ' (K := K) rfl hr hG) (by rfl) T.b_repr (by decide +kernel) (pa_cons (pv 7) pa_nil)) (pe_callB (call_reprQ' (K := K) rfl hr hG) (by rfl) T.b_repr (by decide +kernel) (pa_cons (pv 6) pa_nil)) (nomark _)))))), ?_⟩
    refine ⟨_, rfl, d, c, cells, n, rfl, hcs.dr, by omega, fun z H1 hz D1 s1 => ?_⟩
    have cs1 := hcs.draw D1 s1
    refine ⟨_, rfl, d, c, cells, n + 1, 4, rfl, D1, by omega, by omega, by omega, fun wy H2 w0 w1 D2 B2 => ?_⟩
    have cs2 := cs1.draw D2 B2.sb
    have el : EvL (tLst (tCons (tC (.int 0)) (tCons (tC (.int 1)) (tCons (tC (.int 20)) (tCons (tC (.int 21)) (tCons (tOp (rI0 fun i j => V.int (i - j)) (tC (.int 0)) (tC (.int 1))) (tCons (tC (.bl true)) (tCons (tC .non) (tCons (tC (.str "2")) tNil))))))))) (start crN [.ref d, .ref p, .ref kd]) H2 MANY :=
      el_lst (ea_cons ev_c (ea_cons ev_c (ea_cons ev_c (ea_cons ev_c (ea_cons (ev_op ev_c ev_c rv_I0) (ea_cons ev_c (ea_cons ev_c (ea_cons ev_c ea_nil)))))))) (by decide)
    refine ta_fst (op_fst (el H2 (Ex.refl _) _ fun l H3 nl e3 hl3 => ?_))
    have cs3 := cs2.ex e3
    refine ⟨_, rfl, d, c, cells, n + 2, 8, rfl, cs3.dr, by omega, by omega, by omega, fun r H4 r0 r1 D4 B4 => ?_⟩
    have cs4 := cs3.draw D4 B4.sb
    obtain ⟨m, hm, rfl⟩ : ∃ m : Nat, m < 8 ∧ r = (m : Int) := ⟨r.toNat, by omega, by omega⟩
    have ld : l ≠ d := by
      obtain ⟨u, hu⟩ := cs3.dr.atd
      exact ne_of hl3 hu fun z => nomatch z
    have hl4 : H4 l = some (.lst MANY) := by rw [B4 _ ld]; exact hl3
    have hb : MANY.length = 8 := rfl
    have hat : atI MANY (m : Int) = some (MANY[m]'(by omega)) := by
      unfold atI
      rw [ixN_nat (by omega)]
      exact List.getElem?_eq_getElem (by omega)
    have hmv := List.getElem_mem (l := MANY) (n := m) (by omega)
    generalize MANY[m]'(by omega) = mv at hat hmv
    refine ⟨l, _, (m : Int), mv, rfl, rfl, sq_of hl4, hat, (by show 3 ≤ sizeLine; decide), fun tq ntq => ?_⟩
    have e5 := Ex.new (o := .tup [.str z, .int wy, mv]) ntq
    refine ⟨tq, _, rfl, st_of upd_same, rfl, _, _, rfl, _, _, rfl, _, _, rfl, rfl, ?_⟩
    refine ⟨(by show 2 ≤ sizeLine; decide), fun dp0 nd0 => ⟨(by show 2 ≤ sizeLine; decide), fun tq2 nq2 => ⟨tq2, _, rfl, st_of upd_same, rfl, _, _, rfl, _, _, rfl, rfl, ?_⟩⟩⟩
    have e6' := Ex.new (o := .tup [.str "returned", .non]) nd0
    have e6 := e6'.trans (Ex.new (o := .tup [.ref dp0, .non]) nq2)
    have cs6 := (cs4.ex e5).ex e6
    have f6 : Fr [d, rd, kd] H _ := ((((Fr.sb s1 (List.Mem.head _)).trans (Fr.sb B2.sb (List.Mem.head _))).trans (Fr.ex e3)).trans (Fr.sb B4.sb (List.Mem.head _))).trans (Fr.ex (e5.trans e6))
    have hdp0 : (upd (upd (upd H4 tq (.tup [.str z, .int wy, mv])) dp0 (.tup [.str "returned", .non])) tq2 (.tup [.ref dp0, .non])) dp0 = some (.tup [.str "returned", .non]) := (Ex.new nq2) _ _ upd_same
    generalize upd (upd (upd H4 tq (.tup [.str z, .int wy, mv])) dp0 (.tup [.str "returned", .non])) tq2 (.tup [.ref dp0, .non]) = H6 at cs6 f6 hdp0 ⊢
    have fin : ∀ H' kvs' kns' tp dp nm v, CrP K a (TTs a) d c cells (n + 3) p rd kd kns H6 H' kvs' kns' tp dp nm v → ∀ o6 : L2.St, o6 = [some (.ref d), some (.ref p), some (.ref kd), some (.str z), some (.int wy), some mv, some (.ref dp), some (.ref tp)] →
        tRet (tOp rEq (tCB (rReprQ K) (tCons (tVar 7) tNil)) (tCB (rReprQ K) (tCons (tVar 6) tNil))) { nx := fun _ H' => Q .non H', rt := Q } o6 H' := fun H' kvs' kns' tp dp nm v g o6 ho => by
      subst ho
      have ok := shows_pair g.hn g.hv
      refine s_ret (ev_op (ev_repr (i := 7) rfl (.dp (dp_pair g.t1 g.hv)) ok) (ev_repr (i := 6) rfl (.dp (dp_pair g.t2 g.hv)) ok) (rv_eq rfl)) fun H7 e7 => ?_
      rw [decide_eq_true rfl]
      exact hq H7 kvs' kns' (g.cs.ex e7) g.le ((f6.trans (g.fr.mono fun q hq => List.mem_cons_of_mem _ hq)).trans (Fr.ex e7))
    refine q_if (et_test (ev_op (ev_var rfl) ev_c (rv_eq rfl))) (fun _ H7 e7 => ?_) fun _ H7 e7 => ?_
    · refine u1 _ H7 d c cells (n + 3) p rd kd kvs kns z _ mv dp0 (cs6.ex e7) hl hz hmv (e7 _ _ hdp0) fun H' kvs' kns' tp dp nm v g => fin H' kvs' kns' tp dp nm v ⟨g.cs, g.le, (Fr.ex e7).trans g.fr, g.t1, g.t2, g.hn, g.hv⟩ _ rfl
    · refine s_if (et_test (ev_op (ev_var rfl) ev_c (rv_eq rfl))) (fun _ H8 e8 => ?_) fun _ H8 e8 => ?_
      · have e78 := e7.trans e8
        refine u2 _ H8 d c cells (n + 3) p rd kd kvs kns z _ mv dp0 (cs6.ex e78) hl hz hmv (e78 _ _ hdp0) fun H' kvs' kns' tp dp nm v g => fin H' kvs' kns' tp dp nm v ⟨g.cs, g.le, (Fr.ex e78).trans g.fr, g.t1, g.t2, g.hn, g.hv⟩ _ rfl
      · have e78 := e7.trans e8
        refine u3 _ H8 d c cells (n + 3) p rd kd kvs kns z _ mv dp0 (cs6.ex e78) hl hz hmv (e78 _ _ hdp0) ⟨wy, rfl⟩ fun H' kvs' kns' tp dp nm v g => fin H' kvs' kns' tp dp nm v ⟨g.cs, g.le, (Fr.ex e78).trans g.fr, g.t1, g.t2, g.hn, g.hv⟩ _ rfl

end
end BJL

namespace BJL
open PySem PySem.Spec PyProof.Rows L2 BJ
section
variable {P : Program} {w : World} {K : PySem.W.Frag} {mg : Str → Option Value} {base : Heap} {a : Adr}
open Evl
open LamX
theorem depth_strs : ∀ zs : List Str, PyData.depthAll (zs.map .str) = 0
  | [] => rfl
  | b :: bs => by
    rw [List.map_cons]
    unfold PyData.depthAll
    rw [depth_strs bs]
    rfl
theorem canLay_strs : ∀ zs : List Str, (∀ z ∈ zs, z ∈ BRANDS) → PyData.canLayAll0 (zs.map .str) = true
  | [], _ => by simp [PyData.canLayAll0]
  | b :: bs, h => by
    rw [List.map_cons]
    unfold PyData.canLayAll0
    rw [canLay_strs bs fun z hz => h z (List.mem_cons_of_mem _ hz)]
    have q : BRANDS.all (fun z => PyData.canLay0 (.str z)) = true := by decide +kernel
    rw [List.all_eq_true.mp q b (h b (List.mem_cons_self ..))]
    rfl
theorem tS_shaped {zs : List Str} (h : ∀ z ∈ zs, z ∈ BRANDS) : SeqAt.shaped (.tuple (zs.map .str)) = true := by
  unfold SeqAt.shaped
  rw [Bool.and_eq_true]
  refine ⟨?_, decide_eq_true ?_⟩
  · unfold PyData.canLay0; exact canLay_strs zs h
  · unfold PyData.depth; rw [depth_strs]; omega
theorem tS_eqv {zs : List Str} (h : ∀ z ∈ zs, z ∈ BRANDS) : PyData.eqv (.tuple (zs.map .str)) (.tuple (zs.map .str)) = true := SeqAt.eqv_refl _ (SeqAt.canLay_of_shaped (tS_shaped h))
theorem dpAll_strs {H : Hp} : ∀ zs : List Str, DpAll K H (zs.map V.str) (zs.map PyData.str)
  | [] => .nil
  | z :: zs => .cons (.str z) (dpAll_strs zs)
theorem ei_keys {td : TE} {σ : L2.St} {H : Hp} {d : Addr} {od : Obj} {kvs : List (Key × V)} (h : Ev td σ H (.ref d)) (hd : H d = some (.frz od (.dK kvs))) : EvI (iKeys td) σ H (kvs.map fun kv => kV kv.1) := fun H1 e R r => h H1 e _ fun H2 e2 =>
  ⟨d, od, rfl, .inl ⟨kvs, (e.trans e2) _ _ hd, r H2 _ (fun H => H d = some (.frz od (.dK kvs))) e2 (by
    have el : (kvs.map fun kv => kV kv.1).length = kvs.length := List.length_map _
    rw [el]
    refine walk_keys.mono (fun _ h => h) fun i H x H' hi _ ⟨h1, k, v, h2, h3⟩ => ⟨h1, ?_⟩
    rw [List.getElem?_map, h2, h3]
    rfl) fun H3 e3 => ((e.trans e2).trans e3) _ _ hd⟩⟩
theorem el_lock {t : TE} {σ : L2.St} {H : Hp} {d : Addr} {kvs : List (Key × V)} {xs : List V} (hd : H d = some (.dK kvs)) (h : ∀ H1, Ex H H1 → ∀ od, EvL t σ (upd H1 d (.frz od (.dK kvs))) xs) : EvL (tLockE t) σ H xs := fun H1 e Q q =>
  ⟨d, .dK kvs, e _ _ hd, trivial, fun od => h H1 e od _ (Ex.refl _) _ fun p H2 np e2 hp => by
    have nd : p ≠ d := fun z => by rw [z, upd_same] at np; cases np
    refine ⟨e2 _ _ upd_same, q p _ (by rw [upd_ne nd] at np; exact np) (ex_unlock (e _ _ hd) e2) (by rw [upd_ne nd]; exact hp)⟩⟩
/-- the texts of keys -/
def keyZ : Key → Str | .inr z => z | .inl _ => Str.empty
def keysZ (l : List (Key × V)) : List Str := l.map fun kv => keyZ kv.1
theorem keysZ_is {l : List (Key × V)} (h : ∀ kn ∈ l, ∃ z ∈ BRANDS, kn.1 = .inr z) : (l.map fun kv => kV kv.1) = (keysZ l).map V.str ∧ ∀ z ∈ keysZ l, z ∈ BRANDS := by
  refine ⟨?_, fun z hz => ?_⟩
  · unfold keysZ
    rw [List.map_map]
    refine List.map_congr_left fun kv hk => ?_
    obtain ⟨z, _, hz⟩ := h kv hk
    show kV kv.1 = V.str (keyZ kv.1)
    rw [hz]
    rfl
  · obtain ⟨kv, hk, rfl⟩ := List.mem_map.mp hz
    obtain ⟨z, hb, hz⟩ := h kv hk
    rw [hz]
    exact hb
theorem srtS_mem {zs : List Str} {z : Str} (h : z ∈ srtS zs) : z ∈ zs := (List.mem_mergeSort).mp h
abbrev rrN : List Str := ["draw", "book", "known", "word", "due", "told", "odd"]
abbrev rrX (P : Program) (w : World) (K : PySem.W.Frag) (mg : Str → Option Value) (base : Heap) (a : Adr) (A : Around) (outer : List Env) (s : Shared) (H : Hp) (E : XK) : Cx := cxOf (L2.CX P w) P w K mg base BJL.rrN "_law_read_right" (defScope s__law_read_right) a._law_read_right (.ref a.lcode_law_read_right) A outer s H E
abbrev rrB (i : Nat) : Stmt := (defBody s__law_read_right).getD i (.Pass ⟨0, 0, 0, 0⟩)
abbrev rrL (i : Nat) : Stmt := (match rrB 1 with | .For _ _ b _ _ => b | _ => []).getD i (.Pass ⟨0, 0, 0, 0⟩)
theorem rr_s0 (T : Txt P K mg a) (TB : TabB base mg a.lcode_law_read_right a.tab_law_read_right) {A : Around} {outer : List Env} {s : Shared} {H0 : Hp} {E : XK} {q1 : Str} (hr : Room 22 (A.deeper (envOfC "_law_read_right" (defScope s__law_read_right) s.heap.objs.size a._law_read_right (.ref a.lcode_law_read_right)))) (hG0 : A.guards = some []) :
    ∃ tr, PS (rrX P w K mg base a A outer s H0 E) (rrB 0) tr ∧ ∀ (D : Ends) (H : Hp) (d c : Addr) (cells : List Int) (n : Nat) (p rd kd : Addr) (kvs kns : List (Key × V)) (o3 o4 o5 o6 : Option V), Cs K a [(a.tab_law_call_right, q1), (a.tab_law_read_right, (rrX P w K mg base a A outer s H0 E).env.qual ++ ("<lambda>" : Str))] d c cells n p rd kd kvs kns H → kns.length ≤ 62 →
      (∀ H', Ex H H' → D.nx [some (.ref d), some (.ref p), some (.ref kd), o3, o4, o5, o6] H') →
      tr D [some (.ref d), some (.ref p), some (.ref kd), o3, o4, o5, o6] H := by
  obtain ⟨fdm, Fm, hb__law_caught⟩ := T.d__law_caught.fn
  obtain ⟨ocm, odm, kVm, docm, pmm, anm, cdm, ctm, oslm, rfl, lk__law_caught, hc__law_caught⟩ := Fm.ex
  have hG : A.guards = some [] := hG0
  have hu := hu_of hr
  refine ⟨_, (ps_if (PW.pt (pw_or (pt_cmpR (op_neD' (K := K) rfl hr.units) (pe_pr (pv 1)) (pe_callTy call_tuple_of (by rfl) T.b_tuple (by decide +kernel) (pa_cons (pe_callB cr_sortedS (by rfl) T.b_sorted (by decide +kernel) (pa_cons (pe_lock (pe_lc (own := [("word", 3)]) (g := (gName 3)) (by rfl) sc__law_read_right.nd (pi_keys (pv 2)) (blkOk_by (own := [("word", 3)]) (N := ["draw", "book", "known", "word", "due", "told", "odd"]) (sc := defScope s__law_read_right) (by decide +kernel)) (fun _ _ _ _ _ => (pg_name (i := 3) sc__law_read_right.nd rfl (Or.inl rfl))) (fun _ _ _ _ _ => pts_nil) (fun _ _ _ _ _ => (pe_callTy call_str_str (by rfl) T.b_str (by decide +kernel) (pa_cons (pv 3) pa_nil))))) pa_nil)) pa_nil)) (nomark _)) (pw_or1 (pt_cmpR op_ne (pe_callB call_lenI (by rfl) T.b_len (by decide +kernel) (pa_cons (pv 1) pa_nil)) (pe_callB call_lenD (by rfl) T.b_len (by decide +kernel) (pa_cons (pv 2) pa_nil)) (nomark _)))))
 (pss_one (ps_ret pe_bl))
 pss_nil), ?_⟩
  intro D H d c cells n p rd kd kvs kns o3 o4 o5 o6 hcs hl k
  have hks : ∀ kn ∈ kns, ∃ z ∈ BRANDS, kn.1 = .inr z := fun kn hm => (hcs.bk.ks kn hm).1
  obtain ⟨z1, z2⟩ := keysZ_is hks
  have z3 : (kvs.map fun kv => kV kv.1) = (keysZ kns).map V.str := by
    rw [← z1]
    have := congrArg (List.map kV) hcs.bk.ok.1
    rw [List.map_map, List.map_map] at this
    exact this
  have zl : (keysZ kns).length < 64 := by unfold keysZ; rw [List.length_map]; omega
  have zs : ∀ z ∈ srtS (keysZ kns), z ∈ BRANDS := fun z hz => z2 z (srtS_mem hz)
  refine s_when (b := false || false) (et_or (fun H1 e1 Q q => ?_) fun _ => fun H1 e1 Q q => ?_) (fun h => nomatch h) fun _ H1 e1 => k H1 e1
  · have cs1 := hcs.ex e1
    obtain ⟨dx, hp1⟩ := cs1.bk.rg.at_
    refine ⟨_, rfl, p, a.Registry, dx, a.Registry_brands_p, a.Registry_brands, _, 2, _, rfl, hp1, T.c_Registry, T.p_Registry_brands, ok_brands T, hr.mono (by decide), p, rd, kvs, keysZ kns, rfl, cs1.bk.rg, z3, zl, fun t1 H2 e2 ht1 => ?_⟩
    have cs2 := cs1.ex e2
    have el := el_sortS (K := K) (el_lock (t := tLc (iKeys (tVar 2)) (gName 3) tYes (tCB rStrT (tCons (tVar 3) tNil)) [3]) (σ := [some (.ref d), some (.ref p), some (.ref kd), o3, o4, o5, o6]) (xs := (keysZ kns).map V.str) cs2.bk.kn fun H3 e3 od => by
      have := el_all (j := 3) (vs := [3]) (te := tCB rStrT (tCons (tVar 3) tNil)) (ei_keys (σ := [some (.ref d), some (.ref p), some (.ref kd), o3, o4, o5, o6]) (td := tVar 2) (H := upd H3 kd (.frz od (.dK kns))) (ev_var rfl) upd_same) id (by rw [List.length_map]; omega) (fun x => rfl) (fun x hx H4 e4 => by
        rw [z1] at hx
        obtain ⟨z, _, rfl⟩ := List.mem_map.mp hx
        exact ev_cb (ea_cons (ev_var rfl) ea_nil) fun H5 e5 Q q => ⟨z, rfl, q H5 (Ex.refl _)⟩)
      rw [List.map_id, z1] at this
      exact this) zl
    refine (eu_tupL el) H2 (Ex.refl _) _ fun t2 H3 n3 e3 ht2 => ?_
    refine ⟨_, _, .tup (st_of (e3 _ _ ht1)) (dpAll_strs _), .tup (st_of ht2) (dpAll_strs _), tS_shaped zs, tS_shaped zs, ?_⟩
    rw [tS_eqv zs]
    exact ⟨_, rfl, q _ (e2.trans e3)⟩
  · have cs1 := hcs.ex e1
    obtain ⟨dx, hp1⟩ := cs1.bk.rg.at_
    refine ⟨_, rfl, p, a.Registry, dx, a.Registry___len__, _, 2, _, rfl, hp1, ⟨T.p_Registry___len__.at_, T.p_Registry___len__.fn⟩, ok_len T, hr.mono (by decide), p, rd, kvs, rfl, cs1.bk.rg, kvs.length, rfl, (by have := len_of cs1.bk.ok; omega), ?_⟩
    refine ⟨_, rfl, kd, kns, rfl, cs1.bk.kn, rfl, _, rfl, ?_⟩
    rw [len_of cs1.bk.ok, decide_eq_true rfl]
    exact q _ (Ex.refl _)

end
end BJL

namespace BJL
open PySem PySem.Spec PyProof.Rows L2 BJ
section
variable {P : Program} {w : World} {K : PySem.W.Frag} {mg : Str → Option Value} {base : Heap} {a : Adr}
open Evl
open LamX
theorem ev_reprL {te : TE} {xs : List V} {ds : List PyData} {σ : L2.St} {H : Hp} (h : EvL te σ H xs) (hd : ∀ H', Ex H H' → DpAll K H' xs ds) (ok : okP (.list ds) = true) : Ev (tCB (rReprQ K) (tCons te tNil)) σ H (.str (PyData.list ds).shown) := fun H1 e Q q =>
  h H1 e _ fun l H2 nl e2 hl => ⟨.ref l, .list ds, rfl, .dp (.lst (sq_of hl) (hd H2 (e.trans e2))), (okP_s ok).1, (okP_s ok).2.1, (okP_s ok).2.2.1, (okP_s ok).2.2.2, q H2 e2⟩
theorem bool_ok (b : Bool) : okP (.bool b) = true := by cases b <;> decide +kernel
theorem isSome_of {l l' : List (Key × V)} {k : Key} (h : l.map (·.1) = l'.map (·.1)) : (valV l k).isSome = (valV l' k).isSome := by
  cases e : valV l k with
  | none => rw [val_none h e]
  | some v =>
    obtain ⟨v', e'⟩ := val_some h e
    rw [e']
    rfl
theorem vals_kn {v : V} (h : v = .int 0 ∨ v = .int 1 ∨ v = .int 20) : v ∈ VALS := by
  rcases h with rfl | rfl | rfl <;> decide
theorem valV_mem {κ : Type} [DecidableEq κ] {l : List (κ × V)} {k : κ} {v : V} (h : valV l k = some v) : (k, v) ∈ l := by
  unfold valV at h
  obtain ⟨⟨k', v'⟩, hf, hv⟩ := Option.map_eq_some_iff.mp h
  have h1 := List.mem_of_find?_eq_some hf
  have h2 := List.find?_some hf
  have h3 : k' = k := of_decide_eq_true h2
  cases h3
  cases hv
  exact h1
/-- what is due for z -/
def DueIs (kns : List (Key × V)) (z : Str) (nm : Str) (v : V) : Prop := (valV kns (.inr z) = some v ∧ nm = "returned") ∨ (valV kns (.inr z) = none ∧ nm = "unknown" ∧ v = .str z)
theorem due_ok {kns : List (Key × V)} {z nm : Str} {v : V} (ks : ∀ kn ∈ kns, (∃ z ∈ BRANDS, kn.1 = .inr z) ∧ (kn.2 = .int 0 ∨ kn.2 = .int 1 ∨ kn.2 = .int 20)) (hz : z ∈ BRANDS ∨ z = "bag") (h : DueIs kns z nm v) : nm ∈ NAMES ∧ v ∈ VALS := by
  rcases h with ⟨hv, rfl⟩ | ⟨_, rfl, rfl⟩
  · exact ⟨by decide, vals_kn (ks _ (valV_mem hv)).2⟩
  · refine ⟨by decide, ?_⟩
    rcases hz with hz | rfl
    · exact vals_brand hz
    · decide +kernel
theorem cs_app {TT : List (Addr × Str)} {d c : Addr} {cells : List Int} {n : Nat} {p rd kd l : Addr} {kvs kns : List (Key × V)} {H : Hp} {xs ys : List V} (h : Cs K a TT d c cells n p rd kd kvs kns H) (hl : H l = some (.lst xs)) (lc : l ≠ c) : Cs K a TT d c cells n p rd kd kvs kns (upd H l (.lst ys)) := by
  obtain ⟨⟨⟨x, y, w, h1, h2⟩, hcl, hn, hz⟩, ⟨⟨⟨dx, hp⟩, hrd⟩, hk, ok, ks, nd, ne⟩, tb, d1, d2⟩ := h
  have nl : ∀ {b : Addr} {o : HO}, H b = some o → (∀ zs, o ≠ .lst zs) → (upd H l (.lst ys)) b = some o := fun {b o} hb ho => by
    rw [upd_ne (ne_of hb hl fun z => ho _ z)]; exact hb
  refine ⟨⟨⟨x, y, w, nl h1 (fun _ z => nomatch z), h2⟩, by rw [upd_ne lc.symm]; exact hcl, hn, hz⟩, ⟨⟨⟨dx, nl hp (fun _ z => nomatch z)⟩, nl hrd (fun _ z => nomatch z)⟩, nl hk (fun _ z => nomatch z), ⟨ok.1, fun k v hv => ?_⟩, ks, nd, ne⟩, fun q hq => ?_, d1, d2⟩
  · obtain ⟨t, x, y, z, q1, q2⟩ := ok.2 k v hv
    exact ⟨t, x, y, z, q1, sqt_ne hl (fun _ z => nomatch z) (fun _ _ z => nomatch z) q2⟩
  · obtain ⟨ps, q1, q2, q3⟩ := tb q hq
    refine ⟨ps, nl q1 (fun _ z => nomatch z), q2, fun pos cv hc => ?_⟩
    obtain ⟨c', e1, e2⟩ := q3 pos cv hc
    exact ⟨c', e1, nl e2 (fun _ z => nomatch z)⟩
theorem rr_due (T : Txt P K mg a) (TB : TabB base mg a.lcode_law_read_right a.tab_law_read_right) {A : Around} {outer : List Env} {s : Shared} {H0 : Hp} {E : XK} {q1 : Str} (hr : Room 22 (A.deeper (envOfC "_law_read_right" (defScope s__law_read_right) s.heap.objs.size a._law_read_right (.ref a.lcode_law_read_right)))) (hG0 : A.guards = some []) :
    ∃ tr, PS (rrX P w K mg base a A outer s H0 E) (rrL 0) tr ∧ ∀ (D : Ends) (H : Hp) (d c : Addr) (cells : List Int) (n : Nat) (p rd kd : Addr) (kvs kns : List (Key × V)) (z : Str) (o4 o5 o6 : Option V), Cs K a [(a.tab_law_call_right, q1), (a.tab_law_read_right, (rrX P w K mg base a A outer s H0 E).env.qual ++ ("<lambda>" : Str))] d c cells n p rd kd kvs kns H → (z ∈ BRANDS ∨ z = "bag") →
      (∀ H' dp nm v, Ex H H' → H' dp = some (.tup [.str nm, v]) → DueIs kns z nm v → D.nx [some (.ref d), some (.ref p), some (.ref kd), some (.str z), some (.ref dp), o5, o6] H') →
      tr D [some (.ref d), some (.ref p), some (.ref kd), some (.str z), o4, o5, o6] H := by
  obtain ⟨fdm, Fm, hb__law_caught⟩ := T.d__law_caught.fn
  obtain ⟨ocm, odm, kVm, docm, pmm, anm, cdm, ctm, oslm, rfl, lk__law_caught, hc__law_caught⟩ := Fm.ex
  have hG : A.guards = some [] := hG0
  have hu := hu_of hr
  refine ⟨_, (ps_set (i := 4) sc__law_read_right.nd rfl (Or.inl rfl) (pe_ifExp (pt_cmp (pc_din hu (pv 3) (pv 2))) (pe_tup (pa_cons pe_str (pa_cons (pe_dget hu (pv 2) (pv 3) (fun _ _ => rfl)) pa_nil))) (pe_tup (pa_cons pe_str (pa_cons (pv 3) pa_nil))))), ?_⟩
  intro D H d c cells n p rd kd kvs kns z o4 o5 o6 hcs hz k
  refine asg_if (et_din (i := 3) (j := 2) rfl rfl hcs.bk.kn) (fun hb H1 e1 => ?_) fun hb H1 e1 => ?_
  · obtain ⟨v, hv⟩ := Option.isSome_iff_exists.mp hb
    have cs1 := hcs.ex e1
    refine ⟨_, rfl, _, rfl, kd, v, rfl, dg (k := .inr z) cs1.bk.kn hv, (by show 2 ≤ sizeLine; decide), fun dp nd => ?_⟩
    exact k _ dp "returned" v (e1.trans (Ex.new nd)) upd_same (.inl ⟨hv, rfl⟩)
  · have hv : valV kns (.inr z) = none := by
      cases e : valV kns (.inr z) with
      | none => rfl
      | some v => rw [e] at hb; cases hb
    refine ⟨_, rfl, (by show 2 ≤ sizeLine; decide), fun dp nd => ?_⟩
    exact k _ dp "unknown" (.str z) (e1.trans (Ex.new nd)) upd_same (.inr ⟨hv, rfl, rfl⟩)
/-- nothing but a table stood at l -/
def NewL (l : Addr) (H : Hp) : Prop := ∀ o, (∀ ps, o ≠ .tbl ps) → H l ≠ some o
/-- what a call of takes_of gives -/
theorem takes_T {d c : Addr} {cells : List Int} {n : Nat} {TT : List (Addr × Str)} {p rd kd : Addr} {kvs kns : List (Key × V)} {H1 : Hp} {z nm : Str} {v : V} {tl : XK → Hp → VK → Prop} {Qf : VK}
    (htl : ∀ E H' Q', Cs K a TT d c cells n p rd kd kvs kns H' → spTakes K a [.ref p, .str z] H' Q' E → tl E H' Q') (cs1 : Cs K a TT d c cells n p rd kd kvs kns H1) (hc : DueIs kns z nm v)
    (hf : ∀ tp H4, Ex H1 H4 → H4 tp = some (.tup [.str nm, v]) → Qf (.ref tp) H4) : TCau a tl H1 Qf := by
  intro H2 e2 E2 Q2 hE hQ
  have cs := cs1.ex e2
  refine htl _ _ _ cs ⟨p, rd, kvs, z, rfl, cs.bk.rg, ?_⟩
  rcases hc with ⟨hv, rfl⟩ | ⟨hv, rfl, rfl⟩
  · obtain ⟨t, x, y, b, h1, h2⟩ := cs.bk.ok.2 _ _ hv
    exact .inl ⟨t, x, y, v, b, h1, h2, fun H3 e3 => hQ v H3 fun tp H4 n4 e4 h4 => hf tp H4 ((e2.trans e3).trans e4) h4⟩
  · exact .inr ⟨val_none cs.bk.ok.1.symm hv, fun dd H3 nd e3 hx => hE _ _ H3 ⟨dd, .str z, rfl, "unknown", .inr (.inr ⟨rfl, hx, rfl⟩), fun tp H4 n4 e4 h4 => hf tp H4 ((e2.trans e3).trans e4) h4⟩⟩
theorem rr_told1 (T : Txt P K mg a) (TB : TabB base mg a.lcode_law_read_right a.tab_law_read_right) {A : Around} {outer : List Env} {s : Shared} {H0 : Hp} {E : XK} {q1 : Str} (hr : Room 22 (A.deeper (envOfC "_law_read_right" (defScope s__law_read_right) s.heap.objs.size a._law_read_right (.ref a.lcode_law_read_right)))) (hG0 : A.guards = some []) :
    ∃ tr, PS (rrX P w K mg base a A outer s H0 E) (rrL 1) tr ∧ ∀ (D : Ends) (H : Hp) (d c : Addr) (cells : List Int) (n : Nat) (p rd kd : Addr) (kvs kns : List (Key × V)) (z nm : Str) (v : V) (o4 o5 o6 : Option V), Cs K a [(a.tab_law_call_right, q1), (a.tab_law_read_right, (rrX P w K mg base a A outer s H0 E).env.qual ++ ("<lambda>" : Str))] d c cells n p rd kd kvs kns H → DueIs kns z nm v →
      (∀ H' l tp, Cs K a [(a.tab_law_call_right, q1), (a.tab_law_read_right, (rrX P w K mg base a A outer s H0 E).env.qual ++ ("<lambda>" : Str))] d c cells n p rd kd kvs kns H' → Fr [] H H' → NewL l H → H' l = some (.lst [.ref tp]) → H' tp = some (.tup [.str nm, v]) → D.nx [some (.ref d), some (.ref p), some (.ref kd), some (.str z), o4, some (.ref l), o6] H') →
      tr D [some (.ref d), some (.ref p), some (.ref kd), some (.str z), o4, o5, o6] H := by
  obtain ⟨fdm, Fm, hb__law_caught⟩ := T.d__law_caught.fn
  obtain ⟨ocm, odm, kVm, docm, pmm, anm, cdm, ctm, oslm, rfl, lk__law_caught, hc__law_caught⟩ := Fm.ex
  have hG : A.guards = some [] := hG0
  have hu := hu_of hr
  have GM_Registry_takes_of := ok_takes_of (P := P) (w := w) (base := base) (mg := mg) T
  refine ⟨_, (ps_set (i := 5) sc__law_read_right.nd rfl (Or.inl rfl) (pe_lst (pa_cons (pe_lam2 (T := [(a.tab_law_call_right, q1), (a.tab_law_read_right, _)]) (TT := TCau a) (c := a.lcode_law_read_right) (P := a.tab_law_read_right) (k := 14) (by rfl) T.g__law_caught T.k__law_caught lk__law_caught hc__law_caught hb__law_caught sc__law_caught rfl (Or.inl rfl) (caught_gives T) TB rfl (List.Mem.tail _ (List.Mem.head _)) (two_tl T.tabne) (hr.mono (by decide)) (lamS_by (by show lamSB (defScope s__law_read_right) _ = true; decide +kernel)) rfl (fun _ _ _ _ _ => rfl) (fun E A outer s H f c' hr => (pe_mo T.c_Registry T.p_Registry_takes_of GM_Registry_takes_of (hr.mono (by decide)) (pv 1) (takes_of rfl rfl rfl rfl) (pa_cons (pv 3) pa_nil) pk_nil))) pa_nil))), ?_⟩
  generalize (rrX P w K mg base a A outer s H0 E).env.qual ++ ("<lambda>" : Str) = lq
  intro D H d c cells n p rd kd kvs kns z nm v o4 o5 o6 hcs hc k
  refine ⟨hcs.tb, fun H1 eN tb1 => ?_⟩
  have cs1 := hcs.extN eN tb1
  refine takes_T (fun E H' Q' c h => by obtain ⟨dx, hp⟩ := c.bk.rg.at_; exact ⟨_, rfl, p, dx, _, rfl, hp, rfl, _, rfl, rfl, h⟩) cs1 hc fun tp H4 e4 h4 => ?_
  refine ⟨(by show 1 ≤ sizeLine; decide), fun l nl => ?_⟩
  have e5 := e4.trans (Ex.new (o := .lst [.ref tp]) nl)
  have f5 : Fr [] H (upd H4 l (.lst [.ref tp])) := (Fr.extN eN).trans (Fr.ex e5)
  refine k _ l tp (cs1.ex e5) f5 (fun o ho hb => ?_) upd_same ((Ex.new nl) _ _ h4)
  have := e4 _ _ (eN _ _ hb ho)
  rw [nl] at this
  cases this
theorem rr_told2 (T : Txt P K mg a) (TB : TabB base mg a.lcode_law_read_right a.tab_law_read_right) {A : Around} {outer : List Env} {s : Shared} {H0 : Hp} {E : XK} {q1 : Str} (hr : Room 22 (A.deeper (envOfC "_law_read_right" (defScope s__law_read_right) s.heap.objs.size a._law_read_right (.ref a.lcode_law_read_right)))) (hG0 : A.guards = some []) :
    ∃ tr, PS (rrX P w K mg base a A outer s H0 E) (rrL 2) tr ∧ ∀ (D : Ends) (H : Hp) (d c : Addr) (cells : List Int) (n : Nat) (p rd kd : Addr) (kvs kns : List (Key × V)) (z nm : Str) (v : V) (l tp : Addr) (o4 o6 : Option V), Cs K a [(a.tab_law_call_right, q1), (a.tab_law_read_right, (rrX P w K mg base a A outer s H0 E).env.qual ++ ("<lambda>" : Str))] d c cells n p rd kd kvs kns H → DueIs kns z nm v → l ≠ c → H l = some (.lst [.ref tp]) → H tp = some (.tup [.str nm, v]) →
      (∀ H' tp2, Cs K a [(a.tab_law_call_right, q1), (a.tab_law_read_right, (rrX P w K mg base a A outer s H0 E).env.qual ++ ("<lambda>" : Str))] d c cells n p rd kd kvs kns H' → Fr [l] H H' → H' l = some (.lst [.ref tp, .ref tp2]) → H' tp = some (.tup [.str nm, v]) → H' tp2 = some (.tup [.str nm, v]) → D.nx [some (.ref d), some (.ref p), some (.ref kd), some (.str z), o4, some (.ref l), o6] H') →
      tr D [some (.ref d), some (.ref p), some (.ref kd), some (.str z), o4, some (.ref l), o6] H := by
  obtain ⟨fdm, Fm, hb__law_caught⟩ := T.d__law_caught.fn
  obtain ⟨ocm, odm, kVm, docm, pmm, anm, cdm, ctm, oslm, rfl, lk__law_caught, hc__law_caught⟩ := Fm.ex
  have hG : A.guards = some [] := hG0
  have hu := hu_of hr
  have GM_Registry_takes_of_brand := ok_takes_of_kw (P := P) (w := w) (base := base) (mg := mg) T
  refine ⟨_, (ps_expr (pe_bm PySem.F.plainAttrs_list PySem.F.slot_list_append PySem.F.type_list_append mt_append (pv 5) (pa_cons (pe_lam2 (T := [(a.tab_law_call_right, q1), (a.tab_law_read_right, _)]) (TT := TCau a) (c := a.lcode_law_read_right) (P := a.tab_law_read_right) (k := 14) (by rfl) T.g__law_caught T.k__law_caught lk__law_caught hc__law_caught hb__law_caught sc__law_caught rfl (Or.inl rfl) (caught_gives T) TB rfl (List.Mem.tail _ (List.Mem.head _)) (two_tl T.tabne) (hr.mono (by decide)) (lamS_by (by show lamSB (defScope s__law_read_right) _ = true; decide +kernel)) rfl (fun _ _ _ _ _ => rfl) (fun E A outer s H f c' hr => (pe_mo0 T.c_Registry T.p_Registry_takes_of GM_Registry_takes_of_brand (hr.mono (by decide)) (pv 1) (takes_of rfl rfl rfl rfl) (pk_cons (pv 3) pk_nil)))) pa_nil))), ?_⟩
  generalize (rrX P w K mg base a A outer s H0 E).env.qual ++ ("<lambda>" : Str) = lq
  intro D H d c cells n p rd kd kvs kns z nm v l tp o4 o6 hcs hc lc hl htp k
  refine ⟨_, rfl, .inl ⟨rfl, _, sq_of hl⟩, hcs.tb, fun H1 eN tb1 => ?_⟩
  have cs1 := hcs.extN eN tb1
  refine takes_T (fun E H' Q' c h => by obtain ⟨dx, hp⟩ := c.bk.rg.at_; exact ⟨_, rfl, p, dx, _, rfl, hp, rfl, _, rfl, rfl, rfl, h⟩) cs1 hc fun tp2 H4 e4 h4 => ?_
  have f4 : Fr [l] H H4 := (Fr.extN eN).trans (Fr.ex e4)
  have hl4 : H4 l = some (.lst [.ref tp]) := e4 _ _ (eN _ _ hl fun _ z => nomatch z)
  refine ⟨l, _, _, rfl, rfl, hl4, (by show 1 < sizeLine; decide), ?_⟩
  refine k _ tp2 (cs_app (cs1.ex e4) hl4 lc) (f4.trans (Fr.upd (List.Mem.head _))) upd_same ?_ ?_
  · rw [upd_ne (ne_of htp hl fun z => nomatch z)]
    exact e4 _ _ (eN _ _ htp fun _ z => nomatch z)
  · rw [upd_ne (ne_of h4 hl4 fun z => nomatch z)]
    exact h4
theorem rr_test (T : Txt P K mg a) (TB : TabB base mg a.lcode_law_read_right a.tab_law_read_right) {A : Around} {outer : List Env} {s : Shared} {H0 : Hp} {E : XK} {q1 : Str} (hr : Room 22 (A.deeper (envOfC "_law_read_right" (defScope s__law_read_right) s.heap.objs.size a._law_read_right (.ref a.lcode_law_read_right)))) (hG0 : A.guards = some []) :
    ∃ tr, PS (rrX P w K mg base a A outer s H0 E) (rrL 3) tr ∧ ∀ (D : Ends) (H : Hp) (d c : Addr) (cells : List Int) (n : Nat) (p rd kd : Addr) (kvs kns : List (Key × V)) (z nm : Str) (v : V) (dp l tp tp2 : Addr) (o6 : Option V), Cs K a [(a.tab_law_call_right, q1), (a.tab_law_read_right, (rrX P w K mg base a A outer s H0 E).env.qual ++ ("<lambda>" : Str))] d c cells n p rd kd kvs kns H → (z ∈ BRANDS ∨ z = "bag") → DueIs kns z nm v → H l = some (.lst [.ref tp, .ref tp2]) → H tp = some (.tup [.str nm, v]) → H tp2 = some (.tup [.str nm, v]) → H dp = some (.tup [.str nm, v]) →
      (∀ H', Ex H H' → D.nx [some (.ref d), some (.ref p), some (.ref kd), some (.str z), some (.ref dp), some (.ref l), o6] H') →
      tr D [some (.ref d), some (.ref p), some (.ref kd), some (.str z), some (.ref dp), some (.ref l), o6] H := by
  obtain ⟨fdm, Fm, hb__law_caught⟩ := T.d__law_caught.fn
  obtain ⟨ocm, odm, kVm, docm, pmm, anm, cdm, ctm, oslm, rfl, lk__law_caught, hc__law_caught⟩ := Fm.ex
  have hG : A.guards = some [] := hG0
  have hu := hu_of hr
  refine ⟨_, (ps_if (PW.pt (pw_or (pt_cmpR op_ne (pe_callB (call_reprQ' (K := K) rfl hr hG) (by rfl) T.b_repr (by decide +kernel) (pa_cons (pv 5) pa_nil)) (pe_callB (call_reprQ' (K := K) rfl hr hG) (by rfl) T.b_repr (by decide +kernel) (pa_cons (pe_lst (pa_cons (pv 4) (pa_cons (pv 4) pa_nil))) pa_nil)) (nomark _)) (pw_or1 (pt_cmpR op_ne (pe_callB (call_reprQ' (K := K) rfl hr hG) (by rfl) T.b_repr (by decide +kernel) (pa_cons (pe_cmpR op_inI (pv 3) (pv 1) (by rfl)) pa_nil)) (pe_callB (call_reprQ' (K := K) rfl hr hG) (by rfl) T.b_repr (by decide +kernel) (pa_cons (pe_cmp (pc_din hu (pv 3) (pv 2)) rfl) pa_nil)) (nomark _)))))
 (pss_one (ps_ret pe_bl))
 pss_nil), ?_⟩
  intro D H d c cells n p rd kd kvs kns z nm v dp l tp tp2 o6 hcs hz hc hl ht1 ht2 hd k
  obtain ⟨hnm, hvv⟩ := due_ok hcs.bk.ks hz hc
  have ok := shows_two hnm hvv
  have two : ∀ H', Ex H H' → DpAll K H' [.ref dp, .ref dp] [.tuple [.str nm, dataV v], .tuple [.str nm, dataV v]] := fun H' e => .cons (dp_pair (e _ _ hd) hvv) (.cons (dp_pair (e _ _ hd) hvv) .nil)
  refine s_when (b := (!decide (V.str (PyData.list [.tuple [.str nm, dataV v], .tuple [.str nm, dataV v]]).shown = V.str (PyData.list [.tuple [.str nm, dataV v], .tuple [.str nm, dataV v]]).shown)) || false) (et_or (et_test (ev_op (ev_repr (i := 5) rfl (.dp (.lst (sq_of hl) (.cons (dp_pair ht1 hvv) (.cons (dp_pair ht2 hvv) .nil)))) ok) (ev_reprL (el_lst (ea_cons (ev_var rfl) (ea_cons (ev_var rfl) ea_nil)) (by show 2 ≤ 100000; decide)) two ok) (rv_ne rfl))) fun _ => fun H1 e1 Q q => ?_) (fun h => by rw [decide_eq_true rfl] at h; cases h) fun _ H1 e1 => k H1 e1
  have cs1 := hcs.ex e1
  obtain ⟨dx, hp1⟩ := cs1.bk.rg.at_
  refine ⟨_, rfl, _, rfl, p, a.Registry, dx, a.Registry___contains__, _, 2, _, rfl, hp1, ⟨T.p_Registry___contains__.at_, T.p_Registry___contains__.fn⟩, ok_in T, hr.mono (by decide), p, rd, kvs, .str z, false, rfl, cs1.bk.rg, kn_dz T (.str z), _, rfl, ?_⟩
  have bo := okP_s (bool_ok (inRg kvs (.str z)))
  refine ⟨_, _, rfl, .dp (.bl _), bo.1, bo.2.1, bo.2.2.1, bo.2.2.2, ?_⟩
  refine ⟨_, rfl, _, rfl, kd, _, rfl, DGet.k (k := .inr z) cs1.bk.kn, ?_⟩
  have bo2 := okP_s (bool_ok (valV kns (.inr z)).isSome)
  refine ⟨_, _, rfl, .dp (.bl _), bo2.1, bo2.2.1, bo2.2.2.1, bo2.2.2.2, ?_⟩
  refine ⟨rfl, _, rfl, ?_⟩
  rw [show inRg kvs (.str z) = (valV kns (.inr z)).isSome from isSome_of cs1.bk.ok.1, decide_eq_true rfl]
  exact q _ (Ex.refl _)
theorem rr_turn (T : Txt P K mg a) (TB : TabB base mg a.lcode_law_read_right a.tab_law_read_right) {A : Around} {outer : List Env} {s : Shared} {H0 : Hp} {E : XK} {q1 : Str} (hr : Room 22 (A.deeper (envOfC "_law_read_right" (defScope s__law_read_right) s.heap.objs.size a._law_read_right (.ref a.lcode_law_read_right)))) (hG0 : A.guards = some []) :
    ∃ tr, PSs (rrX P w K mg base a A outer s H0 E) [rrL 0, rrL 1, rrL 2, rrL 3] tr ∧ ∀ (D : Ends) (H : Hp) (d c : Addr) (cells : List Int) (n : Nat) (p rd kd : Addr) (kvs kns : List (Key × V)) (z : Str) (o4 o5 o6 : Option V), Cs K a [(a.tab_law_call_right, q1), (a.tab_law_read_right, (rrX P w K mg base a A outer s H0 E).env.qual ++ ("<lambda>" : Str))] d c cells n p rd kd kvs kns H → (z ∈ BRANDS ∨ z = "bag") →
      (∀ H' o4 o5, Cs K a [(a.tab_law_call_right, q1), (a.tab_law_read_right, (rrX P w K mg base a A outer s H0 E).env.qual ++ ("<lambda>" : Str))] d c cells n p rd kd kvs kns H' → Fr [] H H' → D.nx [some (.ref d), some (.ref p), some (.ref kd), some (.str z), o4, o5, o6] H') →
      tr D [some (.ref d), some (.ref p), some (.ref kd), some (.str z), o4, o5, o6] H := by
  obtain ⟨t0, p0, u0⟩ := rr_due (P := P) (w := w) (mg := mg) (base := base) (outer := outer) (s := s) (H0 := H0) (E := E) (q1 := q1) T TB hr hG0
  obtain ⟨t1, p1, u1⟩ := rr_told1 (P := P) (w := w) (mg := mg) (base := base) (outer := outer) (s := s) (H0 := H0) (E := E) (q1 := q1) T TB hr hG0
  obtain ⟨t2, p2, u2⟩ := rr_told2 (P := P) (w := w) (mg := mg) (base := base) (outer := outer) (s := s) (H0 := H0) (E := E) (q1 := q1) T TB hr hG0
  obtain ⟨t3, p3, u3⟩ := rr_test (P := P) (w := w) (mg := mg) (base := base) (outer := outer) (s := s) (H0 := H0) (E := E) (q1 := q1) T TB hr hG0
  refine ⟨_, pss_cons p0 (pss_cons p1 (pss_cons p2 (pss_one p3))), ?_⟩
  intro D H d c cells n p rd kd kvs kns z o4 o5 o6 hcs hz k
  refine u0 _ H d c cells n p rd kd kvs kns z o4 o5 o6 hcs hz fun H1 dp nm v e1 hdp hc => ?_
  refine u1 _ H1 d c cells n p rd kd kvs kns z nm v (some (.ref dp)) o5 o6 (hcs.ex e1) hc fun H2 l tp cs2 f2 nl hl htp => ?_
  have lc : l ≠ c := fun z => nl (.lst (cells.map V.int)) (fun _ z => nomatch z) (by rw [z]; exact e1 _ _ hcs.dr.list)
  have hdp2 : H2 dp = some (.tup [.str nm, v]) := fr_tup f2 (fun _ z => nomatch z) hdp
  refine u2 _ H2 d c cells n p rd kd kvs kns z nm v l tp (some (.ref dp)) o6 cs2 hc lc hl htp fun H3 tp2 cs3 f3 hl3 h1 h2 => ?_
  have hdp3 : H3 dp = some (.tup [.str nm, v]) := f3 _ _ (fun hm => by rw [List.mem_singleton.mp hm, hl] at hdp2; cases hdp2) (fun _ z => nomatch z) hdp2
  refine u3 _ H3 d c cells n p rd kd kvs kns z nm v dp l tp tp2 o6 cs3 hz hc hl3 h1 h2 hdp3 fun H4 e4 => ?_
  refine k H4 _ _ (cs3.ex e4) fun b o hb ht ho => e4 _ _ (f3 _ _ (fun hm => ?_) ht (f2 _ _ hb ht (e1 _ _ ho)))
  rw [List.mem_singleton.mp hm] at ho
  exact nl o ht (e1 _ _ ho)

end
end BJL

namespace BJL
open PySem PySem.Spec PyProof.Rows L2 BJ
section
variable {P : Program} {w : World} {K : PySem.W.Frag} {mg : Str → Option Value} {base : Heap} {a : Adr}
open Evl
open LamX
theorem no_empty : ("" : Str) ∉ BRANDS := by decide +kernel
theorem rr_last (T : Txt P K mg a) (TB : TabB base mg a.lcode_law_read_right a.tab_law_read_right) {A : Around} {outer : List Env} {s : Shared} {H0 : Hp} {E : XK} {q1 : Str} (hr : Room 22 (A.deeper (envOfC "_law_read_right" (defScope s__law_read_right) s.heap.objs.size a._law_read_right (.ref a.lcode_law_read_right)))) (hG0 : A.guards = some []) :
    ∃ tr, PS (rrX P w K mg base a A outer s H0 E) (rrB 2) tr ∧ ∀ (D : Ends) (H : Hp) (d c : Addr) (cells : List Int) (n : Nat) (p rd kd : Addr) (kvs kns : List (Key × V)) (o3 o4 o5 o6 : Option V), Cs K a [(a.tab_law_call_right, q1), (a.tab_law_read_right, (rrX P w K mg base a A outer s H0 E).env.qual ++ ("<lambda>" : Str))] d c cells n p rd kd kvs kns H → 
      (∀ H', Ex H H' → D.rt (.bl true) H') →
      tr D [some (.ref d), some (.ref p), some (.ref kd), o3, o4, o5, o6] H := by
  obtain ⟨fdm, Fm, hb__law_caught⟩ := T.d__law_caught.fn
  obtain ⟨ocm, odm, kVm, docm, pmm, anm, cdm, ctm, oslm, rfl, lk__law_caught, hc__law_caught⟩ := Fm.ex
  have hG : A.guards = some [] := hG0
  have hu := hu_of hr
  refine ⟨_, (ps_ret (pe_cmpR (op_eqD' (K := K) rfl hr.units) (pe_lc (own := [("odd", 6)]) (g := (gName 6)) (by rfl) sc__law_read_right.nd (pi_tup (pe_tup (pa_cons pe_non (pa_cons pe_int (pa_cons pe_bl (pa_cons (pe_lst pa_nil) (pa_cons pe_dnewK (pa_cons (pe_tup (pa_cons pe_str pa_nil)) (pa_cons pe_str pa_nil))))))))) (blkOk_by (own := [("odd", 6)]) (N := ["draw", "book", "known", "word", "due", "told", "odd"]) (sc := defScope s__law_read_right) (by decide +kernel)) (fun _ _ _ _ _ => (pg_name (i := 6) sc__law_read_right.nd rfl (Or.inl rfl))) (fun _ _ _ _ _ => (pts_one (pt_cmpR op_notBool (pe_cmpR (op_inI' (X0 := rrX P w K mg base a A outer s H0 E) ⟨rfl, rfl, rfl, rfl, rfl, rfl⟩) (pv 6) (pv 1) (by rfl)) pe_bl (nomark _)))) (fun _ _ _ _ _ => pe_int)) (pe_lst pa_nil) (nomark _))), ?_⟩
  intro D H d c cells n p rd kd kvs kns o3 o4 o5 o6 hcs k
  refine op_fst (Q := fun v H => D.rt v H) ?_
  refine ⟨(by show 0 ≤ sizeLine; decide), fun l1 n1 => ?_⟩
  intro d1 n2
  refine ⟨(by show 1 ≤ sizeLine; decide), fun t1 n3 => ⟨(by show 7 ≤ sizeLine; decide), fun tq n4 => ?_⟩⟩
  have x1 := Ex.new (o := .lst []) n1
  have x2 := Ex.new (o := .dK []) n2
  have x3 := Ex.new (o := .tup [.str "a"]) n3
  have x4 := Ex.new (o := .tup [.non, .int 5, .bl true, .ref l1, .ref d1, .ref t1, .str ""]) n4
  have g1 := (x2.trans (x3.trans x4)) l1 _ upd_same
  have g2 := (x3.trans x4) d1 _ upd_same
  have g3 := x4 t1 _ upd_same
  have g4 : (upd (upd (upd (upd H l1 (.lst [])) d1 (.dK [])) t1 (.tup [.str "a"])) tq (.tup [.non, .int 5, .bl true, .ref l1, .ref d1, .ref t1, .str ""])) tq = some (.tup [.non, .int 5, .bl true, .ref l1, .ref d1, .ref t1, .str ""]) := upd_same
  have xa := x1.trans (x2.trans (x3.trans x4))
  generalize upd (upd (upd (upd H l1 (.lst [])) d1 (.dK [])) t1 (.tup [.str "a"])) tq (.tup [.non, .int 5, .bl true, .ref l1, .ref d1, .ref t1, .str ""]) = H4 at g1 g2 g3 g4 xa ⊢
  have cs4 := hcs.ex xa
  refine ⟨tq, rfl, ⟨_, st_of g4⟩, ?_⟩
  have hnone : valV kvs (.inr "") = none := by
    cases e : valV kvs (.inr "") with
    | none => rfl
    | some v =>
      obtain ⟨v', e'⟩ := val_some cs4.bk.ok.1 e
      obtain ⟨z, hz, h⟩ := (cs4.bk.ks _ (valV_mem e')).1
      cases h
      exact (no_empty hz).elim
  refine lc_atA (walk_tup (K := K) (a := tq) (xs := [.non, .int 5, .bl true, .ref l1, .ref d1, .ref t1, .str ""])) (fun _ => false) id (by show 7 ≤ 1000000; decide) (fun H' e => ex_t e (st_of g4)) (fun x => rfl) (fun x hx => ?_) (fun x hx h => nomatch h) fun Dl H5 nD e5 hD => ?_
  · have kn : Kn K a H4 x false ∧ inRg kvs x = false := by
      simp only [List.mem_cons, List.not_mem_nil, or_false] at hx
      rcases hx with rfl | rfl | rfl | rfl | rfl | rfl | rfl
      · exact ⟨kn_dz T .non, rfl⟩
      · exact ⟨kn_dz T (.int 5), rfl⟩
      · exact ⟨kn_dz T (.bl true), rfl⟩
      · obtain ⟨q1, q2, q3, _⟩ := kitD (.list [])
        exact ⟨⟨_, .base (.lst g1), kit_ty q1, kit_ty q2, kit_ty q3, rfl⟩, rfl⟩
      · obtain ⟨q1, q2, q3, _⟩ := kitD (.dict [])
        exact ⟨⟨_, .base (.dK g2), kit_ty q1, kit_ty q2, kit_ty q3, rfl⟩, rfl⟩
      · exact ⟨kn_dz T (.tup (st_of g3) (.cons (.str _) .nil)), rfl⟩
      · exact ⟨kn_dz T (.str ""), by show (valV kvs (.inr "")).isSome = false; rw [hnone]; rfl⟩
    refine et_test fun H5 e5 Q q => ?_
    have cs5 := cs4.ex e5
    obtain ⟨dx, hp⟩ := cs5.bk.rg.at_
    refine ⟨_, rfl, _, rfl, p, a.Registry, dx, a.Registry___contains__, _, 2, _, rfl, hp, ⟨T.p_Registry___contains__.at_, T.p_Registry___contains__.fn⟩, ok_in T, hr.mono (by decide), p, rd, kvs, x, false, rfl, cs5.bk.rg, kn.1.ex e5, _, rfl, ?_⟩
    rw [kn.2]
    exact ⟨_, _, rfl, rfl, q _ (Ex.refl _)⟩
  · refine ⟨(by show 0 ≤ sizeLine; decide), fun l2 n5 => ?_⟩
    have x6 := Ex.new (o := .lst []) n5
    refine ⟨.list [], .list [], .lst (sq_of (x6 _ _ hD)) .nil, .lst (sq_of upd_same) .nil, by decide +kernel, by decide +kernel, ?_⟩
    rw [show PyData.eqv (.list []) (.list []) = true by decide +kernel]
    exact k _ ((xa.trans e5).trans x6)
def spReadR (K : PySem.W.Frag) (a : Adr) : Sp := fun vs H Q _ => ∃ d c cells n p rd kd kvs kns, vs = [.ref d, .ref p, .ref kd] ∧ Cs K a (TTs a) d c cells n p rd kd kvs kns H ∧ n < 90000 ∧ kns.length ≤ 62 ∧
  ∀ H', Cs K a (TTs a) d c cells (n + 2) p rd kd kvs kns H' → Fr [d] H H' → Q (.bl true) H'
theorem ok__law_read_right (T : Txt P K mg a) (TB : TabB base mg a.lcode_law_read_right a.tab_law_read_right) : CallP P w K mg base 23 (.ref a._law_read_right) (spReadR K a) := by
  have G__law_brand : CallP P w K mg base 3 (.ref a._law_brand) spBr := (ok__law_brand T).p
  refine T.dc__law_read_right.ok sc__law_read_right (fun vs H Q E h => ?_) (fun A outer s H vs Q E hr hG h => ?_)
  · obtain ⟨d, c, cells, n, p, rd, kd, kvs, kns, rfl, _⟩ := h
    rfl
  · obtain ⟨d, c, cells, n, p, rd, kd, kvs, kns, rfl, hcs, hn, hl, hq⟩ := h
    have hu := hu_of hr
    obtain ⟨t0, p0, u0⟩ := rr_s0 (P := P) (w := w) (mg := mg) (base := base) (outer := outer) (s := s) (H0 := H) (E := E) (q1 := lqC) T TB hr hG
    obtain ⟨t1, p1, u1⟩ := rr_turn (P := P) (w := w) (mg := mg) (base := base) (outer := outer) (s := s) (H0 := H) (E := E) (q1 := lqC) T TB hr hG
    obtain ⟨t2, p2, u2⟩ := rr_last (P := P) (w := w) (mg := mg) (base := base) (outer := outer) (s := s) (H0 := H) (E := E) (q1 := lqC) T TB hr hG
    have lq : (rrX P w K mg base a A outer s H E).env.qual ++ ("<lambda>" : Str) = lqR := congrArg (fun z : Str => z ++ ("<lambda>" : Str)) (rfl : (rrX P w K mg base a A outer s H E).env.qual = (("_law_read_right" : Str) ++ ".<locals>."))
    rw [lq] at u0 u1 u2
    have pp : PS (rrX P w K mg base a A outer s H E) (rrB 1) _ := (ps_for (passes_of rfl) rfl (pi_list (pe_lst (pa_cons (pe_ca G__law_brand (hr.mono (by decide)) hG rfl T.g__law_brand T.k__law_brand (takes_of rfl rfl rfl rfl) (pa_cons (pv 0) pa_nil)) (pa_cons (pe_ca G__law_brand (hr.mono (by decide)) hG rfl T.g__law_brand T.k__law_brand (takes_of rfl rfl rfl rfl) (pa_cons (pv 0) pa_nil)) (pa_cons pe_str pa_nil))))) (pg_name (i := 3) sc__law_read_right.nd rfl (Or.inr rfl)) p1)
    refine ⟨_, pss_cons p0 (pss_cons pp (pss_one p2)), ?_⟩
    refine u0 _ H d c cells n p rd kd kvs kns none none none none hcs hl fun H1 e1 => ?_
    have cs1 := hcs.ex e1
    refine ⟨_, rfl, d, c, cells, n, rfl, cs1.dr, by omega, fun z1 H2 hz1 D2 s2 => ?_⟩
    have cs2 := cs1.draw D2 s2
    refine ⟨_, rfl, d, c, cells, n + 1, rfl, D2, by omega, fun z2 H3 hz2 D3 s3 => ?_⟩
    have cs3 := cs2.draw D3 s3
    refine ⟨(by show 3 ≤ sizeLine; decide), fun l nl => ?_⟩
    have e4 := Ex.new (o := .lst [.str z1, .str z2, .str "bag"]) nl
    have hl4 : (upd H3 l (.lst [.str z1, .str z2, .str "bag"])) l = some (.lst [.str z1, .str z2, .str "bag"]) := upd_same
    have f4 : Fr [d] H (upd H3 l (.lst [.str z1, .str z2, .str "bag"])) := (((Fr.ex e1).trans (Fr.sb s2 (List.Mem.head _))).trans (Fr.sb s3 (List.Mem.head _))).trans (Fr.ex e4)
    have cs4 := cs3.ex e4
    generalize upd H3 l (.lst [.str z1, .str z2, .str "bag"]) = H4 at hl4 f4 cs4 ⊢
    refine ⟨l, rfl, ⟨_, sq_of hl4⟩, ?_⟩
    refine for_list (K := K) (a := l) (xs := [.str z1, .str z2, .str "bag"]) (fun i σ' H' => (∃ o3 o4 o5 o6, σ' = [some (.ref d), some (.ref p), some (.ref kd), o3, o4, o5, o6]) ∧ Cs K a (TTs a) d c cells (n + 2) p rd kd kvs kns H' ∧ Fr [d] H H' ∧ H' l = some (.lst [.str z1, .str z2, .str "bag"])) ⟨⟨_, _, _, _, rfl⟩, cs4, f4, hl4⟩ (fun i σ' H' _ h => sq_of h.2.2.2) (fun i x σ' H' hx h => ?_) fun σ' H' h => ?_
    · obtain ⟨⟨o3, o4, o5, o6, rfl⟩, cs5, f5, hl5⟩ := h
      have hz : ∃ z : Str, x = .str z ∧ (z ∈ BRANDS ∨ z = "bag") := by
        match i, hx with
        | 0, hx => cases hx; exact ⟨z1, rfl, .inl hz1⟩
        | 1, hx => cases hx; exact ⟨z2, rfl, .inl hz2⟩
        | 2, hx => cases hx; exact ⟨"bag", rfl, .inr rfl⟩
      obtain ⟨z, rfl, hz⟩ := hz
      refine u1 _ H' d c cells (n + 2) p rd kd kvs kns z o4 o5 o6 cs5 hz fun H6 o4' o5' cs6 f6 => ?_
      exact ⟨⟨_, _, _, _, rfl⟩, cs6, f5.trans (f6.mono fun q hq => nomatch hq), f6 _ _ (fun z => nomatch z) (fun _ z => nomatch z) hl5⟩
    · obtain ⟨⟨o3, o4, o5, o6, rfl⟩, cs5, f5, hl5⟩ := h
      exact u2 _ H' d c cells (n + 2) p rd kd kvs kns o3 o4 o5 o6 cs5 fun H6 e6 => hq H6 (cs5.ex e6) (f5.trans (Fr.ex e6))

end
end BJL

namespace BJL
open PySem PySem.Spec PyProof.Rows L2 BJ
section
variable {P : Program} {w : World} {K : PySem.W.Frag} {mg : Str → Option Value} {base : Heap} {a : Adr}
open Evl
open LamX
theorem q_par {i j : Nat} {ta : TA} {tz : TS} {D : Ends} {σ : L2.St} {H : Hp} (h : ta σ H fun vs H1 => ∃ v w, vs = [v, w] ∧ tz D ((σ.set i (some v)).set j (some w)) H1) : tSeq (tPar i j ta) tz D σ H := h
def STARTW : List Str := ["a", "shop.item", "Z", X40]
/-- brands that take no arguments -/
def kz (zs : List Str) : List (Key × V) := zs.map fun z => ((Sum.inr z : Key), V.int 0)
theorem kz_val {k : Key} {v : V} : ∀ {zs : List Str}, valV (kz zs) k = some v → v = .int 0 ∧ valV (NR a zs) k = some (.ref a.NO_RULES)
  | [], h => by cases h
  | z :: zs, h => by
    by_cases e : (Sum.inr z : Key) = k
    · rw [show kz (z :: zs) = ((Sum.inr z : Key), V.int 0) :: kz zs from rfl, valV_pos (p := ((Sum.inr z : Key), V.int 0)) e] at h
      cases h
      rw [show NR a (z :: zs) = ((Sum.inr z : Key), V.ref a.NO_RULES) :: NR a zs from rfl, valV_pos (p := ((Sum.inr z : Key), V.ref a.NO_RULES)) e]
      exact ⟨rfl, rfl⟩
    · rw [show kz (z :: zs) = ((Sum.inr z : Key), V.int 0) :: kz zs from rfl, valV_neg (p := ((Sum.inr z : Key), V.int 0)) e] at h
      rw [show NR a (z :: zs) = ((Sum.inr z : Key), V.ref a.NO_RULES) :: NR a zs from rfl, valV_neg (p := ((Sum.inr z : Key), V.ref a.NO_RULES)) e]
      exact kz_val h
theorem kz_ok (T : Txt P K mg a) {H : Hp} (zs : List Str) : RlOk K H (NR a zs) (kz zs) := by
  refine ⟨by unfold NR kz; rw [List.map_map, List.map_map]; rfl, fun k v h => ?_⟩
  obtain ⟨rfl, h2⟩ := kz_val (a := a) h
  exact ⟨a.NO_RULES, .non, .non, .non, h2, rowN_at T.norules H⟩
theorem start_ok : ∀ m, m ≤ 4 → (STARTW.take m).Nodup ∧ ∀ z ∈ STARTW.take m, z ∈ BRANDS := fun m hm => by
  have nd : STARTW.Nodup := by decide +kernel
  have al : ∀ z ∈ STARTW, z ∈ BRANDS := by decide +kernel
  exact ⟨nd.sublist (List.take_sublist m _), fun z hz => al z (List.mem_of_mem_take hz)⟩
theorem start_bk (T : Txt P K mg a) {H : Hp} {p rd kd : Addr} {m : Nat} (hm : m ≤ 4) (rg : RgAt a H p rd (NR a (STARTW.take m))) (hk : H kd = some (.dK (kz (STARTW.take m)))) (ne : rd ≠ kd) : Bk K a H p rd kd (NR a (STARTW.take m)) (kz (STARTW.take m)) := by
  obtain ⟨nd, al⟩ := start_ok m hm
  refine ⟨rg, hk, kz_ok T _, fun kn hk => ?_, ?_, ne⟩
  · obtain ⟨z, hz, rfl⟩ := List.mem_map.mp hk
    exact ⟨⟨z, al z hz, rfl⟩, .inl rfl⟩
  · unfold kz
    rw [List.map_map]
    exact List.Pairwise.map _ (fun a b hab e => hab (Sum.inr.inj e)) nd
theorem cut_start : ∀ m : Nat, m ≤ 4 → cutV (STARTW.map V.str) none (some (m : Int)) = (STARTW.take m).map V.str
  | 0, _ => by decide +kernel
  | 1, _ => by decide +kernel
  | 2, _ => by decide +kernel
  | 3, _ => by decide +kernel
  | 4, _ => by decide +kernel
  | m + 5, h => by omega
def spStarted (K : PySem.W.Frag) (a : Adr) : Sp := fun vs H Q _ => ∃ d c cells n, vs = [.ref d] ∧ Dr H d c cells n ∧ n < 90000 ∧
  ∀ H' t p rd kd kvs kns, SameBut d H H' → H' t = some (.tup [.ref p, .ref kd]) → Dr H' d c cells (n + 1) → Bk K a H' p rd kd kvs kns → kns.length ≤ 4 → d ≠ rd → d ≠ kd → Q (.ref t) H'
theorem ok__law_started (T : Txt P K mg a) : CallP P w K mg base 14 (.ref a._law_started) (spStarted K a) := by
  have G__law_next : CallP P w K mg base 2 (.ref a._law_next) spNext := (ok__law_next T).p
  have G_Registry := ok_Registry (P := P) (w := w) (base := base) (mg := mg) T
  have G0_Registry := ok_Registry (P := P) (w := w) (base := base) (mg := mg) T
  refine T.d__law_started.ok sc__law_started (fun vs H Q E h => ?_) (fun cdv A outer s H vs Q E hr hG h => ?_)
  · obtain ⟨d, c, cells, n, rfl, _⟩ := h
    rfl
  · obtain ⟨d, c, cells, n, rfl, dr, hn, hq⟩ := h
    have hu := hu_of hr
    refine ⟨_, (pss_cons (ps_par (i := 1) (j := 2) rfl sc__law_started.nd rfl rfl (by decide) rfl rfl (pa_cons (pe_lst (pa_cons pe_str (pa_cons pe_str (pa_cons pe_str (pa_cons (pe_op op_mulS pe_str pe_int) pa_nil))))) (pa_cons (pe_ca G__law_next (hr.mono (by decide)) hG rfl T.g__law_next T.k__law_next (takes_of rfl rfl rfl rfl) (pa_cons (pv 0) (pa_cons pe_int pa_nil))) pa_nil)) (by rfl))
 (pss_cons (ps_set (i := 3) sc__law_started.nd rfl (Or.inl rfl) pe_dnewK)
 (pss_cons (ps_for (passes_of rfl) rfl (pi_list (pe_slice sl_list (pv 1) po_none (po_some (pv 2)))) (pg_name (i := 4) sc__law_started.nd rfl (Or.inl rfl))
 (pss_one (ps_dput hu (pv 3) (pv 4) pe_int rfl)))
 (pss_cons (ps_set (i := 5) sc__law_started.nd rfl (Or.inl rfl) (pe_lst (pa_cons (pe_cx0 G0_Registry (hr.mono (by decide)) rfl T.g_Registry T.k_Registry (takes_of rfl rfl rfl rfl) pk_nil) (pa_cons (pe_cx G_Registry (hr.mono (by decide)) rfl T.g_Registry T.k_Registry (takes_of rfl rfl rfl rfl) (pa_cons pe_str pa_nil) pk_nil) (pa_cons (pe_cx G_Registry (hr.mono (by decide)) rfl T.g_Registry T.k_Registry (takes_of rfl rfl rfl rfl) (pa_cons pe_str (pa_cons pe_str pa_nil)) pk_nil) (pa_cons (pe_cx G_Registry (hr.mono (by decide)) rfl T.g_Registry T.k_Registry (takes_of rfl rfl rfl rfl) (pa_cons pe_str (pa_cons pe_str (pa_cons pe_str pa_nil))) pk_nil) pa_nil))))))
 (pss_cons (ps_expr (pe_bm PySem.F.plainAttrs_list PySem.F.slot_list_append PySem.F.type_list_append mt_append (pv 5) (pa_cons (pe_cx G_Registry (hr.mono (by decide)) rfl T.g_Registry T.k_Registry (takes_of rfl rfl rfl rfl) (pa_cons pe_str (pa_cons pe_str (pa_cons pe_str (pa_cons (pe_op op_mulS pe_str pe_int) pa_nil)))) pk_nil) pa_nil)))
 (pss_one (ps_ret (pe_tup (pa_cons (pe_ix (ix_list' (K := K) rfl) (pv 5) (pv 2) (fun _ _ => rfl)) (pa_cons (pv 3) pa_nil)))))))))), ?_⟩
    have el : EvL (tLst (tCons (tC (.str "a")) (tCons (tC (.str "shop.item")) (tCons (tC (.str "Z")) (tCons (tOp rMulS (tC (.str "x")) (tC (.int 40))) tNil))))) (start ["draw", "words", "many", "known", "word", "books"] [.ref d]) H (STARTW.map V.str) := by
      refine el_lst (vs := STARTW.map V.str) (ea_cons ev_c (ea_cons ev_c (ea_cons ev_c (ea_cons (ev_op ev_c ev_c ?_) ea_nil)))) (by decide)
      exact fun H1 e Q q => ⟨120, 40, rfl, rfl, by decide, by decide, by rw [← x40] at q; exact q H1 (Ex.refl _)⟩
    refine q_par (ta_fst (el H (Ex.refl _) _ fun l H1 nl e1 hl => ?_))
    have ld : l ≠ d := fun z => by obtain ⟨u, hu⟩ := dr.atd; rw [z, hu] at nl; cases nl
    refine ⟨_, rfl, d, c, cells, n, 5, rfl, dr.same e1, by omega, by omega, by omega, fun r H2 r0 r1 D2 B2 => ⟨_, _, rfl, ?_⟩⟩
    obtain ⟨m, hm, rfl⟩ : ∃ m : Nat, m ≤ 4 ∧ r = (m : Int) := ⟨r.toNat, by omega, by omega⟩
    have hl2 : H2 l = some (.lst (STARTW.map V.str)) := by rw [B2 _ ld]; exact hl
    have sb2 : SameBut d H H2 := (SameBut.of e1).trans B2.sb
    intro kd nkd
    have e3 := Ex.new (o := .dK []) nkd
    have dkd : d ≠ kd := fun z => by obtain ⟨u, hu⟩ := D2.atd; rw [z, nkd] at hu; cases hu
    have hkd0 : H kd = none := by
      cases hh : H kd with
      | none => rfl
      | some u => rw [sb2 _ _ dkd.symm hh] at nkd; cases nkd
    obtain ⟨snd, sal⟩ := start_ok m hm
    have slen : (STARTW.take m).length ≤ 4 := by rw [List.length_take]; omega
    have iv := el_sl (K := K) (σ := [some (.ref d), some (.ref l), some (.int (m : Int)), some (.ref kd), none, none]) (H := upd H2 kd (.dK [])) (te := tVar 1) (tl := tNoPart) (th := tPart (tVar 2)) (ev_var rfl) eo_none (eo_some (ev_var rfl)) (sq_of (e3 _ _ hl2))
    rw [cut_start m hm] at iv
    refine q_forNL (K := K) iv (fun ls i σ' H' => (∃ o4, σ' = [some (.ref d), some (.ref l), some (.int (m : Int)), some (.ref kd), o4, none]) ∧ SameBut d H H' ∧ Dr H' d c cells (n + 1) ∧ H' kd = some (.dK (kz ((STARTW.take m).take i))) ∧ H' ls = some (.lst ((STARTW.take m).map V.str))) ?_ (fun ls i σ' H' _ h => sq_of h.2.2.2.2) ?_ ?_
    · intro ls H3 nls e4 hls
      exact ⟨⟨_, rfl⟩, sb2.trans (SameBut.of (e3.trans e4)), (D2.same e3).same e4, e4 _ _ upd_same, hls⟩
    · rintro ls i x σ' H' hx ⟨⟨o4, rfl⟩, sb, D3, hk, hls⟩
      rw [List.getElem?_map] at hx
      obtain ⟨z, hz, rfl⟩ := Option.map_eq_some_iff.mp hx
      have hnone : valV (kz ((STARTW.take m).take i)) (.inr z) = none := by
        cases e : valV (kz ((STARTW.take m).take i)) (.inr z) with
        | none => rfl
        | some v =>
          exfalso
          have hm2 := valV_in e
          unfold kz at hm2
          rw [List.map_map] at hm2
          obtain ⟨y, hy, hyz⟩ := List.mem_map.mp hm2
          cases hyz
          obtain ⟨j, hj⟩ := List.mem_iff_getElem?.mp hy
          have hjl := (List.getElem?_eq_some_iff.mp hj).1
          have hil := (List.getElem?_eq_some_iff.mp hz).1
          rw [List.length_take] at hjl
          rw [List.getElem?_take_of_lt (by omega)] at hj
          have := (List.getElem?_inj (by omega) snd).mp (hj.trans hz.symm)
          omega
      refine ⟨_, rfl, _, rfl, kd, _, rfl, DPut.k (k := .inr z) hk (small1000 (by unfold kz; rw [List.length_map, List.length_take]; omega)), ?_⟩
      rw [putK_new _ hnone]
      have e3 : kz ((STARTW.take m).take i) ++ [((Sum.inr z : Key), V.int 0)] = kz ((STARTW.take m).take (i + 1)) := by
        unfold kz
        rw [List.take_add_one (i := i), hz, List.map_append]
        rfl
      rw [e3]
      refine ⟨⟨_, rfl⟩, fun b o hb ho => ?_, dr_upd D3 hk dkd, upd_same, ?_⟩
      · have hbk : b ≠ kd := fun z => by rw [z, hkd0] at ho; cases ho
        rw [upd_ne hbk]
        exact sb _ _ hb ho
      · rw [upd_ne (ne_of hls hk fun z => nomatch z)]
        exact hls
    · rintro ls σ' H3 ⟨⟨o4, rfl⟩, sb3, D3, hk3, _⟩
      rw [List.length_map, List.take_length] at hk3
      have nw : ∀ {b : Addr} {H' : Hp}, Ex H3 H' → H' b = none → d ≠ b ∧ b ≠ kd := fun {b H'} e hb => by
        obtain ⟨u, hu⟩ := D3.atd
        exact ⟨(fun z => by rw [← z, e _ _ hu] at hb; cases hb), (fun z => by rw [z, e _ _ hk3] at hb; cases hb)⟩
      refine ⟨[], rfl, rfl, .nil, by decide, (fun z h => nomatch h), fun q0 v0 H4 nq0 nv0 f0 g0 => ?_⟩
      refine ⟨["a"], rfl, rfl, by decide +kernel, by decide, by decide +kernel, fun q1 v1 H5 nq1 nv1 f1 g1 => ?_⟩
      refine ⟨["a", "shop.item"], rfl, rfl, by decide +kernel, by decide, by decide +kernel, fun q2 v2 H6 nq2 nv2 f2 g2 => ?_⟩
      refine ⟨["a", "shop.item", "Z"], rfl, rfl, by decide +kernel, by decide, by decide +kernel, fun q3 v3 H7 nq3 nv3 f3 g3 => ?_⟩
      refine ⟨(by show 4 ≤ sizeLine; decide), fun lb nlb => ?_⟩
      have fb := Ex.new (o := .lst [.ref q0, .ref q1, .ref q2, .ref q3]) nlb
      refine ⟨_, rfl, .inl ⟨rfl, _, sq_of upd_same⟩, ?_⟩
      refine ⟨120, 40, rfl, rfl, by decide, by decide, ?_⟩
      have hx : repS 120 40 = X40 := x40
      refine ⟨["a", "shop.item", "Z", repS 120 40], rfl, rfl, by rw [hx]; decide +kernel, by show 4 ≤ 20; decide, by rw [hx]; decide +kernel, fun q4 v4 H8 nq4 nv4 f4 g4 => ?_⟩
      rw [hx] at g4
      have hlb : H8 lb = some (.lst [.ref q0, .ref q1, .ref q2, .ref q3]) := f4 _ _ upd_same
      refine ⟨lb, _, _, rfl, rfl, hlb, (by show 4 < sizeLine; decide), ?_⟩
      have hl9 : (upd H8 lb (.lst ([.ref q0, .ref q1, .ref q2, .ref q3] ++ [.ref q4]))) lb = some (.lst [.ref q0, .ref q1, .ref q2, .ref q3, .ref q4]) := upd_same
      have kx : ∀ {b : Addr} {o : HO}, H8 b = some o → (∀ zs, o ≠ .lst zs) → (upd H8 lb (.lst ([.ref q0, .ref q1, .ref q2, .ref q3] ++ [.ref q4]))) b = some o := fun {b o} hb ho => by
        rw [upd_ne (ne_of hb hlb fun z => ho _ z)]; exact hb
      have x3 : Ex H3 H7 := ((f0.trans f1).trans f2).trans f3
      have x4 : Ex H3 H8 := (x3.trans fb).trans f4
      have sel : ∃ p rd H', atI [.ref q0, .ref q1, .ref q2, .ref q3, .ref q4] (m : Int) = some (V.ref p) ∧ RgAt a H8 p rd (NR a (STARTW.take m)) ∧ Ex H3 H' ∧ H' rd = none := by
        match m, hm with
        | 0, _ => exact ⟨q0, v0, H3, rfl, g0.ex ((((f1.trans f2).trans f3).trans fb).trans f4), Ex.refl _, nv0⟩
        | 1, _ => exact ⟨q1, v1, H4, rfl, g1.ex (((f2.trans f3).trans fb).trans f4), f0, nv1⟩
        | 2, _ => exact ⟨q2, v2, H5, rfl, g2.ex ((f3.trans fb).trans f4), f0.trans f1, nv2⟩
        | 3, _ => exact ⟨q3, v3, H6, rfl, g3.ex (fb.trans f4), (f0.trans f1).trans f2, nv3⟩
        | 4, _ => exact ⟨q4, v4, _, rfl, g4, x3.trans fb, nv4⟩
      obtain ⟨p, rd, H', hat, rg, xr, nrd⟩ := sel
      obtain ⟨n1, n2⟩ := nw xr nrd
      have rg9 : RgAt a (upd H8 lb (.lst ([.ref q0, .ref q1, .ref q2, .ref q3] ++ [.ref q4]))) p rd (NR a (STARTW.take m)) := by
        obtain ⟨dx, hp⟩ := rg.at_
        exact ⟨⟨dx, kx hp (fun _ z => nomatch z)⟩, kx rg.dict (fun _ z => nomatch z)⟩
      have hk9 := kx (x4 _ _ hk3) (fun _ z => nomatch z)
      have nlb3 : H3 lb = none := fresh_back x3 nlb
      have D9 : Dr (upd H8 lb (.lst ([.ref q0, .ref q1, .ref q2, .ref q3] ++ [.ref q4]))) d c cells (n + 1) := by
        obtain ⟨⟨x, y, w, h1, h2⟩, hcl, hn, hz⟩ := D3
        exact ⟨⟨x, y, w, kx (x4 _ _ h1) (fun _ z => nomatch z), h2⟩, by rw [upd_ne (fun z => by rw [← z, hcl] at nlb3; cases nlb3)]; exact x4 _ _ hcl, hn, hz⟩
      refine ⟨_, rfl, _, rfl, lb, _, (m : Int), .ref p, rfl, rfl, sq_of hl9, hat, _, rfl, (by show 2 ≤ sizeLine; decide), fun t nt => ?_⟩
      have et := Ex.new (o := .tup [.ref p, .ref kd]) nt
      refine hq _ t p rd kd _ _ (fun b o hb ho => ?_) upd_same (D9.same et) ((start_bk T hm rg9 hk9 n2).ex et) (by unfold kz; rw [List.length_map]; exact slen) n1 dkd
      refine et _ _ ?_
      rw [upd_ne (fun z => by rw [z] at ho; rw [sb3 _ _ (fun z2 => hb (z ▸ z2)) ho] at nlb3; cases nlb3)]
      exact x4 _ _ (sb3 _ _ hb ho)

end
end BJL

namespace BJL
open PySem PySem.Spec PyProof.Rows L2 BJ
section
variable {P : Program} {w : World} {K : PySem.W.Frag} {mg : Str → Option Value} {base : Heap} {a : Adr}
open Evl
open LamX
abbrev lwN : List Str := ["script", "draw", "turn", "book", "known", "again", "other", "other_known"]
abbrev lwX (P : Program) (w : World) (K : PySem.W.Frag) (mg : Str → Option Value) (base : Heap) (a : Adr) (cdv : Value) (A : Around) (outer : List Env) (s : Shared) (H : Hp) (E : XK) : Cx := cxOf (L2.CX P w) P w K mg base BJL.lwN "law" (defScope s_law) a.law cdv A outer s H E
abbrev lwB (i : Nat) : Stmt := (match (defBody s_law).getD 1 (.Pass ⟨0, 0, 0, 0⟩) with | .For _ _ b _ _ => b | _ => []).getD i (.Pass ⟨0, 0, 0, 0⟩)
section
variable {TT : List (Addr × Str)} {d c : Addr} {cells : List Int} {n m : Nat} {p rd kd p2 rd2 kd2 : Addr} {kvs kns kvs2 kns2 : List (Key × V)} {H H' : Hp} {L : List Addr}
theorem Cs.move (h : Cs K a TT d c cells n p rd kd kvs kns H) (f : Fr L H H') (hL : Dks L H) (h1 : rd ∉ L) (h2 : kd ∉ L) (D : Dr H' d c cells m) (tb : Tabs TT H') : Cs K a TT d c cells m p rd kd kvs kns H' := ⟨D, h.bk.fr f hL h1 h2, tb, h.d1, h.d2⟩
/-- two registries that share nothing -/
structure C2 (K : PySem.W.Frag) (a : Adr) (TT : List (Addr × Str)) (d c : Addr) (cells : List Int) (n : Nat) (p rd kd : Addr) (kvs kns : List (Key × V)) (p2 rd2 kd2 : Addr) (kvs2 kns2 : List (Key × V)) (H : Hp) : Prop where
  c1 : Cs K a TT d c cells n p rd kd kvs kns H
  c2 : Cs K a TT d c cells n p2 rd2 kd2 kvs2 kns2 H
  n1 : rd ≠ rd2
  n2 : rd ≠ kd2
  n3 : kd ≠ rd2
  n4 : kd ≠ kd2
theorem Cs.dks (h : Cs K a TT d c cells n p rd kd kvs kns H) : Dks [d, rd, kd] H := fun q hq => by
  rcases List.mem_cons.mp hq with rfl | hq
  · exact h.dr.atd
  · exact dks_of h q hq
theorem off3 {x y z u : Addr} (h1 : x ≠ u) (h2 : y ≠ u) (h3 : z ≠ u) : u ∉ [x, y, z] := fun h => by
  simp only [List.mem_cons, List.not_mem_nil, or_false] at h
  rcases h with h | h | h
  · exact h1 h.symm
  · exact h2 h.symm
  · exact h3 h.symm
theorem C2.swap (h : C2 K a TT d c cells n p rd kd kvs kns p2 rd2 kd2 kvs2 kns2 H) : C2 K a TT d c cells n p2 rd2 kd2 kvs2 kns2 p rd kd kvs kns H := ⟨h.c2, h.c1, h.n1.symm, h.n3.symm, h.n2.symm, h.n4.symm⟩
theorem C2.call (h : C2 K a TT d c cells n p rd kd kvs kns p2 rd2 kd2 kvs2 kns2 H) {kvs' kns' : List (Key × V)} (cs : Cs K a TT d c cells m p rd kd kvs' kns' H') (f : Fr [d, rd, kd] H H') : C2 K a TT d c cells m p rd kd kvs' kns' p2 rd2 kd2 kvs2 kns2 H' :=
  ⟨cs, h.c2.move f h.c1.dks (off3 h.c2.d1 h.n1 h.n3) (off3 h.c2.d2 h.n2 h.n4) cs.dr cs.tb, h.n1, h.n2, h.n3, h.n4⟩
theorem C2.read (h : C2 K a TT d c cells n p rd kd kvs kns p2 rd2 kd2 kvs2 kns2 H) (cs : Cs K a TT d c cells m p rd kd kvs kns H') (f : Fr [d] H H') : C2 K a TT d c cells m p rd kd kvs kns p2 rd2 kd2 kvs2 kns2 H' :=
  h.call cs (f.mono fun q hq => by rw [List.mem_singleton.mp hq]; exact List.Mem.head _)
end
theorem lw_first (T : Txt P K mg a) (TB1 : TabB base mg a.lcode_law_call_right a.tab_law_call_right) (TB2 : TabB base mg a.lcode_law_read_right a.tab_law_read_right) {cdv : Value} {A : Around} {outer : List Env} {s : Shared} {H0 : Hp} {E : XK} (hr : Room 26 (A.deeper (envOfC "law" (defScope s_law) s.heap.objs.size a.law cdv))) (hG : A.guards = some []) :
    ∃ tr, PS (lwX P w K mg base a cdv A outer s H0 E) (lwB 1) tr ∧ ∀ (D : Ends) (H : Hp) (d c : Addr) (cells : List Int) (sc : V) (p rd kd : Addr) (kvs kns : List (Key × V)) (n : Nat) (o2 o5 o6 o7 : Option V), Cs K a (TTs a) d c cells n p rd kd kvs kns H → n ≤ 5000 → kns.length ≤ 4 →
      (∀ H' kvs' kns' o5, Cs K a (TTs a) d c cells (n + 100) p rd kd kvs' kns' H' → kns'.length ≤ 24 → D.nx [some sc, some (.ref d), o2, some (.ref p), some (.ref kd), o5, o6, o7] H') →
      tr D [some sc, some (.ref d), o2, some (.ref p), some (.ref kd), o5, o6, o7] H := by
  have G__law_call_right : CallP P w K mg base 23 (.ref a._law_call_right) (spCallR K a) := ok__law_call_right T TB1
  have G__law_read_right : CallP P w K mg base 23 (.ref a._law_read_right) (spReadR K a) := ok__law_read_right T TB2
  refine ⟨_, (ps_for (passes_of rfl) rfl (pi_range1 (by rfl) T.b_range (pa_cons pe_int pa_nil)) (pg_name (i := 5) sc_law.nd rfl (Or.inl rfl))
 (pss_one (ps_if (PW.pt (pw_or (pt_not (pt_val (pe_ca G__law_call_right (hr.mono (by decide)) hG rfl T.g__law_call_right T.k__law_call_right (takes_of rfl rfl rfl rfl) (pa_cons (pv 1) (pa_cons (pv 3) (pa_cons (pv 4) pa_nil)))))) (pw_or1 (pt_not (pt_val (pe_ca G__law_read_right (hr.mono (by decide)) hG rfl T.g__law_read_right T.k__law_read_right (takes_of rfl rfl rfl rfl) (pa_cons (pv 1) (pa_cons (pv 3) (pa_cons (pv 4) pa_nil)))))))))
 (pss_one (ps_ret pe_bl))
 pss_nil))), ?_⟩
  intro D H d c cells sc p rd kd kvs kns n o2 o5 o6 o7 cs hn hl k
  refine ⟨20, rfl, by decide, by decide, for_range (lo := 0) (n := (20 : Int).toNat) (fun i σ' H' => ∃ o5 kvs' kns', σ' = [some sc, some (.ref d), o2, some (.ref p), some (.ref kd), o5, o6, o7] ∧ Cs K a (TTs a) d c cells (n + 5 * i) p rd kd kvs' kns' H' ∧ kns'.length ≤ 4 + i) ⟨_, kvs, kns, rfl, cs, by omega⟩ (fun i σ' H1 hi h => ?_) fun σ' H' h => ?_⟩
  · obtain ⟨o5', kvs1, kns1, rfl, cs1, hl1⟩ := h
    have hi20 : i < 20 := hi
    refine ⟨_, rfl, _, rfl, _, rfl, d, c, cells, n + 5 * i, p, rd, kd, kvs1, kns1, rfl, cs1, by omega, by omega, fun H2 kvs2 kns2 cs2 le2 f2 => ⟨true, rfl, iteF ?_⟩⟩
    refine ⟨_, rfl, _, rfl, _, rfl, d, c, cells, _, p, rd, kd, kvs2, kns2, rfl, cs2, by omega, by omega, fun H3 cs3 f3 => ⟨true, rfl, iteF ?_⟩⟩
    exact ⟨_, kvs2, kns2, rfl, cs3, by omega⟩
  · obtain ⟨o5', kvs1, kns1, rfl, cs1, hl1⟩ := h
    exact k H' kvs1 kns1 o5' cs1 hl1
theorem lw_second (T : Txt P K mg a) (TB1 : TabB base mg a.lcode_law_call_right a.tab_law_call_right) (TB2 : TabB base mg a.lcode_law_read_right a.tab_law_read_right) {cdv : Value} {A : Around} {outer : List Env} {s : Shared} {H0 : Hp} {E : XK} (hr : Room 26 (A.deeper (envOfC "law" (defScope s_law) s.heap.objs.size a.law cdv))) (hG : A.guards = some []) :
    ∃ tr, PS (lwX P w K mg base a cdv A outer s H0 E) (lwB 3) tr ∧ ∀ (D : Ends) (H : Hp) (d c : Addr) (cells : List Int) (sc : V) (p rd kd p2 rd2 kd2 : Addr) (kvs kns kvs2 kns2 : List (Key × V)) (n : Nat) (o2 o5 : Option V), C2 K a (TTs a) d c cells n p rd kd kvs kns p2 rd2 kd2 kvs2 kns2 H → n ≤ 5000 → kns.length ≤ 24 → kns2.length ≤ 24 →
      (∀ H' o5, Dr H' d c cells (n + 100) → Tabs (TTs a) H' → D.nx [some sc, some (.ref d), o2, some (.ref p), some (.ref kd), o5, some (.ref p2), some (.ref kd2)] H') →
      tr D [some sc, some (.ref d), o2, some (.ref p), some (.ref kd), o5, some (.ref p2), some (.ref kd2)] H := by
  have G__law_call_right : CallP P w K mg base 23 (.ref a._law_call_right) (spCallR K a) := ok__law_call_right T TB1
  have G__law_read_right : CallP P w K mg base 23 (.ref a._law_read_right) (spReadR K a) := ok__law_read_right T TB2
  refine ⟨_, (ps_for (passes_of rfl) rfl (pi_range1 (by rfl) T.b_range (pa_cons pe_int pa_nil)) (pg_name (i := 5) sc_law.nd rfl (Or.inl rfl))
 (pss_cons (ps_if (PW.pt (pw_or (pt_not (pt_val (pe_ca G__law_call_right (hr.mono (by decide)) hG rfl T.g__law_call_right T.k__law_call_right (takes_of rfl rfl rfl rfl) (pa_cons (pv 1) (pa_cons (pv 6) (pa_cons (pv 7) pa_nil)))))) (pw_or1 (pt_not (pt_val (pe_ca G__law_call_right (hr.mono (by decide)) hG rfl T.g__law_call_right T.k__law_call_right (takes_of rfl rfl rfl rfl) (pa_cons (pv 1) (pa_cons (pv 3) (pa_cons (pv 4) pa_nil)))))))))
 (pss_one (ps_ret pe_bl))
 pss_nil)
 (pss_one (ps_if (PW.pt (pw_or (pt_not (pt_val (pe_ca G__law_read_right (hr.mono (by decide)) hG rfl T.g__law_read_right T.k__law_read_right (takes_of rfl rfl rfl rfl) (pa_cons (pv 1) (pa_cons (pv 6) (pa_cons (pv 7) pa_nil)))))) (pw_or1 (pt_not (pt_val (pe_ca G__law_read_right (hr.mono (by decide)) hG rfl T.g__law_read_right T.k__law_read_right (takes_of rfl rfl rfl rfl) (pa_cons (pv 1) (pa_cons (pv 3) (pa_cons (pv 4) pa_nil)))))))))
 (pss_one (ps_ret pe_bl))
 pss_nil)))), ?_⟩
  intro D H d c cells sc p rd kd p2 rd2 kd2 kvs kns kvs2 kns2 n o2 o5 cs hn hl hl2 k
  refine ⟨10, rfl, by decide, by decide, for_range (lo := 0) (n := (10 : Int).toNat) (fun i σ' H' => ∃ o5 kvs' kns' kvs2' kns2', σ' = [some sc, some (.ref d), o2, some (.ref p), some (.ref kd), o5, some (.ref p2), some (.ref kd2)] ∧ C2 K a (TTs a) d c cells (n + 10 * i) p rd kd kvs' kns' p2 rd2 kd2 kvs2' kns2' H' ∧ kns'.length ≤ 24 + i ∧ kns2'.length ≤ 24 + i) ⟨_, kvs, kns, kvs2, kns2, rfl, cs, by omega, by omega⟩ (fun i σ' H1 hi h => ?_) fun σ' H' h => ?_⟩
  · obtain ⟨o5', kvs1, kns1, kvs21, kns21, rfl, cs1, hl1, hl21⟩ := h
    have hi10 : i < 10 := hi
    refine ⟨_, rfl, _, rfl, _, rfl, d, c, cells, n + 10 * i, p2, rd2, kd2, kvs21, kns21, rfl, cs1.c2, by omega, by omega, fun H2 kvs22 kns22 q2 le2 f2 => ⟨true, rfl, iteF ?_⟩⟩
    have cs2 := (cs1.swap.call q2 f2).swap
    refine ⟨_, rfl, _, rfl, _, rfl, d, c, cells, _, p, rd, kd, kvs1, kns1, rfl, cs2.c1, by omega, by omega, fun H3 kvs13 kns13 q3 le3 f3 => ⟨true, rfl, iteF ?_⟩⟩
    have cs3 := cs2.call q3 f3
    refine ⟨_, rfl, _, rfl, _, rfl, d, c, cells, _, p2, rd2, kd2, kvs22, kns22, rfl, cs3.c2, by omega, by omega, fun H4 q4 f4 => ⟨true, rfl, iteF ?_⟩⟩
    have cs4 := (cs3.swap.read q4 f4).swap
    refine ⟨_, rfl, _, rfl, _, rfl, d, c, cells, _, p, rd, kd, kvs13, kns13, rfl, cs4.c1, by omega, by omega, fun H5 q5 f5 => ⟨true, rfl, iteF ?_⟩⟩
    exact ⟨_, _, _, _, _, rfl, cs4.read q5 f5, by omega, by omega⟩
  · obtain ⟨o5', kvs1, kns1, kvs21, kns21, rfl, cs1, hl1, hl21⟩ := h
    exact k H' o5' cs1.c1.dr cs1.c1.tb

end
end BJL

namespace BJL
open PySem PySem.Spec PyProof.Rows L2 BJ
section
variable {P : Program} {w : World} {K : PySem.W.Frag} {mg : Str → Option Value} {base : Heap} {a : Adr}
open Evl
open LamX
theorem lw_start (T : Txt P K mg a) (TB1 : TabB base mg a.lcode_law_call_right a.tab_law_call_right) (TB2 : TabB base mg a.lcode_law_read_right a.tab_law_read_right) {cdv : Value} {A : Around} {outer : List Env} {s : Shared} {H0 : Hp} {E : XK} (hr : Room 26 (A.deeper (envOfC "law" (defScope s_law) s.heap.objs.size a.law cdv))) (hG : A.guards = some []) :
    ∃ tr, PS (lwX P w K mg base a cdv A outer s H0 E) (lwB 0) tr ∧ ∀ (D : Ends) (H : Hp) (d c : Addr) (cells : List Int) (sc : V) (n : Nat) (o2 o3 o4 o5 o6 o7 : Option V), Dr H d c cells n → Tabs (TTs a) H → n ≤ 5000 →
      (∀ H' p rd kd kvs kns, Cs K a (TTs a) d c cells (n + 1) p rd kd kvs kns H' → kns.length ≤ 4 → D.nx [some sc, some (.ref d), o2, some (.ref p), some (.ref kd), o5, o6, o7] H') →
      tr D [some sc, some (.ref d), o2, o3, o4, o5, o6, o7] H := by
  have G__law_call_right : CallP P w K mg base 23 (.ref a._law_call_right) (spCallR K a) := ok__law_call_right T TB1
  have G__law_read_right : CallP P w K mg base 23 (.ref a._law_read_right) (spReadR K a) := ok__law_read_right T TB2
  have G__law_started : CallP P w K mg base 14 (.ref a._law_started) (spStarted K a) := ok__law_started T
  refine ⟨_, (ps_asg (pe_ca G__law_started (hr.mono (by decide)) hG rfl T.g__law_started T.k__law_started (takes_of rfl rfl rfl rfl) (pa_cons (pv 1) pa_nil)) (pg_tup rfl (pgs_cons (pg_name (i := 3) sc_law.nd rfl (Or.inl rfl)) (pgs_cons (pg_name (i := 4) sc_law.nd rfl (Or.inl rfl)) pgs_nil))) (by rfl)), ?_⟩
  intro D H d c cells sc n o2 o3 o4 o5 o6 o7 dr tb hn k
  refine ⟨_, rfl, d, c, cells, n, rfl, dr, by omega, fun H1 t p rd kd kvs kns sb ht D1 bk hl d1 d2 => ⟨t, _, rfl, st_of ht, rfl, _, _, rfl, _, _, rfl, rfl, ?_⟩⟩
  obtain ⟨u, hd⟩ := dr.atd
  exact k H1 p rd kd kvs kns ⟨D1, bk, Tabs.but tb hd sb, d1, d2⟩ hl
theorem lw_twin (T : Txt P K mg a) (TB1 : TabB base mg a.lcode_law_call_right a.tab_law_call_right) (TB2 : TabB base mg a.lcode_law_read_right a.tab_law_read_right) {cdv : Value} {A : Around} {outer : List Env} {s : Shared} {H0 : Hp} {E : XK} (hr : Room 26 (A.deeper (envOfC "law" (defScope s_law) s.heap.objs.size a.law cdv))) (hG : A.guards = some []) :
    ∃ tr, PS (lwX P w K mg base a cdv A outer s H0 E) (lwB 2) tr ∧ ∀ (D : Ends) (H : Hp) (d c : Addr) (cells : List Int) (sc : V) (p rd kd : Addr) (kvs kns : List (Key × V)) (n : Nat) (o2 o5 o6 o7 : Option V), Cs K a (TTs a) d c cells n p rd kd kvs kns H →
      (∀ H' p2 rd2 kd2, C2 K a (TTs a) d c cells n p rd kd kvs kns p2 rd2 kd2 kvs kns H' → D.nx [some sc, some (.ref d), o2, some (.ref p), some (.ref kd), o5, some (.ref p2), some (.ref kd2)] H') →
      tr D [some sc, some (.ref d), o2, some (.ref p), some (.ref kd), o5, o6, o7] H := by
  have G__law_call_right : CallP P w K mg base 23 (.ref a._law_call_right) (spCallR K a) := ok__law_call_right T TB1
  have G__law_read_right : CallP P w K mg base 23 (.ref a._law_read_right) (spReadR K a) := ok__law_read_right T TB2
  refine ⟨_, (ps_par (i := 6) (j := 7) rfl sc_law.nd rfl rfl (by decide) rfl rfl (pa_cons (pe_me0 (pv 3) (takes_of rfl rfl rfl rfl) pk_nil) (pa_cons (pe_callTy call_dictD (by rfl) T.b_dict (by decide +kernel) (pa_cons (pv 4) pa_nil)) pa_nil)) (by rfl)), ?_⟩
  intro D H d c cells sc p rd kd kvs kns n o2 o5 o6 o7 cs k
  obtain ⟨dx, hp⟩ := cs.bk.rg.at_
  refine ⟨_, rfl, p, a.Registry, dx, a.Registry_twin, _, 13, _, rfl, hp, rfl, T.c_Registry, T.p_Registry_twin, (ok_twin T).x, hr.mono (by decide), rfl, p, rd, kvs, rfl, cs.bk.rg, fun p2 rd2 H1 np nrd e1 rg2 => ?_⟩
  have cs1 := cs.ex e1
  refine ⟨_, rfl, kd, kns, rfl, .inl cs1.bk.kn, fun kd2 nkd => ⟨_, _, rfl, ?_⟩⟩
  have e2 := Ex.new (o := .dK kns) nkd
  have cs2 := cs1.ex e2
  obtain ⟨u, hd⟩ := cs.dr.atd
  have off : ∀ {b q : Addr} {o : HO}, H b = some o → H q = none → b ≠ q := fun {b q o} h1 h2 z => by rw [z, h2] at h1; cases h1
  have off1 : ∀ {b : Addr} {o : HO}, H1 b = some o → b ≠ kd2 := fun {b o} h1 z => by rw [z, nkd] at h1; cases h1
  have rg2' := rg2.ex e2
  refine k _ p2 rd2 kd2 ⟨cs2, ⟨cs2.dr, ⟨rg2', upd_same, cs2.bk.ok, cs2.bk.ks, cs2.bk.nd, off1 rg2.dict⟩, cs2.tb, off hd nrd, off1 (e1 _ _ hd)⟩, off cs.bk.rg.dict nrd, off1 cs1.bk.rg.dict, off cs.bk.kn nrd, off1 cs1.bk.kn⟩
def sp_law (K : PySem.W.Frag) (a : Adr) : Sp := fun vs H Q _ => ∃ (s : Addr) (ns : List Int), vs = [.ref s] ∧ Scr K H s (ns.map V.int) ∧ ns.length ≤ 63 ∧ H a.tab_law_call_right = some (.tbl #[]) ∧ H a.tab_law_read_right = some (.tbl #[]) ∧ ∀ H', Q (.bl true) H'
theorem lw_loop (T : Txt P K mg a) (TB1 : TabB base mg a.lcode_law_call_right a.tab_law_call_right) (TB2 : TabB base mg a.lcode_law_read_right a.tab_law_read_right) {cdv : Value} {A : Around} {outer : List Env} {s : Shared} {H0 : Hp} {E : XK} (hr : Room 26 (A.deeper (envOfC "law" (defScope s_law) s.heap.objs.size a.law cdv))) (hG : A.guards = some []) :
    ∃ tr, PS (lwX P w K mg base a cdv A outer s H0 E) ((defBody s_law).getD 1 (.Pass ⟨0, 0, 0, 0⟩)) tr ∧ ∀ (D : Ends) (H : Hp) (sc d c : Addr) (cells : List Int) (ns : List V), Dr H d c cells 0 → Tabs (TTs a) H → SqL K H sc ns → ns.length ≤ 63 →
      (∀ σ' H', D.nx σ' H') → tr D [some (.ref sc), some (.ref d), none, none, none, none, none, none] H := by
  obtain ⟨t0, p0, u0⟩ := lw_start (P := P) (w := w) (mg := mg) (base := base) (cdv := cdv) (outer := outer) (s := s) (H0 := H0) (E := E) T TB1 TB2 hr hG
  obtain ⟨t1, p1, u1⟩ := lw_first (P := P) (w := w) (mg := mg) (base := base) (cdv := cdv) (outer := outer) (s := s) (H0 := H0) (E := E) T TB1 TB2 hr hG
  obtain ⟨t2, p2, u2⟩ := lw_twin (P := P) (w := w) (mg := mg) (base := base) (cdv := cdv) (outer := outer) (s := s) (H0 := H0) (E := E) T TB1 TB2 hr hG
  obtain ⟨t3, p3, u3⟩ := lw_second (P := P) (w := w) (mg := mg) (base := base) (cdv := cdv) (outer := outer) (s := s) (H0 := H0) (E := E) T TB1 TB2 hr hG
  refine ⟨_, (ps_for (passes_of rfl) rfl (pi_range1 (by rfl) T.b_range (pa_cons (pe_callB (call_min2 rfl) (by rfl) T.b_min (by decide +kernel) (pa_cons pe_int (pa_cons (pe_op op_add pe_int (pe_op op_fdiv (pe_callB call_len_seq (by rfl) T.b_len (by decide +kernel) (pa_cons (pv 0) pa_nil)) pe_int)) pa_nil))) pa_nil)) (pg_name (i := 2) sc_law.nd rfl (Or.inl rfl)) (pss_cons p0 (pss_cons p1 (pss_cons p2 (pss_one p3))))), ?_⟩
  intro D H sc d c cells ns dr tb hsc hlen k
  obtain ⟨N, hN, hN2⟩ : ∃ N : Int, N = (if 2 + ((ns.length : Nat) : Int) / 3 < 5 then 2 + ((ns.length : Nat) : Int) / 3 else 5) ∧ (0 ≤ N ∧ N ≤ 5) := ⟨_, rfl, by split <;> omega⟩
  refine ⟨_, rfl, sc, ns, rfl, .inl hsc, _, _, rfl, rfl, ⟨by decide, by decide⟩, _, _, rfl, rfl, _, _, rfl, N, by rw [hN], by omega, by omega, for_range (lo := 0) (n := N.toNat) (fun i σ H' => (∃ o2 o3 o4 o5 o6 o7, σ = [some (.ref sc), some (.ref d), o2, o3, o4, o5, o6, o7]) ∧ Dr H' d c cells (201 * i) ∧ Tabs (TTs a) H')
    ⟨⟨_, _, _, _, _, _, rfl⟩, dr, tb⟩ (fun i σ H1 hi h => ?_) fun σ H' _ => k σ H'⟩
  obtain ⟨⟨o2, o3, o4, o5, o6, o7, rfl⟩, D1, tb1⟩ := h
  refine u0 _ H1 d c cells _ (201 * i) _ _ _ _ _ _ D1 tb1 (by omega) fun H2 p rd kd kvs kns cs2 hl2 => ?_
  refine u1 _ H2 d c cells _ p rd kd kvs kns _ _ _ _ _ cs2 (by omega) hl2 fun H3 kvs3 kns3 o5' cs3 hl3 => ?_
  refine u2 _ H3 d c cells _ p rd kd kvs3 kns3 _ _ _ _ _ cs3 fun H4 p2 rd2 kd2 c2 => ?_
  refine u3 _ H4 d c cells _ p rd kd p2 rd2 kd2 kvs3 kns3 kvs3 kns3 _ _ _ c2 (by omega) hl3 hl3 fun H5 o5'' D5 tb5 => ?_
  exact ⟨⟨_, _, _, _, _, _, rfl⟩, D5.mono (by omega), tb5⟩
theorem ok_law (T : Txt P K mg a) (TB1 : TabB base mg a.lcode_law_call_right a.tab_law_call_right) (TB2 : TabB base mg a.lcode_law_read_right a.tab_law_read_right) : CallP P w K mg base 27 (.ref a.law) (sp_law K a) := by
  have G__law_begin : CallP P w K mg base 1 (.ref a._law_begin) (spBegin K) := (ok__law_begin T).p
  refine T.d_law.ok sc_law (fun vs H Q E h => ?_) (fun cdv A outer s H vs Q E hr hG h => ?_)
  · obtain ⟨x, ns, rfl, _⟩ := h
    rfl
  · obtain ⟨sc, ns0, rfl, hS, hl, ht1, ht2, hq⟩ := h
    obtain ⟨t1, p1, k1⟩ := lw_loop (P := P) (w := w) (mg := mg) (base := base) (outer := outer) (H0 := H) (E := E) T TB1 TB2 (hr.mono (by decide)) hG
    refine ⟨_, pss_cons (ps_set (i := 1) sc_law.nd rfl (Or.inl rfl) (pe_ca G__law_begin (hr.mono (by decide)) hG rfl T.g__law_begin T.k__law_begin (takes_of rfl rfl rfl rfl) (pa_cons (pv 0) pa_nil))) (pss_cons p1 (pss_one (ps_ret pe_bl))), ?_⟩
    refine ⟨_, rfl, sc, ns0, rfl, hS, hl, fun d c H1 x1 nd nc D1 => ?_⟩
    refine k1 _ H1 sc d c (ns0 ++ [0]) (ns0.map V.int) D1 (fun q hq => ?_) (ex_l x1 hS.sq) (by rw [List.length_map]; exact hl) fun σ' H' => hq H'
    rcases List.mem_cons.mp hq with rfl | hq
    · exact TabS.nil (x1 _ _ ht1)
    · rw [List.mem_singleton.mp hq]
      exact TabS.nil (x1 _ _ ht2)
theorem law_end {P : Program} {w : World} {K : PySem.W.Frag} {mg : Str → Option Value} {fa : Addr} {h : Heap} (a : Adr) (T : Txt P K mg a) (X : K.In h) (hmg : mg "law" = some (.ref fa))
    (c1 : PySem.W.codeHdIn K a.lcode_law_call_right a.tab_law_call_right = true) (hn1 : K.lookup a.tab_law_call_right = none) (ht1 : h.get? a.tab_law_call_right = some { cls := .none, data := .fields #[] })
    (c2 : PySem.W.codeHdIn K a.lcode_law_read_right a.tab_law_read_right = true) (hn2 : K.lookup a.tab_law_read_right = none) (ht2 : h.get? a.tab_law_read_right = some { cls := .none, data := .fields #[] }) :
    ∃ (cs : List (Addr × Addr)) (sp : Sp), (∀ p ∈ cs, h.get? p.2 = some { cls := .none, data := .fields #[] }) ∧ (∀ p ∈ cs, K.lookup p.2 = none) ∧ (∀ p ∈ cs, PySem.W.CodeHd h p.1 p.2) ∧
        (∀ (H : Hp) (a : Addr) (ns : List Int), ns.length ≤ 63 → (∀ z ∈ ns, Builtin.Int.intBits z ≤ 1048576) → (∀ p ∈ cs, H p.2 = some (.tbl #[])) → Scr K H a (ns.map V.int) → sp [.ref a] H (fun v _ => v = .bl true) fun _ _ _ => False) ∧
        ∀ base : Heap, K.In base → base.Ns mainGlobals mg → (∀ p ∈ cs, LamX.TabB base mg p.1 p.2) → CallP P w K mg base 30 (.ref fa) sp := by
  have two : ∀ {Pr : Addr × Addr → Prop}, Pr (a.lcode_law_call_right, a.tab_law_call_right) → Pr (a.lcode_law_read_right, a.tab_law_read_right) → ∀ p ∈ [(a.lcode_law_call_right, a.tab_law_call_right), (a.lcode_law_read_right, a.tab_law_read_right)], Pr p := fun {Pr} h1 h2 p hp => by
    rcases List.mem_cons.mp hp with rfl | hp
    · exact h1
    · rw [List.mem_singleton.mp hp]; exact h2
  refine ⟨[(a.lcode_law_call_right, a.tab_law_call_right), (a.lcode_law_read_right, a.tab_law_read_right)], sp_law K a, two ht1 ht2, two hn1 hn2, two (PySem.W.codeHd_of_K X c1) (PySem.W.codeHd_of_K X c2), fun H s ns hl _ hT hS => ⟨s, ns, rfl, hS, hl, hT _ (List.Mem.head _), hT _ (List.Mem.tail _ (List.Mem.head _)), fun _ => rfl⟩, fun base _ _ hTB => ?_⟩
  have q := T.g_law.symm.trans hmg
  cases q
  exact (ok_law T (hTB _ (List.Mem.head _)) (hTB _ (List.Mem.tail _ (List.Mem.head _)))).mono (by decide)

end
end BJL
namespace BJL
open PySem PySem.Spec PyProof.Rows L2 BJ
theorem all_mk {P : Program} {K : PySem.W.Frag} {h : Heap} {mg : Str → Option Value} {Ais_integer Ais_text Ais_brand ARegistry___init__ ARegistry_check_new ARegistry_check_known ARegistry_allow ARegistry_enter ARegistry_forget ARegistry_takes_of ARegistry_brands ARegistry___contains__ ARegistry___len__ ARegistry_twin Acheck_labels AFields___init__ A_law_begin A_law_mixed A_law_next A_law_brand A_law_caught A_law_entered A_law_call_right A_law_read_right A_law_started Alaw AJarError AInvalidKey AInvalidBrand AInvalidTakes AStateError ABrandTaken AMissingError AUnknownBrand ARegistry AFields AWhole ARefill AInvalidKey_i AInvalidKey_c AInvalidKey_d AInvalidBrand_i AInvalidBrand_c AInvalidBrand_d AInvalidTakes_i AInvalidTakes_c AInvalidTakes_d ABrandTaken_i ABrandTaken_c ABrandTaken_d AUnknownBrand_i AUnknownBrand_c AUnknownBrand_d ARegistry_brands_p ANO_RULES Alcode_law_call_right Atab_law_call_right Alcode_law_read_right Atab_law_read_right : Addr} (X : K.In h) (G : h.Ns mainGlobals mg)
  {rest_Registry_brands : List Value}
  {t_MOST_INTEGER : Tok}
  {t_MOST_CHARACTERS : Tok}
  {t_MOST_BRAND : Tok}
  {t_BAG : Tok}
  {t_LETTERS : Tok}
  {t_OTHERS : Tok}
  {t_MOST_TAKEN : Tok}
  {od_is_integer an_is_integer : Option Addr} {sl_is_integer : Array (Option Value)} {oc_is_integer kV_is_integer dc_is_integer pm_is_integer cd_is_integer ct_is_integer : Value}
  {od_is_text an_is_text : Option Addr} {sl_is_text : Array (Option Value)} {oc_is_text kV_is_text dc_is_text pm_is_text cd_is_text ct_is_text : Value}
  {od_is_brand an_is_brand : Option Addr} {sl_is_brand : Array (Option Value)} {oc_is_brand kV_is_brand dc_is_brand pm_is_brand cd_is_brand ct_is_brand : Value}
  {od_Registry___init__ an_Registry___init__ : Option Addr} {sl_Registry___init__ : Array (Option Value)} {oc_Registry___init__ kV_Registry___init__ dc_Registry___init__ pm_Registry___init__ cd_Registry___init__ ct_Registry___init__ : Value}
  {od_Registry_check_new an_Registry_check_new : Option Addr} {sl_Registry_check_new : Array (Option Value)} {oc_Registry_check_new kV_Registry_check_new dc_Registry_check_new pm_Registry_check_new cd_Registry_check_new ct_Registry_check_new : Value}
  {od_Registry_check_known an_Registry_check_known : Option Addr} {sl_Registry_check_known : Array (Option Value)} {oc_Registry_check_known kV_Registry_check_known dc_Registry_check_known pm_Registry_check_known cd_Registry_check_known ct_Registry_check_known : Value}
  {od_Registry_allow an_Registry_allow : Option Addr} {sl_Registry_allow : Array (Option Value)} {oc_Registry_allow kV_Registry_allow dc_Registry_allow pm_Registry_allow cd_Registry_allow ct_Registry_allow : Value}
  {od_Registry_enter an_Registry_enter : Option Addr} {sl_Registry_enter : Array (Option Value)} {oc_Registry_enter dc_Registry_enter pm_Registry_enter cd_Registry_enter ct_Registry_enter : Value}
  {Dk_Registry_enter : Addr}
  {od_Registry_forget an_Registry_forget : Option Addr} {sl_Registry_forget : Array (Option Value)} {oc_Registry_forget kV_Registry_forget dc_Registry_forget pm_Registry_forget cd_Registry_forget ct_Registry_forget : Value}
  {od_Registry_takes_of an_Registry_takes_of : Option Addr} {sl_Registry_takes_of : Array (Option Value)} {oc_Registry_takes_of kV_Registry_takes_of dc_Registry_takes_of pm_Registry_takes_of cd_Registry_takes_of ct_Registry_takes_of : Value}
  {od_Registry_brands an_Registry_brands : Option Addr} {sl_Registry_brands : Array (Option Value)} {oc_Registry_brands kV_Registry_brands dc_Registry_brands pm_Registry_brands cd_Registry_brands ct_Registry_brands : Value}
  {od_Registry___contains__ an_Registry___contains__ : Option Addr} {sl_Registry___contains__ : Array (Option Value)} {oc_Registry___contains__ kV_Registry___contains__ dc_Registry___contains__ pm_Registry___contains__ cd_Registry___contains__ ct_Registry___contains__ : Value}
  {od_Registry___len__ an_Registry___len__ : Option Addr} {sl_Registry___len__ : Array (Option Value)} {oc_Registry___len__ kV_Registry___len__ dc_Registry___len__ pm_Registry___len__ cd_Registry___len__ ct_Registry___len__ : Value}
  {od_Registry_twin an_Registry_twin : Option Addr} {sl_Registry_twin : Array (Option Value)} {oc_Registry_twin kV_Registry_twin dc_Registry_twin pm_Registry_twin cd_Registry_twin ct_Registry_twin : Value}
  {od_check_labels an_check_labels : Option Addr} {sl_check_labels : Array (Option Value)} {oc_check_labels kV_check_labels dc_check_labels pm_check_labels cd_check_labels ct_check_labels : Value}
  {od_Fields___init__ an_Fields___init__ : Option Addr} {sl_Fields___init__ : Array (Option Value)} {oc_Fields___init__ kV_Fields___init__ dc_Fields___init__ pm_Fields___init__ cd_Fields___init__ ct_Fields___init__ : Value}
  {od__law_begin an__law_begin : Option Addr} {sl__law_begin : Array (Option Value)} {oc__law_begin kV__law_begin dc__law_begin pm__law_begin cd__law_begin ct__law_begin : Value}
  {od__law_mixed an__law_mixed : Option Addr} {sl__law_mixed : Array (Option Value)} {oc__law_mixed kV__law_mixed dc__law_mixed pm__law_mixed cd__law_mixed ct__law_mixed : Value}
  {od__law_next an__law_next : Option Addr} {sl__law_next : Array (Option Value)} {oc__law_next kV__law_next dc__law_next pm__law_next cd__law_next ct__law_next : Value}
  {od__law_brand an__law_brand : Option Addr} {sl__law_brand : Array (Option Value)} {oc__law_brand kV__law_brand dc__law_brand pm__law_brand cd__law_brand ct__law_brand : Value}
  {od__law_caught an__law_caught : Option Addr} {sl__law_caught : Array (Option Value)} {oc__law_caught kV__law_caught dc__law_caught pm__law_caught cd__law_caught ct__law_caught : Value}
  {od__law_entered an__law_entered : Option Addr} {sl__law_entered : Array (Option Value)} {oc__law_entered kV__law_entered dc__law_entered pm__law_entered cd__law_entered ct__law_entered : Value}
  {od__law_call_right an__law_call_right : Option Addr} {sl__law_call_right : Array (Option Value)} {oc__law_call_right kV__law_call_right dc__law_call_right pm__law_call_right ct__law_call_right : Value}
  {oc_lc_law_call_right : Value} {od_lc_law_call_right : Option Addr} {vs_lc_law_call_right : Array Value} {sl_lc_law_call_right : Array (Option Value)}
  {od__law_read_right an__law_read_right : Option Addr} {sl__law_read_right : Array (Option Value)} {oc__law_read_right kV__law_read_right dc__law_read_right pm__law_read_right ct__law_read_right : Value}
  {oc_lc_law_read_right : Value} {od_lc_law_read_right : Option Addr} {vs_lc_law_read_right : Array Value} {sl_lc_law_read_right : Array (Option Value)}
  {od__law_started an__law_started : Option Addr} {sl__law_started : Array (Option Value)} {oc__law_started kV__law_started dc__law_started pm__law_started cd__law_started ct__law_started : Value}
  {od_law an_law : Option Addr} {sl_law : Array (Option Value)} {oc_law kV_law dc_law pm_law cd_law ct_law : Value}
  {od_InvalidKey an_InvalidKey : Option Addr} {sl_InvalidKey : Array (Option Value)} {oc_InvalidKey kV_InvalidKey dc_InvalidKey pm_InvalidKey ct_InvalidKey : Value} {cl_InvalidKey ccl_InvalidKey : Value} {cld_InvalidKey cdd_InvalidKey : Option Addr} {csl_InvalidKey ccs_InvalidKey : Array (Option Value)} {vs_InvalidKey : Array Value}
  {tf_InvalidKey : Tok}
  {od_InvalidBrand an_InvalidBrand : Option Addr} {sl_InvalidBrand : Array (Option Value)} {oc_InvalidBrand kV_InvalidBrand dc_InvalidBrand pm_InvalidBrand ct_InvalidBrand : Value} {cl_InvalidBrand ccl_InvalidBrand : Value} {cld_InvalidBrand cdd_InvalidBrand : Option Addr} {csl_InvalidBrand ccs_InvalidBrand : Array (Option Value)} {vs_InvalidBrand : Array Value}
  {tf_InvalidBrand : Tok}
  {od_InvalidTakes an_InvalidTakes : Option Addr} {sl_InvalidTakes : Array (Option Value)} {oc_InvalidTakes kV_InvalidTakes dc_InvalidTakes pm_InvalidTakes ct_InvalidTakes : Value} {cl_InvalidTakes ccl_InvalidTakes : Value} {cld_InvalidTakes cdd_InvalidTakes : Option Addr} {csl_InvalidTakes ccs_InvalidTakes : Array (Option Value)} {vs_InvalidTakes : Array Value}
  {tf_InvalidTakes : Tok}
  {od_BrandTaken an_BrandTaken : Option Addr} {sl_BrandTaken : Array (Option Value)} {oc_BrandTaken kV_BrandTaken dc_BrandTaken pm_BrandTaken ct_BrandTaken : Value} {cl_BrandTaken ccl_BrandTaken : Value} {cld_BrandTaken cdd_BrandTaken : Option Addr} {csl_BrandTaken ccs_BrandTaken : Array (Option Value)} {vs_BrandTaken : Array Value}
  {tf_BrandTaken : Tok}
  {od_UnknownBrand an_UnknownBrand : Option Addr} {sl_UnknownBrand : Array (Option Value)} {oc_UnknownBrand kV_UnknownBrand dc_UnknownBrand pm_UnknownBrand ct_UnknownBrand : Value} {cl_UnknownBrand ccl_UnknownBrand : Value} {cld_UnknownBrand cdd_UnknownBrand : Option Addr} {csl_UnknownBrand ccs_UnknownBrand : Array (Option Value)} {vs_UnknownBrand : Array Value}
  {tf_UnknownBrand : Tok}
  (za_Registry : PySem.W.nsIn K mainGlobals "Registry" = some (some (.ref ARegistry)))
  (zc1_Registry : PySem.W.plainGet K ARegistry Str.empty = true)
  (zc2_Registry : PySem.W.hasDictIn K ARegistry = true)
  (zc3_Registry : PySem.W.plainOver K ARegistry = true)
  (zc4_Registry : PySem.W.findIn K (.ref ARegistry) "__setattr__" = some (some (.builtin "object.__setattr__")))
  (zk_Registry : PySem.W.keepIn K (.ref ARegistry) = true)
  (ze1_Registry : PySem.W.mroIn K ARegistry (.type "object") = some true)
  (ze2_Registry : PySem.W.findIn K (.ref ARegistry) "__eq__" = some (some (.builtin "object.__eq__")))
  (zt_Registry : PySem.W.typeIn K (.ref ARegistry) = some (.type "type"))
  (zm1_Registry : PySem.W.makesIn K ARegistry = true)
  (zm2_Registry : PySem.W.findIn K (.ref ARegistry) "__init__" = some (some (.ref ARegistry___init__)))
  (zm3_Registry : PySem.W.isFn K (.ref ARegistry___init__) = true)
  (zp1_Registry_check_new : PySem.W.findIn K (.ref ARegistry) "check_new" = some (some (.ref ARegistry_check_new)))
  (zp2_Registry_check_new : PySem.W.isFn K (.ref ARegistry_check_new) = true)
  (zp3_Registry_check_new : PySem.W.keepIn K (.ref ARegistry_check_new) = true)
  (zp1_Registry_check_known : PySem.W.findIn K (.ref ARegistry) "check_known" = some (some (.ref ARegistry_check_known)))
  (zp2_Registry_check_known : PySem.W.isFn K (.ref ARegistry_check_known) = true)
  (zp3_Registry_check_known : PySem.W.keepIn K (.ref ARegistry_check_known) = true)
  (zp1_Registry_allow : PySem.W.findIn K (.ref ARegistry) "allow" = some (some (.ref ARegistry_allow)))
  (zp2_Registry_allow : PySem.W.isFn K (.ref ARegistry_allow) = true)
  (zp3_Registry_allow : PySem.W.keepIn K (.ref ARegistry_allow) = true)
  (zp1_Registry_enter : PySem.W.findIn K (.ref ARegistry) "enter" = some (some (.ref ARegistry_enter)))
  (zp2_Registry_enter : PySem.W.isFn K (.ref ARegistry_enter) = true)
  (zp3_Registry_enter : PySem.W.keepIn K (.ref ARegistry_enter) = true)
  (zp1_Registry_forget : PySem.W.findIn K (.ref ARegistry) "forget" = some (some (.ref ARegistry_forget)))
  (zp2_Registry_forget : PySem.W.isFn K (.ref ARegistry_forget) = true)
  (zp3_Registry_forget : PySem.W.keepIn K (.ref ARegistry_forget) = true)
  (zp1_Registry_takes_of : PySem.W.findIn K (.ref ARegistry) "takes_of" = some (some (.ref ARegistry_takes_of)))
  (zp2_Registry_takes_of : PySem.W.isFn K (.ref ARegistry_takes_of) = true)
  (zp3_Registry_takes_of : PySem.W.keepIn K (.ref ARegistry_takes_of) = true)
  (zp1_Registry_brands : PySem.W.findIn K (.ref ARegistry) "brands" = some (some (.ref ARegistry_brands_p)))
  (zp2_Registry_brands : PySem.W.specialIn K (.ref ARegistry_brands_p) "__get__" = some (some (.builtin "property.__get__")))
  (zp3_Registry_brands : PySem.W.takesIn K (.ref ARegistry_brands_p) = some true)
  (zp4_Registry_brands : PySem.W.recIn K ARegistry_brands_p "property" = some (.ref ARegistry_brands :: rest_Registry_brands))
  (zp1_Registry___contains__ : PySem.W.findIn K (.ref ARegistry) "__contains__" = some (some (.ref ARegistry___contains__)))
  (zp2_Registry___contains__ : PySem.W.isFn K (.ref ARegistry___contains__) = true)
  (zp3_Registry___contains__ : PySem.W.keepIn K (.ref ARegistry___contains__) = true)
  (zp1_Registry___len__ : PySem.W.findIn K (.ref ARegistry) "__len__" = some (some (.ref ARegistry___len__)))
  (zp2_Registry___len__ : PySem.W.isFn K (.ref ARegistry___len__) = true)
  (zp3_Registry___len__ : PySem.W.keepIn K (.ref ARegistry___len__) = true)
  (zp1_Registry_twin : PySem.W.findIn K (.ref ARegistry) "twin" = some (some (.ref ARegistry_twin)))
  (zp2_Registry_twin : PySem.W.isFn K (.ref ARegistry_twin) = true)
  (zp3_Registry_twin : PySem.W.keepIn K (.ref ARegistry_twin) = true)
  (zn_Registry_rules : PySem.W.findIn K (.ref ARegistry) "rules" = some none)
  (za_Fields : PySem.W.nsIn K mainGlobals "Fields" = some (some (.ref AFields)))
  (zc1_Fields : PySem.W.plainGet K AFields Str.empty = true)
  (zc2_Fields : PySem.W.hasDictIn K AFields = true)
  (zc3_Fields : PySem.W.plainOver K AFields = true)
  (zc4_Fields : PySem.W.findIn K (.ref AFields) "__setattr__" = some (some (.builtin "object.__setattr__")))
  (zk_Fields : PySem.W.keepIn K (.ref AFields) = true)
  (ze1_Fields : PySem.W.mroIn K AFields (.type "object") = some true)
  (ze2_Fields : PySem.W.findIn K (.ref AFields) "__eq__" = some (some (.builtin "object.__eq__")))
  (zt_Fields : PySem.W.typeIn K (.ref AFields) = some (.type "type"))
  (zm1_Fields : PySem.W.makesIn K AFields = true)
  (zm2_Fields : PySem.W.findIn K (.ref AFields) "__init__" = some (some (.ref AFields___init__)))
  (zm3_Fields : PySem.W.isFn K (.ref AFields___init__) = true)
  (zn_Fields_new_brand : PySem.W.findIn K (.ref AFields) "new_brand" = some none)
  (zn_Fields_label_row : PySem.W.findIn K (.ref AFields) "label_row" = some none)
  (za_Whole : PySem.W.nsIn K mainGlobals "Whole" = some (some (.ref AWhole)))
  (zc1_Whole : PySem.W.plainGet K AWhole Str.empty = true)
  (zc2_Whole : PySem.W.hasDictIn K AWhole = true)
  (zc3_Whole : PySem.W.plainOver K AWhole = true)
  (zc4_Whole : PySem.W.findIn K (.ref AWhole) "__setattr__" = some (some (.builtin "object.__setattr__")))
  (zk_Whole : PySem.W.keepIn K (.ref AWhole) = true)
  (ze1_Whole : PySem.W.mroIn K AWhole (.type "object") = some true)
  (ze2_Whole : PySem.W.findIn K (.ref AWhole) "__eq__" = some (some (.builtin "object.__eq__")))
  (zt_Whole : PySem.W.typeIn K (.ref AWhole) = some (.type "type"))
  (za_Refill : PySem.W.nsIn K mainGlobals "Refill" = some (some (.ref ARefill)))
  (zc1_Refill : PySem.W.plainGet K ARefill Str.empty = true)
  (zc2_Refill : PySem.W.hasDictIn K ARefill = true)
  (zc3_Refill : PySem.W.plainOver K ARefill = true)
  (zc4_Refill : PySem.W.findIn K (.ref ARefill) "__setattr__" = some (some (.builtin "object.__setattr__")))
  (zk_Refill : PySem.W.keepIn K (.ref ARefill) = true)
  (ze1_Refill : PySem.W.mroIn K ARefill (.type "object") = some true)
  (ze2_Refill : PySem.W.findIn K (.ref ARefill) "__eq__" = some (some (.builtin "object.__eq__")))
  (zt_Refill : PySem.W.typeIn K (.ref ARefill) = some (.type "type"))
  (za_NO_RULES : PySem.W.nsIn K mainGlobals "NO_RULES" = some (some (.ref ANO_RULES)))
  (zb_all : PySem.W.nsIn K mainGlobals "all" = some none)
  (zb_bool : PySem.W.nsIn K mainGlobals "bool" = some none)
  (zb_dict : PySem.W.nsIn K mainGlobals "dict" = some none)
  (zb_int : PySem.W.nsIn K mainGlobals "int" = some none)
  (zb_isinstance : PySem.W.nsIn K mainGlobals "isinstance" = some none)
  (zb_len : PySem.W.nsIn K mainGlobals "len" = some none)
  (zb_min : PySem.W.nsIn K mainGlobals "min" = some none)
  (zb_property : PySem.W.nsIn K mainGlobals "property" = some none)
  (zb_range : PySem.W.nsIn K mainGlobals "range" = some none)
  (zb_repr : PySem.W.nsIn K mainGlobals "repr" = some none)
  (zb_sorted : PySem.W.nsIn K mainGlobals "sorted" = some none)
  (zb_str : PySem.W.nsIn K mainGlobals "str" = some none)
  (zb_tuple : PySem.W.nsIn K mainGlobals "tuple" = some none)
  (zb_super : PySem.W.nsIn K mainGlobals "super" = some none)
  (zc_MOST_INTEGER : PySem.W.nsIn K mainGlobals "MOST_INTEGER" = some (some (.int (1000000000000000000000000000000000000000000000000000000000000000000000000000000000000000000000000000000000000000000000000000000000000000000000000000000000000000000000000000000000000000000000000000000000000000000000000000000000000000000000000000000000000000000000000000000000000000000000000000000000000) t_MOST_INTEGER)))
  (zc_MOST_CHARACTERS : PySem.W.nsIn K mainGlobals "MOST_CHARACTERS" = some (some (.int (2000) t_MOST_CHARACTERS)))
  (zc_MOST_BRAND : PySem.W.nsIn K mainGlobals "MOST_BRAND" = some (some (.int (40) t_MOST_BRAND)))
  (zc_BAG : PySem.W.nsIn K mainGlobals "BAG" = some (some (.str "bag" t_BAG)))
  (zc_LETTERS : PySem.W.nsIn K mainGlobals "LETTERS" = some (some (.str "abcdefghijklmnopqrstuvwxyzABCDEFGHIJKLMNOPQRSTUVWXYZ" t_LETTERS)))
  (zc_OTHERS : PySem.W.nsIn K mainGlobals "OTHERS" = some (some (.str "._0123456789" t_OTHERS)))
  (zc_MOST_TAKEN : PySem.W.nsIn K mainGlobals "MOST_TAKEN" = some (some (.int (20) t_MOST_TAKEN)))
  (za_is_integer : PySem.W.nsIn K mainGlobals "is_integer" = some (some (.ref Ais_integer)))
  (zl_is_integer : K.lookup Ais_integer = some ⟨oc_is_integer, od_is_integer, .func (PySem.W.fnOf "is_integer" "is_integer" (defArgs s_is_integer) (defBody s_is_integer) (defScope s_is_integer) .none kV_is_integer dc_is_integer pm_is_integer an_is_integer cd_is_integer ct_is_integer), sl_is_integer⟩)
  (zd_is_integer : PySem.W.codeIn K cd_is_integer "is_integer" = true)
  (zk_is_integer : PySem.W.keepIn K (.ref Ais_integer) = true)
  (za_is_text : PySem.W.nsIn K mainGlobals "is_text" = some (some (.ref Ais_text)))
  (zl_is_text : K.lookup Ais_text = some ⟨oc_is_text, od_is_text, .func (PySem.W.fnOf "is_text" "is_text" (defArgs s_is_text) (defBody s_is_text) (defScope s_is_text) .none kV_is_text dc_is_text pm_is_text an_is_text cd_is_text ct_is_text), sl_is_text⟩)
  (zd_is_text : PySem.W.codeIn K cd_is_text "is_text" = true)
  (zk_is_text : PySem.W.keepIn K (.ref Ais_text) = true)
  (za_is_brand : PySem.W.nsIn K mainGlobals "is_brand" = some (some (.ref Ais_brand)))
  (zl_is_brand : K.lookup Ais_brand = some ⟨oc_is_brand, od_is_brand, .func (PySem.W.fnOf "is_brand" "is_brand" (defArgs s_is_brand) (defBody s_is_brand) (defScope s_is_brand) .none kV_is_brand dc_is_brand pm_is_brand an_is_brand cd_is_brand ct_is_brand), sl_is_brand⟩)
  (zd_is_brand : PySem.W.codeIn K cd_is_brand "is_brand" = true)
  (zk_is_brand : PySem.W.keepIn K (.ref Ais_brand) = true)
  (zl_Registry___init__ : K.lookup ARegistry___init__ = some ⟨oc_Registry___init__, od_Registry___init__, .func (PySem.W.fnOf "__init__" "Registry.__init__" (defArgs s_Registry___init__) (defBody s_Registry___init__) (defScope s_Registry___init__) .none kV_Registry___init__ dc_Registry___init__ pm_Registry___init__ an_Registry___init__ cd_Registry___init__ ct_Registry___init__), sl_Registry___init__⟩)
  (zd_Registry___init__ : PySem.W.codeIn K cd_Registry___init__ "Registry.__init__" = true)
  (zk_Registry___init__ : PySem.W.keepIn K (.ref ARegistry___init__) = true)
  (zl_Registry_check_new : K.lookup ARegistry_check_new = some ⟨oc_Registry_check_new, od_Registry_check_new, .func (PySem.W.fnOf "check_new" "Registry.check_new" (defArgs s_Registry_check_new) (defBody s_Registry_check_new) (defScope s_Registry_check_new) .none kV_Registry_check_new dc_Registry_check_new pm_Registry_check_new an_Registry_check_new cd_Registry_check_new ct_Registry_check_new), sl_Registry_check_new⟩)
  (zd_Registry_check_new : PySem.W.codeIn K cd_Registry_check_new "Registry.check_new" = true)
  (zk_Registry_check_new : PySem.W.keepIn K (.ref ARegistry_check_new) = true)
  (zl_Registry_check_known : K.lookup ARegistry_check_known = some ⟨oc_Registry_check_known, od_Registry_check_known, .func (PySem.W.fnOf "check_known" "Registry.check_known" (defArgs s_Registry_check_known) (defBody s_Registry_check_known) (defScope s_Registry_check_known) .none kV_Registry_check_known dc_Registry_check_known pm_Registry_check_known an_Registry_check_known cd_Registry_check_known ct_Registry_check_known), sl_Registry_check_known⟩)
  (zd_Registry_check_known : PySem.W.codeIn K cd_Registry_check_known "Registry.check_known" = true)
  (zk_Registry_check_known : PySem.W.keepIn K (.ref ARegistry_check_known) = true)
  (zl_Registry_allow : K.lookup ARegistry_allow = some ⟨oc_Registry_allow, od_Registry_allow, .func (PySem.W.fnOf "allow" "Registry.allow" (defArgs s_Registry_allow) (defBody s_Registry_allow) (defScope s_Registry_allow) .none kV_Registry_allow dc_Registry_allow pm_Registry_allow an_Registry_allow cd_Registry_allow ct_Registry_allow), sl_Registry_allow⟩)
  (zd_Registry_allow : PySem.W.codeIn K cd_Registry_allow "Registry.allow" = true)
  (zk_Registry_allow : PySem.W.keepIn K (.ref ARegistry_allow) = true)
  (zl_Registry_enter : K.lookup ARegistry_enter = some ⟨oc_Registry_enter, od_Registry_enter, .func (PySem.W.fnOf "enter" "Registry.enter" (defArgs s_Registry_enter) (defBody s_Registry_enter) (defScope s_Registry_enter) .none (.ref Dk_Registry_enter) dc_Registry_enter pm_Registry_enter an_Registry_enter cd_Registry_enter ct_Registry_enter), sl_Registry_enter⟩)
  (zd_Registry_enter : PySem.W.codeIn K cd_Registry_enter "Registry.enter" = true)
  (zk_Registry_enter : PySem.W.keepIn K (.ref ARegistry_enter) = true)
  (zy_Registry_enter : PySem.W.nsIn K Dk_Registry_enter "build" = some (some .none))
  (zl_Registry_forget : K.lookup ARegistry_forget = some ⟨oc_Registry_forget, od_Registry_forget, .func (PySem.W.fnOf "forget" "Registry.forget" (defArgs s_Registry_forget) (defBody s_Registry_forget) (defScope s_Registry_forget) .none kV_Registry_forget dc_Registry_forget pm_Registry_forget an_Registry_forget cd_Registry_forget ct_Registry_forget), sl_Registry_forget⟩)
  (zd_Registry_forget : PySem.W.codeIn K cd_Registry_forget "Registry.forget" = true)
  (zk_Registry_forget : PySem.W.keepIn K (.ref ARegistry_forget) = true)
  (zl_Registry_takes_of : K.lookup ARegistry_takes_of = some ⟨oc_Registry_takes_of, od_Registry_takes_of, .func (PySem.W.fnOf "takes_of" "Registry.takes_of" (defArgs s_Registry_takes_of) (defBody s_Registry_takes_of) (defScope s_Registry_takes_of) .none kV_Registry_takes_of dc_Registry_takes_of pm_Registry_takes_of an_Registry_takes_of cd_Registry_takes_of ct_Registry_takes_of), sl_Registry_takes_of⟩)
  (zd_Registry_takes_of : PySem.W.codeIn K cd_Registry_takes_of "Registry.takes_of" = true)
  (zk_Registry_takes_of : PySem.W.keepIn K (.ref ARegistry_takes_of) = true)
  (zl_Registry_brands : K.lookup ARegistry_brands = some ⟨oc_Registry_brands, od_Registry_brands, .func (PySem.W.fnOf "brands" "Registry.brands" (defArgs s_Registry_brands) (defBody s_Registry_brands) (defScope s_Registry_brands) .none kV_Registry_brands dc_Registry_brands pm_Registry_brands an_Registry_brands cd_Registry_brands ct_Registry_brands), sl_Registry_brands⟩)
  (zd_Registry_brands : PySem.W.codeIn K cd_Registry_brands "Registry.brands" = true)
  (zk_Registry_brands : PySem.W.keepIn K (.ref ARegistry_brands) = true)
  (zl_Registry___contains__ : K.lookup ARegistry___contains__ = some ⟨oc_Registry___contains__, od_Registry___contains__, .func (PySem.W.fnOf "__contains__" "Registry.__contains__" (defArgs s_Registry___contains__) (defBody s_Registry___contains__) (defScope s_Registry___contains__) .none kV_Registry___contains__ dc_Registry___contains__ pm_Registry___contains__ an_Registry___contains__ cd_Registry___contains__ ct_Registry___contains__), sl_Registry___contains__⟩)
  (zd_Registry___contains__ : PySem.W.codeIn K cd_Registry___contains__ "Registry.__contains__" = true)
  (zk_Registry___contains__ : PySem.W.keepIn K (.ref ARegistry___contains__) = true)
  (zl_Registry___len__ : K.lookup ARegistry___len__ = some ⟨oc_Registry___len__, od_Registry___len__, .func (PySem.W.fnOf "__len__" "Registry.__len__" (defArgs s_Registry___len__) (defBody s_Registry___len__) (defScope s_Registry___len__) .none kV_Registry___len__ dc_Registry___len__ pm_Registry___len__ an_Registry___len__ cd_Registry___len__ ct_Registry___len__), sl_Registry___len__⟩)
  (zd_Registry___len__ : PySem.W.codeIn K cd_Registry___len__ "Registry.__len__" = true)
  (zk_Registry___len__ : PySem.W.keepIn K (.ref ARegistry___len__) = true)
  (zl_Registry_twin : K.lookup ARegistry_twin = some ⟨oc_Registry_twin, od_Registry_twin, .func (PySem.W.fnOf "twin" "Registry.twin" (defArgs s_Registry_twin) (defBody s_Registry_twin) (defScope s_Registry_twin) .none kV_Registry_twin dc_Registry_twin pm_Registry_twin an_Registry_twin cd_Registry_twin ct_Registry_twin), sl_Registry_twin⟩)
  (zd_Registry_twin : PySem.W.codeIn K cd_Registry_twin "Registry.twin" = true)
  (zk_Registry_twin : PySem.W.keepIn K (.ref ARegistry_twin) = true)
  (za_check_labels : PySem.W.nsIn K mainGlobals "check_labels" = some (some (.ref Acheck_labels)))
  (zl_check_labels : K.lookup Acheck_labels = some ⟨oc_check_labels, od_check_labels, .func (PySem.W.fnOf "check_labels" "check_labels" (defArgs s_check_labels) (defBody s_check_labels) (defScope s_check_labels) .none kV_check_labels dc_check_labels pm_check_labels an_check_labels cd_check_labels ct_check_labels), sl_check_labels⟩)
  (zd_check_labels : PySem.W.codeIn K cd_check_labels "check_labels" = true)
  (zk_check_labels : PySem.W.keepIn K (.ref Acheck_labels) = true)
  (zl_Fields___init__ : K.lookup AFields___init__ = some ⟨oc_Fields___init__, od_Fields___init__, .func (PySem.W.fnOf "__init__" "Fields.__init__" (defArgs s_Fields___init__) (defBody s_Fields___init__) (defScope s_Fields___init__) .none kV_Fields___init__ dc_Fields___init__ pm_Fields___init__ an_Fields___init__ cd_Fields___init__ ct_Fields___init__), sl_Fields___init__⟩)
  (zd_Fields___init__ : PySem.W.codeIn K cd_Fields___init__ "Fields.__init__" = true)
  (zk_Fields___init__ : PySem.W.keepIn K (.ref AFields___init__) = true)
  (za__law_begin : PySem.W.nsIn K mainGlobals "_law_begin" = some (some (.ref A_law_begin)))
  (zl__law_begin : K.lookup A_law_begin = some ⟨oc__law_begin, od__law_begin, .func (PySem.W.fnOf "_law_begin" "_law_begin" (defArgs s__law_begin) (defBody s__law_begin) (defScope s__law_begin) .none kV__law_begin dc__law_begin pm__law_begin an__law_begin cd__law_begin ct__law_begin), sl__law_begin⟩)
  (zd__law_begin : PySem.W.codeIn K cd__law_begin "_law_begin" = true)
  (zk__law_begin : PySem.W.keepIn K (.ref A_law_begin) = true)
  (za__law_mixed : PySem.W.nsIn K mainGlobals "_law_mixed" = some (some (.ref A_law_mixed)))
  (zl__law_mixed : K.lookup A_law_mixed = some ⟨oc__law_mixed, od__law_mixed, .func (PySem.W.fnOf "_law_mixed" "_law_mixed" (defArgs s__law_mixed) (defBody s__law_mixed) (defScope s__law_mixed) .none kV__law_mixed dc__law_mixed pm__law_mixed an__law_mixed cd__law_mixed ct__law_mixed), sl__law_mixed⟩)
  (zd__law_mixed : PySem.W.codeIn K cd__law_mixed "_law_mixed" = true)
  (zk__law_mixed : PySem.W.keepIn K (.ref A_law_mixed) = true)
  (za__law_next : PySem.W.nsIn K mainGlobals "_law_next" = some (some (.ref A_law_next)))
  (zl__law_next : K.lookup A_law_next = some ⟨oc__law_next, od__law_next, .func (PySem.W.fnOf "_law_next" "_law_next" (defArgs s__law_next) (defBody s__law_next) (defScope s__law_next) .none kV__law_next dc__law_next pm__law_next an__law_next cd__law_next ct__law_next), sl__law_next⟩)
  (zd__law_next : PySem.W.codeIn K cd__law_next "_law_next" = true)
  (zk__law_next : PySem.W.keepIn K (.ref A_law_next) = true)
  (za__law_brand : PySem.W.nsIn K mainGlobals "_law_brand" = some (some (.ref A_law_brand)))
  (zl__law_brand : K.lookup A_law_brand = some ⟨oc__law_brand, od__law_brand, .func (PySem.W.fnOf "_law_brand" "_law_brand" (defArgs s__law_brand) (defBody s__law_brand) (defScope s__law_brand) .none kV__law_brand dc__law_brand pm__law_brand an__law_brand cd__law_brand ct__law_brand), sl__law_brand⟩)
  (zd__law_brand : PySem.W.codeIn K cd__law_brand "_law_brand" = true)
  (zk__law_brand : PySem.W.keepIn K (.ref A_law_brand) = true)
  (za__law_caught : PySem.W.nsIn K mainGlobals "_law_caught" = some (some (.ref A_law_caught)))
  (zl__law_caught : K.lookup A_law_caught = some ⟨oc__law_caught, od__law_caught, .func (PySem.W.fnOf "_law_caught" "_law_caught" (defArgs s__law_caught) (defBody s__law_caught) (defScope s__law_caught) .none kV__law_caught dc__law_caught pm__law_caught an__law_caught cd__law_caught ct__law_caught), sl__law_caught⟩)
  (zd__law_caught : PySem.W.codeIn K cd__law_caught "_law_caught" = true)
  (zk__law_caught : PySem.W.keepIn K (.ref A_law_caught) = true)
  (za__law_entered : PySem.W.nsIn K mainGlobals "_law_entered" = some (some (.ref A_law_entered)))
  (zl__law_entered : K.lookup A_law_entered = some ⟨oc__law_entered, od__law_entered, .func (PySem.W.fnOf "_law_entered" "_law_entered" (defArgs s__law_entered) (defBody s__law_entered) (defScope s__law_entered) .none kV__law_entered dc__law_entered pm__law_entered an__law_entered cd__law_entered ct__law_entered), sl__law_entered⟩)
  (zd__law_entered : PySem.W.codeIn K cd__law_entered "_law_entered" = true)
  (zk__law_entered : PySem.W.keepIn K (.ref A_law_entered) = true)
  (za__law_call_right : PySem.W.nsIn K mainGlobals "_law_call_right" = some (some (.ref A_law_call_right)))
  (zl__law_call_right : K.lookup A_law_call_right = some ⟨oc__law_call_right, od__law_call_right, .func (PySem.W.fnOf "_law_call_right" "_law_call_right" (defArgs s__law_call_right) (defBody s__law_call_right) (defScope s__law_call_right) .none kV__law_call_right dc__law_call_right pm__law_call_right an__law_call_right (.ref Alcode_law_call_right) ct__law_call_right), sl__law_call_right⟩)
  (zd__law_call_right : PySem.W.codeIn K (.ref Alcode_law_call_right) "_law_call_right" = true)
  (zk__law_call_right : PySem.W.keepIn K (.ref A_law_call_right) = true)
  (zt_lc_law_call_right : K.lookup Alcode_law_call_right = some ⟨oc_lc_law_call_right, od_lc_law_call_right, .fields vs_lc_law_call_right, sl_lc_law_call_right⟩)
  (zt_tab_law_call_right : vs_lc_law_call_right[11]? = some (.ref Atab_law_call_right))
  (za__law_read_right : PySem.W.nsIn K mainGlobals "_law_read_right" = some (some (.ref A_law_read_right)))
  (zl__law_read_right : K.lookup A_law_read_right = some ⟨oc__law_read_right, od__law_read_right, .func (PySem.W.fnOf "_law_read_right" "_law_read_right" (defArgs s__law_read_right) (defBody s__law_read_right) (defScope s__law_read_right) .none kV__law_read_right dc__law_read_right pm__law_read_right an__law_read_right (.ref Alcode_law_read_right) ct__law_read_right), sl__law_read_right⟩)
  (zd__law_read_right : PySem.W.codeIn K (.ref Alcode_law_read_right) "_law_read_right" = true)
  (zk__law_read_right : PySem.W.keepIn K (.ref A_law_read_right) = true)
  (zt_lc_law_read_right : K.lookup Alcode_law_read_right = some ⟨oc_lc_law_read_right, od_lc_law_read_right, .fields vs_lc_law_read_right, sl_lc_law_read_right⟩)
  (zt_tab_law_read_right : vs_lc_law_read_right[11]? = some (.ref Atab_law_read_right))
  (za__law_started : PySem.W.nsIn K mainGlobals "_law_started" = some (some (.ref A_law_started)))
  (zl__law_started : K.lookup A_law_started = some ⟨oc__law_started, od__law_started, .func (PySem.W.fnOf "_law_started" "_law_started" (defArgs s__law_started) (defBody s__law_started) (defScope s__law_started) .none kV__law_started dc__law_started pm__law_started an__law_started cd__law_started ct__law_started), sl__law_started⟩)
  (zd__law_started : PySem.W.codeIn K cd__law_started "_law_started" = true)
  (zk__law_started : PySem.W.keepIn K (.ref A_law_started) = true)
  (za_law : PySem.W.nsIn K mainGlobals "law" = some (some (.ref Alaw)))
  (zl_law : K.lookup Alaw = some ⟨oc_law, od_law, .func (PySem.W.fnOf "law" "law" (defArgs s_law) (defBody s_law) (defScope s_law) .none kV_law dc_law pm_law an_law cd_law ct_law), sl_law⟩)
  (zd_law : PySem.W.codeIn K cd_law "law" = true)
  (zk_law : PySem.W.keepIn K (.ref Alaw) = true)
  (za_JarError : PySem.W.nsIn K mainGlobals "JarError" = some (some (.ref AJarError)))
  (zt_JarError : PySem.W.typeIn K (.ref AJarError) = some (.type "type"))
  (zx_JarError : PySem.W.subIn K (.ref AJarError) (.type "BaseException") = some true)
  (zh_JarError : PySem.W.hasDictIn K AJarError = true)
  (za_InvalidKey : PySem.W.nsIn K mainGlobals "InvalidKey" = some (some (.ref AInvalidKey)))
  (zt_InvalidKey : PySem.W.typeIn K (.ref AInvalidKey) = some (.type "type"))
  (zx_InvalidKey : PySem.W.subIn K (.ref AInvalidKey) (.type "BaseException") = some true)
  (zh_InvalidKey : PySem.W.hasDictIn K AInvalidKey = true)
  (zi_InvalidKey : PySem.W.excInitIn K AInvalidKey [.type "ValueError", .type "Exception", .type "BaseException", .type "object"] "ValueError.__new__" = true)
  (zo_InvalidKey : PySem.W.excOver K AInvalidKey [.type "ValueError", .type "Exception", .type "BaseException", .type "object"] = true)
  (zI_InvalidKey : PySem.W.findIn K (.ref AInvalidKey) "__init__" = some (some (.ref AInvalidKey_i)))
  (zf_InvalidKey : PySem.W.isFn K (.ref AInvalidKey_i) = true)
  (zl_InvalidKey : K.lookup AInvalidKey_i = some ⟨oc_InvalidKey, od_InvalidKey, .func (PySem.W.ksFn "__init__" "InvalidKey.__init__" (eiA ((["key"] : List Str).zip [⟨14, 23, 14, 26⟩]) ⟨14, 17, 14, 21⟩) (eiSup "invalid key" ⟨15, 8, 15, 13⟩ ⟨15, 8, 15, 15⟩ ⟨15, 8, 15, 24⟩ ⟨15, 25, 15, 38⟩ ⟨15, 8, 15, 39⟩ :: setsB [("key", ⟨16, 8, 16, 12⟩, ⟨16, 8, 16, 16⟩, ⟨16, 19, 16, 22⟩, ⟨16, 8, 16, 22⟩)]) (eiS ["key"]) .none kV_InvalidKey dc_InvalidKey pm_InvalidKey an_InvalidKey (.ref AInvalidKey_d) ct_InvalidKey AInvalidKey_c), sl_InvalidKey⟩)
  (zq_InvalidKey : PySem.W.codeIn K (.ref AInvalidKey_d) "InvalidKey.__init__" = true)
  (zs_InvalidKey : PySem.W.ks_superIn K AInvalidKey AInvalidKey "__init__" = some (some (.builtin "ValueError.__init__")))
  (zB_InvalidKey : PySem.W.subIn K (.ref AInvalidKey) (.type "ValueError") = some true)
  (zST_InvalidKey : PySem.W.nsIn K PySem.cStatics "thirdparty.any" = some none)
  (zA_InvalidKey : PySem.W.findIn K (.ref AInvalidKey) "__setattr__" = some (some (.builtin "object.__setattr__")))
  (zT_InvalidKey_key : PySem.W.takerIn K AInvalidKey "key" = some none)
  (zn_InvalidKey_key : PySem.W.findIn K (.ref AInvalidKey) "key" = some none)
  (zC_InvalidKey : K.lookup AInvalidKey_c = some ⟨cl_InvalidKey, cld_InvalidKey, .cell (some (.ref AInvalidKey)), csl_InvalidKey⟩)
  (zD_InvalidKey : K.lookup AInvalidKey_d = some ⟨ccl_InvalidKey, cdd_InvalidKey, .fields vs_InvalidKey, ccs_InvalidKey⟩)
  (zE_InvalidKey : vs_InvalidKey[2]? = some (.str P.main.file tf_InvalidKey))
  (zM_InvalidKey : PySem.W.mroIn K AInvalidKey (.ref AInvalidKey) = some true)
  (zN_InvalidKey : (PySem.W.clsIn K AInvalidKey).isSome = true)
  (zP_InvalidKey : (P.main.scope.names.lookup ("super" : Str)).isSome = false)
  (zk_InvalidKey : PySem.W.keepIn K (.ref AInvalidKey) = true)
  (zga_InvalidKey : PySem.W.findIn K (.ref AInvalidKey) "__getattribute__" = some (some (.builtin "BaseException.__getattribute__")))
  (zgg_InvalidKey : PySem.W.findIn K (.ref AInvalidKey) "__getattr__" = some none)
  (zcc_InvalidKey : PySem.W.findIn K (.ref AInvalidKey) "__class__" = some (some (.builtin "object.__class__")))
  (zcg_InvalidKey : PySem.W.specialIn K (.builtin "object.__class__") "__get__" = some (some (.builtin "getset_descriptor.__get__")))
  (zct_InvalidKey : PySem.W.takesIn K (.builtin "object.__class__") = some true)
  (zmo_InvalidKey : PySem.W.mroIn K AInvalidKey (.type "object") = some true)
  (za_InvalidBrand : PySem.W.nsIn K mainGlobals "InvalidBrand" = some (some (.ref AInvalidBrand)))
  (zt_InvalidBrand : PySem.W.typeIn K (.ref AInvalidBrand) = some (.type "type"))
  (zx_InvalidBrand : PySem.W.subIn K (.ref AInvalidBrand) (.type "BaseException") = some true)
  (zh_InvalidBrand : PySem.W.hasDictIn K AInvalidBrand = true)
  (zi_InvalidBrand : PySem.W.excInitIn K AInvalidBrand [.type "ValueError", .type "Exception", .type "BaseException", .type "object"] "ValueError.__new__" = true)
  (zo_InvalidBrand : PySem.W.excOver K AInvalidBrand [.type "ValueError", .type "Exception", .type "BaseException", .type "object"] = true)
  (zI_InvalidBrand : PySem.W.findIn K (.ref AInvalidBrand) "__init__" = some (some (.ref AInvalidBrand_i)))
  (zf_InvalidBrand : PySem.W.isFn K (.ref AInvalidBrand_i) = true)
  (zl_InvalidBrand : K.lookup AInvalidBrand_i = some ⟨oc_InvalidBrand, od_InvalidBrand, .func (PySem.W.ksFn "__init__" "InvalidBrand.__init__" (eiA ((["given"] : List Str).zip [⟨19, 23, 19, 28⟩]) ⟨19, 17, 19, 21⟩) (eiSup "invalid brand" ⟨20, 8, 20, 13⟩ ⟨20, 8, 20, 15⟩ ⟨20, 8, 20, 24⟩ ⟨20, 25, 20, 40⟩ ⟨20, 8, 20, 41⟩ :: setsB [("given", ⟨21, 8, 21, 12⟩, ⟨21, 8, 21, 18⟩, ⟨21, 21, 21, 26⟩, ⟨21, 8, 21, 26⟩)]) (eiS ["given"]) .none kV_InvalidBrand dc_InvalidBrand pm_InvalidBrand an_InvalidBrand (.ref AInvalidBrand_d) ct_InvalidBrand AInvalidBrand_c), sl_InvalidBrand⟩)
  (zq_InvalidBrand : PySem.W.codeIn K (.ref AInvalidBrand_d) "InvalidBrand.__init__" = true)
  (zs_InvalidBrand : PySem.W.ks_superIn K AInvalidBrand AInvalidBrand "__init__" = some (some (.builtin "ValueError.__init__")))
  (zB_InvalidBrand : PySem.W.subIn K (.ref AInvalidBrand) (.type "ValueError") = some true)
  (zST_InvalidBrand : PySem.W.nsIn K PySem.cStatics "thirdparty.any" = some none)
  (zA_InvalidBrand : PySem.W.findIn K (.ref AInvalidBrand) "__setattr__" = some (some (.builtin "object.__setattr__")))
  (zT_InvalidBrand_given : PySem.W.takerIn K AInvalidBrand "given" = some none)
  (zn_InvalidBrand_given : PySem.W.findIn K (.ref AInvalidBrand) "given" = some none)
  (zC_InvalidBrand : K.lookup AInvalidBrand_c = some ⟨cl_InvalidBrand, cld_InvalidBrand, .cell (some (.ref AInvalidBrand)), csl_InvalidBrand⟩)
  (zD_InvalidBrand : K.lookup AInvalidBrand_d = some ⟨ccl_InvalidBrand, cdd_InvalidBrand, .fields vs_InvalidBrand, ccs_InvalidBrand⟩)
  (zE_InvalidBrand : vs_InvalidBrand[2]? = some (.str P.main.file tf_InvalidBrand))
  (zM_InvalidBrand : PySem.W.mroIn K AInvalidBrand (.ref AInvalidBrand) = some true)
  (zN_InvalidBrand : (PySem.W.clsIn K AInvalidBrand).isSome = true)
  (zP_InvalidBrand : (P.main.scope.names.lookup ("super" : Str)).isSome = false)
  (zk_InvalidBrand : PySem.W.keepIn K (.ref AInvalidBrand) = true)
  (zga_InvalidBrand : PySem.W.findIn K (.ref AInvalidBrand) "__getattribute__" = some (some (.builtin "BaseException.__getattribute__")))
  (zgg_InvalidBrand : PySem.W.findIn K (.ref AInvalidBrand) "__getattr__" = some none)
  (zcc_InvalidBrand : PySem.W.findIn K (.ref AInvalidBrand) "__class__" = some (some (.builtin "object.__class__")))
  (zcg_InvalidBrand : PySem.W.specialIn K (.builtin "object.__class__") "__get__" = some (some (.builtin "getset_descriptor.__get__")))
  (zct_InvalidBrand : PySem.W.takesIn K (.builtin "object.__class__") = some true)
  (zmo_InvalidBrand : PySem.W.mroIn K AInvalidBrand (.type "object") = some true)
  (za_InvalidTakes : PySem.W.nsIn K mainGlobals "InvalidTakes" = some (some (.ref AInvalidTakes)))
  (zt_InvalidTakes : PySem.W.typeIn K (.ref AInvalidTakes) = some (.type "type"))
  (zx_InvalidTakes : PySem.W.subIn K (.ref AInvalidTakes) (.type "BaseException") = some true)
  (zh_InvalidTakes : PySem.W.hasDictIn K AInvalidTakes = true)
  (zi_InvalidTakes : PySem.W.excInitIn K AInvalidTakes [.type "ValueError", .type "Exception", .type "BaseException", .type "object"] "ValueError.__new__" = true)
  (zo_InvalidTakes : PySem.W.excOver K AInvalidTakes [.type "ValueError", .type "Exception", .type "BaseException", .type "object"] = true)
  (zI_InvalidTakes : PySem.W.findIn K (.ref AInvalidTakes) "__init__" = some (some (.ref AInvalidTakes_i)))
  (zf_InvalidTakes : PySem.W.isFn K (.ref AInvalidTakes_i) = true)
  (zl_InvalidTakes : K.lookup AInvalidTakes_i = some ⟨oc_InvalidTakes, od_InvalidTakes, .func (PySem.W.ksFn "__init__" "InvalidTakes.__init__" (eiA ((["value"] : List Str).zip [⟨24, 23, 24, 28⟩]) ⟨24, 17, 24, 21⟩) (eiSup "invalid number of arguments" ⟨25, 8, 25, 13⟩ ⟨25, 8, 25, 15⟩ ⟨25, 8, 25, 24⟩ ⟨25, 25, 25, 54⟩ ⟨25, 8, 25, 55⟩ :: setsB [("value", ⟨26, 8, 26, 12⟩, ⟨26, 8, 26, 18⟩, ⟨26, 21, 26, 26⟩, ⟨26, 8, 26, 26⟩)]) (eiS ["value"]) .none kV_InvalidTakes dc_InvalidTakes pm_InvalidTakes an_InvalidTakes (.ref AInvalidTakes_d) ct_InvalidTakes AInvalidTakes_c), sl_InvalidTakes⟩)
  (zq_InvalidTakes : PySem.W.codeIn K (.ref AInvalidTakes_d) "InvalidTakes.__init__" = true)
  (zs_InvalidTakes : PySem.W.ks_superIn K AInvalidTakes AInvalidTakes "__init__" = some (some (.builtin "ValueError.__init__")))
  (zB_InvalidTakes : PySem.W.subIn K (.ref AInvalidTakes) (.type "ValueError") = some true)
  (zST_InvalidTakes : PySem.W.nsIn K PySem.cStatics "thirdparty.any" = some none)
  (zA_InvalidTakes : PySem.W.findIn K (.ref AInvalidTakes) "__setattr__" = some (some (.builtin "object.__setattr__")))
  (zT_InvalidTakes_value : PySem.W.takerIn K AInvalidTakes "value" = some none)
  (zn_InvalidTakes_value : PySem.W.findIn K (.ref AInvalidTakes) "value" = some none)
  (zC_InvalidTakes : K.lookup AInvalidTakes_c = some ⟨cl_InvalidTakes, cld_InvalidTakes, .cell (some (.ref AInvalidTakes)), csl_InvalidTakes⟩)
  (zD_InvalidTakes : K.lookup AInvalidTakes_d = some ⟨ccl_InvalidTakes, cdd_InvalidTakes, .fields vs_InvalidTakes, ccs_InvalidTakes⟩)
  (zE_InvalidTakes : vs_InvalidTakes[2]? = some (.str P.main.file tf_InvalidTakes))
  (zM_InvalidTakes : PySem.W.mroIn K AInvalidTakes (.ref AInvalidTakes) = some true)
  (zN_InvalidTakes : (PySem.W.clsIn K AInvalidTakes).isSome = true)
  (zP_InvalidTakes : (P.main.scope.names.lookup ("super" : Str)).isSome = false)
  (zk_InvalidTakes : PySem.W.keepIn K (.ref AInvalidTakes) = true)
  (zga_InvalidTakes : PySem.W.findIn K (.ref AInvalidTakes) "__getattribute__" = some (some (.builtin "BaseException.__getattribute__")))
  (zgg_InvalidTakes : PySem.W.findIn K (.ref AInvalidTakes) "__getattr__" = some none)
  (zcc_InvalidTakes : PySem.W.findIn K (.ref AInvalidTakes) "__class__" = some (some (.builtin "object.__class__")))
  (zcg_InvalidTakes : PySem.W.specialIn K (.builtin "object.__class__") "__get__" = some (some (.builtin "getset_descriptor.__get__")))
  (zct_InvalidTakes : PySem.W.takesIn K (.builtin "object.__class__") = some true)
  (zmo_InvalidTakes : PySem.W.mroIn K AInvalidTakes (.type "object") = some true)
  (za_StateError : PySem.W.nsIn K mainGlobals "StateError" = some (some (.ref AStateError)))
  (zt_StateError : PySem.W.typeIn K (.ref AStateError) = some (.type "type"))
  (zx_StateError : PySem.W.subIn K (.ref AStateError) (.type "BaseException") = some true)
  (zh_StateError : PySem.W.hasDictIn K AStateError = true)
  (za_BrandTaken : PySem.W.nsIn K mainGlobals "BrandTaken" = some (some (.ref ABrandTaken)))
  (zt_BrandTaken : PySem.W.typeIn K (.ref ABrandTaken) = some (.type "type"))
  (zx_BrandTaken : PySem.W.subIn K (.ref ABrandTaken) (.type "BaseException") = some true)
  (zh_BrandTaken : PySem.W.hasDictIn K ABrandTaken = true)
  (zi_BrandTaken : PySem.W.excInitIn K ABrandTaken [.type "RuntimeError", .type "Exception", .type "BaseException", .type "object"] "RuntimeError.__new__" = true)
  (zo_BrandTaken : PySem.W.excOver K ABrandTaken [.type "RuntimeError", .type "Exception", .type "BaseException", .type "object"] = true)
  (zI_BrandTaken : PySem.W.findIn K (.ref ABrandTaken) "__init__" = some (some (.ref ABrandTaken_i)))
  (zf_BrandTaken : PySem.W.isFn K (.ref ABrandTaken_i) = true)
  (zl_BrandTaken : K.lookup ABrandTaken_i = some ⟨oc_BrandTaken, od_BrandTaken, .func (PySem.W.ksFn "__init__" "BrandTaken.__init__" (eiA ((["given"] : List Str).zip [⟨36, 23, 36, 28⟩]) ⟨36, 17, 36, 21⟩) (eiSup "the brand is known already" ⟨37, 8, 37, 13⟩ ⟨37, 8, 37, 15⟩ ⟨37, 8, 37, 24⟩ ⟨37, 25, 37, 53⟩ ⟨37, 8, 37, 54⟩ :: setsB [("given", ⟨38, 8, 38, 12⟩, ⟨38, 8, 38, 18⟩, ⟨38, 21, 38, 26⟩, ⟨38, 8, 38, 26⟩)]) (eiS ["given"]) .none kV_BrandTaken dc_BrandTaken pm_BrandTaken an_BrandTaken (.ref ABrandTaken_d) ct_BrandTaken ABrandTaken_c), sl_BrandTaken⟩)
  (zq_BrandTaken : PySem.W.codeIn K (.ref ABrandTaken_d) "BrandTaken.__init__" = true)
  (zs_BrandTaken : PySem.W.ks_superIn K ABrandTaken ABrandTaken "__init__" = some (some (.builtin "RuntimeError.__init__")))
  (zB_BrandTaken : PySem.W.subIn K (.ref ABrandTaken) (.type "RuntimeError") = some true)
  (zST_BrandTaken : PySem.W.nsIn K PySem.cStatics "thirdparty.any" = some none)
  (zA_BrandTaken : PySem.W.findIn K (.ref ABrandTaken) "__setattr__" = some (some (.builtin "object.__setattr__")))
  (zT_BrandTaken_given : PySem.W.takerIn K ABrandTaken "given" = some none)
  (zn_BrandTaken_given : PySem.W.findIn K (.ref ABrandTaken) "given" = some none)
  (zC_BrandTaken : K.lookup ABrandTaken_c = some ⟨cl_BrandTaken, cld_BrandTaken, .cell (some (.ref ABrandTaken)), csl_BrandTaken⟩)
  (zD_BrandTaken : K.lookup ABrandTaken_d = some ⟨ccl_BrandTaken, cdd_BrandTaken, .fields vs_BrandTaken, ccs_BrandTaken⟩)
  (zE_BrandTaken : vs_BrandTaken[2]? = some (.str P.main.file tf_BrandTaken))
  (zM_BrandTaken : PySem.W.mroIn K ABrandTaken (.ref ABrandTaken) = some true)
  (zN_BrandTaken : (PySem.W.clsIn K ABrandTaken).isSome = true)
  (zP_BrandTaken : (P.main.scope.names.lookup ("super" : Str)).isSome = false)
  (zk_BrandTaken : PySem.W.keepIn K (.ref ABrandTaken) = true)
  (zga_BrandTaken : PySem.W.findIn K (.ref ABrandTaken) "__getattribute__" = some (some (.builtin "BaseException.__getattribute__")))
  (zgg_BrandTaken : PySem.W.findIn K (.ref ABrandTaken) "__getattr__" = some none)
  (zcc_BrandTaken : PySem.W.findIn K (.ref ABrandTaken) "__class__" = some (some (.builtin "object.__class__")))
  (zcg_BrandTaken : PySem.W.specialIn K (.builtin "object.__class__") "__get__" = some (some (.builtin "getset_descriptor.__get__")))
  (zct_BrandTaken : PySem.W.takesIn K (.builtin "object.__class__") = some true)
  (zmo_BrandTaken : PySem.W.mroIn K ABrandTaken (.type "object") = some true)
  (za_MissingError : PySem.W.nsIn K mainGlobals "MissingError" = some (some (.ref AMissingError)))
  (zt_MissingError : PySem.W.typeIn K (.ref AMissingError) = some (.type "type"))
  (zx_MissingError : PySem.W.subIn K (.ref AMissingError) (.type "BaseException") = some true)
  (zh_MissingError : PySem.W.hasDictIn K AMissingError = true)
  (za_UnknownBrand : PySem.W.nsIn K mainGlobals "UnknownBrand" = some (some (.ref AUnknownBrand)))
  (zt_UnknownBrand : PySem.W.typeIn K (.ref AUnknownBrand) = some (.type "type"))
  (zx_UnknownBrand : PySem.W.subIn K (.ref AUnknownBrand) (.type "BaseException") = some true)
  (zh_UnknownBrand : PySem.W.hasDictIn K AUnknownBrand = true)
  (zi_UnknownBrand : PySem.W.excInitIn K AUnknownBrand [.type "LookupError", .type "Exception", .type "BaseException", .type "object"] "LookupError.__new__" = true)
  (zo_UnknownBrand : PySem.W.excOver K AUnknownBrand [.type "LookupError", .type "Exception", .type "BaseException", .type "object"] = true)
  (zI_UnknownBrand : PySem.W.findIn K (.ref AUnknownBrand) "__init__" = some (some (.ref AUnknownBrand_i)))
  (zf_UnknownBrand : PySem.W.isFn K (.ref AUnknownBrand_i) = true)
  (zl_UnknownBrand : K.lookup AUnknownBrand_i = some ⟨oc_UnknownBrand, od_UnknownBrand, .func (PySem.W.ksFn "__init__" "UnknownBrand.__init__" (eiA ((["given"] : List Str).zip [⟨43, 23, 43, 28⟩]) ⟨43, 17, 43, 21⟩) (eiSup "unknown brand" ⟨44, 8, 44, 13⟩ ⟨44, 8, 44, 15⟩ ⟨44, 8, 44, 24⟩ ⟨44, 25, 44, 40⟩ ⟨44, 8, 44, 41⟩ :: setsB [("given", ⟨45, 8, 45, 12⟩, ⟨45, 8, 45, 18⟩, ⟨45, 21, 45, 26⟩, ⟨45, 8, 45, 26⟩)]) (eiS ["given"]) .none kV_UnknownBrand dc_UnknownBrand pm_UnknownBrand an_UnknownBrand (.ref AUnknownBrand_d) ct_UnknownBrand AUnknownBrand_c), sl_UnknownBrand⟩)
  (zq_UnknownBrand : PySem.W.codeIn K (.ref AUnknownBrand_d) "UnknownBrand.__init__" = true)
  (zs_UnknownBrand : PySem.W.ks_superIn K AUnknownBrand AUnknownBrand "__init__" = some (some (.builtin "LookupError.__init__")))
  (zB_UnknownBrand : PySem.W.subIn K (.ref AUnknownBrand) (.type "LookupError") = some true)
  (zST_UnknownBrand : PySem.W.nsIn K PySem.cStatics "thirdparty.any" = some none)
  (zA_UnknownBrand : PySem.W.findIn K (.ref AUnknownBrand) "__setattr__" = some (some (.builtin "object.__setattr__")))
  (zT_UnknownBrand_given : PySem.W.takerIn K AUnknownBrand "given" = some none)
  (zn_UnknownBrand_given : PySem.W.findIn K (.ref AUnknownBrand) "given" = some none)
  (zC_UnknownBrand : K.lookup AUnknownBrand_c = some ⟨cl_UnknownBrand, cld_UnknownBrand, .cell (some (.ref AUnknownBrand)), csl_UnknownBrand⟩)
  (zD_UnknownBrand : K.lookup AUnknownBrand_d = some ⟨ccl_UnknownBrand, cdd_UnknownBrand, .fields vs_UnknownBrand, ccs_UnknownBrand⟩)
  (zE_UnknownBrand : vs_UnknownBrand[2]? = some (.str P.main.file tf_UnknownBrand))
  (zM_UnknownBrand : PySem.W.mroIn K AUnknownBrand (.ref AUnknownBrand) = some true)
  (zN_UnknownBrand : (PySem.W.clsIn K AUnknownBrand).isSome = true)
  (zP_UnknownBrand : (P.main.scope.names.lookup ("super" : Str)).isSome = false)
  (zk_UnknownBrand : PySem.W.keepIn K (.ref AUnknownBrand) = true)
  (zga_UnknownBrand : PySem.W.findIn K (.ref AUnknownBrand) "__getattribute__" = some (some (.builtin "BaseException.__getattribute__")))
  (zgg_UnknownBrand : PySem.W.findIn K (.ref AUnknownBrand) "__getattr__" = some none)
  (zcc_UnknownBrand : PySem.W.findIn K (.ref AUnknownBrand) "__class__" = some (some (.builtin "object.__class__")))
  (zcg_UnknownBrand : PySem.W.specialIn K (.builtin "object.__class__") "__get__" = some (some (.builtin "getset_descriptor.__get__")))
  (zct_UnknownBrand : PySem.W.takesIn K (.builtin "object.__class__") = some true)
  (zmo_UnknownBrand : PySem.W.mroIn K AUnknownBrand (.type "object") = some true)
  (zu_InvalidKey_JarError : PySem.W.kitOne K (.ref AInvalidKey) (.ref AJarError) = some true)
  (zv_InvalidKey_JarError : PySem.W.exmOne K (.ref AInvalidKey) (.ref AJarError) = some true)
  (zu_InvalidKey_StateError : PySem.W.kitOne K (.ref AInvalidKey) (.ref AStateError) = some false)
  (zv_InvalidKey_StateError : PySem.W.exmOne K (.ref AInvalidKey) (.ref AStateError) = some false)
  (zu_InvalidKey_MissingError : PySem.W.kitOne K (.ref AInvalidKey) (.ref AMissingError) = some false)
  (zv_InvalidKey_MissingError : PySem.W.exmOne K (.ref AInvalidKey) (.ref AMissingError) = some false)
  (zu_InvalidBrand_JarError : PySem.W.kitOne K (.ref AInvalidBrand) (.ref AJarError) = some true)
  (zv_InvalidBrand_JarError : PySem.W.exmOne K (.ref AInvalidBrand) (.ref AJarError) = some true)
  (zu_InvalidBrand_StateError : PySem.W.kitOne K (.ref AInvalidBrand) (.ref AStateError) = some false)
  (zv_InvalidBrand_StateError : PySem.W.exmOne K (.ref AInvalidBrand) (.ref AStateError) = some false)
  (zu_InvalidBrand_MissingError : PySem.W.kitOne K (.ref AInvalidBrand) (.ref AMissingError) = some false)
  (zv_InvalidBrand_MissingError : PySem.W.exmOne K (.ref AInvalidBrand) (.ref AMissingError) = some false)
  (zu_InvalidTakes_JarError : PySem.W.kitOne K (.ref AInvalidTakes) (.ref AJarError) = some true)
  (zv_InvalidTakes_JarError : PySem.W.exmOne K (.ref AInvalidTakes) (.ref AJarError) = some true)
  (zu_InvalidTakes_StateError : PySem.W.kitOne K (.ref AInvalidTakes) (.ref AStateError) = some false)
  (zv_InvalidTakes_StateError : PySem.W.exmOne K (.ref AInvalidTakes) (.ref AStateError) = some false)
  (zu_InvalidTakes_MissingError : PySem.W.kitOne K (.ref AInvalidTakes) (.ref AMissingError) = some false)
  (zv_InvalidTakes_MissingError : PySem.W.exmOne K (.ref AInvalidTakes) (.ref AMissingError) = some false)
  (zu_BrandTaken_JarError : PySem.W.kitOne K (.ref ABrandTaken) (.ref AJarError) = some false)
  (zv_BrandTaken_JarError : PySem.W.exmOne K (.ref ABrandTaken) (.ref AJarError) = some false)
  (zu_BrandTaken_StateError : PySem.W.kitOne K (.ref ABrandTaken) (.ref AStateError) = some true)
  (zv_BrandTaken_StateError : PySem.W.exmOne K (.ref ABrandTaken) (.ref AStateError) = some true)
  (zu_BrandTaken_MissingError : PySem.W.kitOne K (.ref ABrandTaken) (.ref AMissingError) = some false)
  (zv_BrandTaken_MissingError : PySem.W.exmOne K (.ref ABrandTaken) (.ref AMissingError) = some false)
  (zu_UnknownBrand_JarError : PySem.W.kitOne K (.ref AUnknownBrand) (.ref AJarError) = some false)
  (zv_UnknownBrand_JarError : PySem.W.exmOne K (.ref AUnknownBrand) (.ref AJarError) = some false)
  (zu_UnknownBrand_StateError : PySem.W.kitOne K (.ref AUnknownBrand) (.ref AStateError) = some false)
  (zv_UnknownBrand_StateError : PySem.W.exmOne K (.ref AUnknownBrand) (.ref AStateError) = some false)
  (zu_UnknownBrand_MissingError : PySem.W.kitOne K (.ref AUnknownBrand) (.ref AMissingError) = some true)
  (zv_UnknownBrand_MissingError : PySem.W.exmOne K (.ref AUnknownBrand) (.ref AMissingError) = some true)
  (zu_InvalidKey_InvalidKey : PySem.W.kitOne K (.ref AInvalidKey) (.ref AInvalidKey) = some true)
  (zv_InvalidKey_InvalidKey : PySem.W.exmOne K (.ref AInvalidKey) (.ref AInvalidKey) = some true)
  (zu_InvalidKey_InvalidBrand : PySem.W.kitOne K (.ref AInvalidKey) (.ref AInvalidBrand) = some false)
  (zv_InvalidKey_InvalidBrand : PySem.W.exmOne K (.ref AInvalidKey) (.ref AInvalidBrand) = some false)
  (zu_InvalidKey_InvalidTakes : PySem.W.kitOne K (.ref AInvalidKey) (.ref AInvalidTakes) = some false)
  (zv_InvalidKey_InvalidTakes : PySem.W.exmOne K (.ref AInvalidKey) (.ref AInvalidTakes) = some false)
  (zu_InvalidKey_BrandTaken : PySem.W.kitOne K (.ref AInvalidKey) (.ref ABrandTaken) = some false)
  (zv_InvalidKey_BrandTaken : PySem.W.exmOne K (.ref AInvalidKey) (.ref ABrandTaken) = some false)
  (zu_InvalidKey_UnknownBrand : PySem.W.kitOne K (.ref AInvalidKey) (.ref AUnknownBrand) = some false)
  (zv_InvalidKey_UnknownBrand : PySem.W.exmOne K (.ref AInvalidKey) (.ref AUnknownBrand) = some false)
  (zu_InvalidBrand_InvalidKey : PySem.W.kitOne K (.ref AInvalidBrand) (.ref AInvalidKey) = some false)
  (zv_InvalidBrand_InvalidKey : PySem.W.exmOne K (.ref AInvalidBrand) (.ref AInvalidKey) = some false)
  (zu_InvalidBrand_InvalidBrand : PySem.W.kitOne K (.ref AInvalidBrand) (.ref AInvalidBrand) = some true)
  (zv_InvalidBrand_InvalidBrand : PySem.W.exmOne K (.ref AInvalidBrand) (.ref AInvalidBrand) = some true)
  (zu_InvalidBrand_InvalidTakes : PySem.W.kitOne K (.ref AInvalidBrand) (.ref AInvalidTakes) = some false)
  (zv_InvalidBrand_InvalidTakes : PySem.W.exmOne K (.ref AInvalidBrand) (.ref AInvalidTakes) = some false)
  (zu_InvalidBrand_BrandTaken : PySem.W.kitOne K (.ref AInvalidBrand) (.ref ABrandTaken) = some false)
  (zv_InvalidBrand_BrandTaken : PySem.W.exmOne K (.ref AInvalidBrand) (.ref ABrandTaken) = some false)
  (zu_InvalidBrand_UnknownBrand : PySem.W.kitOne K (.ref AInvalidBrand) (.ref AUnknownBrand) = some false)
  (zv_InvalidBrand_UnknownBrand : PySem.W.exmOne K (.ref AInvalidBrand) (.ref AUnknownBrand) = some false)
  (zu_InvalidTakes_InvalidKey : PySem.W.kitOne K (.ref AInvalidTakes) (.ref AInvalidKey) = some false)
  (zv_InvalidTakes_InvalidKey : PySem.W.exmOne K (.ref AInvalidTakes) (.ref AInvalidKey) = some false)
  (zu_InvalidTakes_InvalidBrand : PySem.W.kitOne K (.ref AInvalidTakes) (.ref AInvalidBrand) = some false)
  (zv_InvalidTakes_InvalidBrand : PySem.W.exmOne K (.ref AInvalidTakes) (.ref AInvalidBrand) = some false)
  (zu_InvalidTakes_InvalidTakes : PySem.W.kitOne K (.ref AInvalidTakes) (.ref AInvalidTakes) = some true)
  (zv_InvalidTakes_InvalidTakes : PySem.W.exmOne K (.ref AInvalidTakes) (.ref AInvalidTakes) = some true)
  (zu_InvalidTakes_BrandTaken : PySem.W.kitOne K (.ref AInvalidTakes) (.ref ABrandTaken) = some false)
  (zv_InvalidTakes_BrandTaken : PySem.W.exmOne K (.ref AInvalidTakes) (.ref ABrandTaken) = some false)
  (zu_InvalidTakes_UnknownBrand : PySem.W.kitOne K (.ref AInvalidTakes) (.ref AUnknownBrand) = some false)
  (zv_InvalidTakes_UnknownBrand : PySem.W.exmOne K (.ref AInvalidTakes) (.ref AUnknownBrand) = some false)
  (zu_BrandTaken_InvalidKey : PySem.W.kitOne K (.ref ABrandTaken) (.ref AInvalidKey) = some false)
  (zv_BrandTaken_InvalidKey : PySem.W.exmOne K (.ref ABrandTaken) (.ref AInvalidKey) = some false)
  (zu_BrandTaken_InvalidBrand : PySem.W.kitOne K (.ref ABrandTaken) (.ref AInvalidBrand) = some false)
  (zv_BrandTaken_InvalidBrand : PySem.W.exmOne K (.ref ABrandTaken) (.ref AInvalidBrand) = some false)
  (zu_BrandTaken_InvalidTakes : PySem.W.kitOne K (.ref ABrandTaken) (.ref AInvalidTakes) = some false)
  (zv_BrandTaken_InvalidTakes : PySem.W.exmOne K (.ref ABrandTaken) (.ref AInvalidTakes) = some false)
  (zu_BrandTaken_BrandTaken : PySem.W.kitOne K (.ref ABrandTaken) (.ref ABrandTaken) = some true)
  (zv_BrandTaken_BrandTaken : PySem.W.exmOne K (.ref ABrandTaken) (.ref ABrandTaken) = some true)
  (zu_BrandTaken_UnknownBrand : PySem.W.kitOne K (.ref ABrandTaken) (.ref AUnknownBrand) = some false)
  (zv_BrandTaken_UnknownBrand : PySem.W.exmOne K (.ref ABrandTaken) (.ref AUnknownBrand) = some false)
  (zu_UnknownBrand_InvalidKey : PySem.W.kitOne K (.ref AUnknownBrand) (.ref AInvalidKey) = some false)
  (zv_UnknownBrand_InvalidKey : PySem.W.exmOne K (.ref AUnknownBrand) (.ref AInvalidKey) = some false)
  (zu_UnknownBrand_InvalidBrand : PySem.W.kitOne K (.ref AUnknownBrand) (.ref AInvalidBrand) = some false)
  (zv_UnknownBrand_InvalidBrand : PySem.W.exmOne K (.ref AUnknownBrand) (.ref AInvalidBrand) = some false)
  (zu_UnknownBrand_InvalidTakes : PySem.W.kitOne K (.ref AUnknownBrand) (.ref AInvalidTakes) = some false)
  (zv_UnknownBrand_InvalidTakes : PySem.W.exmOne K (.ref AUnknownBrand) (.ref AInvalidTakes) = some false)
  (zu_UnknownBrand_BrandTaken : PySem.W.kitOne K (.ref AUnknownBrand) (.ref ABrandTaken) = some false)
  (zv_UnknownBrand_BrandTaken : PySem.W.exmOne K (.ref AUnknownBrand) (.ref ABrandTaken) = some false)
  (zu_UnknownBrand_UnknownBrand : PySem.W.kitOne K (.ref AUnknownBrand) (.ref AUnknownBrand) = some true)
  (zv_UnknownBrand_UnknownBrand : PySem.W.exmOne K (.ref AUnknownBrand) (.ref AUnknownBrand) = some true)
  (zz_norules : rowN K ANO_RULES = some [.non, .non, .int 0, .non])
  (zz_tabne : Atab_law_call_right ≠ Atab_law_read_right)
  (zz_m0_Whole : PySem.W.makesIn K AWhole = true)
  (zz_i0_Whole : PySem.W.findIn K (.ref AWhole) "__init__" = some (some (.builtin "object.__init__")))
  (zz_m0_Refill : PySem.W.makesIn K ARefill = true)
  (zz_i0_Refill : PySem.W.findIn K (.ref ARefill) "__init__" = some (some (.builtin "object.__init__"))) : Txt P K mg ⟨Ais_integer, Ais_text, Ais_brand, ARegistry___init__, ARegistry_check_new, ARegistry_check_known, ARegistry_allow, ARegistry_enter, ARegistry_forget, ARegistry_takes_of, ARegistry_brands, ARegistry___contains__, ARegistry___len__, ARegistry_twin, Acheck_labels, AFields___init__, A_law_begin, A_law_mixed, A_law_next, A_law_brand, A_law_caught, A_law_entered, A_law_call_right, A_law_read_right, A_law_started, Alaw, AJarError, AInvalidKey, AInvalidBrand, AInvalidTakes, AStateError, ABrandTaken, AMissingError, AUnknownBrand, ARegistry, AFields, AWhole, ARefill, AInvalidKey_i, AInvalidKey_c, AInvalidKey_d, AInvalidBrand_i, AInvalidBrand_c, AInvalidBrand_d, AInvalidTakes_i, AInvalidTakes_c, AInvalidTakes_d, ABrandTaken_i, ABrandTaken_c, ABrandTaken_d, AUnknownBrand_i, AUnknownBrand_c, AUnknownBrand_d, ARegistry_brands_p, ANO_RULES, Alcode_law_call_right, Atab_law_call_right, Alcode_law_read_right, Atab_law_read_right⟩ := {
  g_Registry := PySem.W.mg_of X G za_Registry,
  c_Registry := ⟨zc1_Registry, zc2_Registry, zc3_Registry, zc4_Registry⟩,
  k_Registry := zk_Registry,
  e_Registry := ⟨ze1_Registry, ze2_Registry⟩,
  t_Registry := zt_Registry,
  m_Registry := ⟨zm1_Registry, zm2_Registry, zm3_Registry, zk_Registry⟩,
  p_Registry_check_new := ⟨zp1_Registry_check_new, zp2_Registry_check_new, zp3_Registry_check_new⟩,
  p_Registry_check_known := ⟨zp1_Registry_check_known, zp2_Registry_check_known, zp3_Registry_check_known⟩,
  p_Registry_allow := ⟨zp1_Registry_allow, zp2_Registry_allow, zp3_Registry_allow⟩,
  p_Registry_enter := ⟨zp1_Registry_enter, zp2_Registry_enter, zp3_Registry_enter⟩,
  p_Registry_forget := ⟨zp1_Registry_forget, zp2_Registry_forget, zp3_Registry_forget⟩,
  p_Registry_takes_of := ⟨zp1_Registry_takes_of, zp2_Registry_takes_of, zp3_Registry_takes_of⟩,
  p_Registry_brands := ⟨zp1_Registry_brands, zp2_Registry_brands, zp3_Registry_brands, ⟨_, zp4_Registry_brands⟩⟩,
  p_Registry___contains__ := ⟨zp1_Registry___contains__, zp2_Registry___contains__, zp3_Registry___contains__⟩,
  p_Registry___len__ := ⟨zp1_Registry___len__, zp2_Registry___len__, zp3_Registry___len__⟩,
  p_Registry_twin := ⟨zp1_Registry_twin, zp2_Registry_twin, zp3_Registry_twin⟩,
  n_Registry_rules := zn_Registry_rules,
  g_Fields := PySem.W.mg_of X G za_Fields,
  c_Fields := ⟨zc1_Fields, zc2_Fields, zc3_Fields, zc4_Fields⟩,
  k_Fields := zk_Fields,
  e_Fields := ⟨ze1_Fields, ze2_Fields⟩,
  t_Fields := zt_Fields,
  m_Fields := ⟨zm1_Fields, zm2_Fields, zm3_Fields, zk_Fields⟩,
  n_Fields_new_brand := zn_Fields_new_brand,
  n_Fields_label_row := zn_Fields_label_row,
  g_Whole := PySem.W.mg_of X G za_Whole,
  c_Whole := ⟨zc1_Whole, zc2_Whole, zc3_Whole, zc4_Whole⟩,
  k_Whole := zk_Whole,
  e_Whole := ⟨ze1_Whole, ze2_Whole⟩,
  t_Whole := zt_Whole,
  g_Refill := PySem.W.mg_of X G za_Refill,
  c_Refill := ⟨zc1_Refill, zc2_Refill, zc3_Refill, zc4_Refill⟩,
  k_Refill := zk_Refill,
  e_Refill := ⟨ze1_Refill, ze2_Refill⟩,
  t_Refill := zt_Refill,
  g_NO_RULES := PySem.W.mg_of X G za_NO_RULES,
  b_all := PySem.W.mg_none_of X G zb_all,
  b_bool := PySem.W.mg_none_of X G zb_bool,
  b_dict := PySem.W.mg_none_of X G zb_dict,
  b_int := PySem.W.mg_none_of X G zb_int,
  b_isinstance := PySem.W.mg_none_of X G zb_isinstance,
  b_len := PySem.W.mg_none_of X G zb_len,
  b_min := PySem.W.mg_none_of X G zb_min,
  b_property := PySem.W.mg_none_of X G zb_property,
  b_range := PySem.W.mg_none_of X G zb_range,
  b_repr := PySem.W.mg_none_of X G zb_repr,
  b_sorted := PySem.W.mg_none_of X G zb_sorted,
  b_str := PySem.W.mg_none_of X G zb_str,
  b_tuple := PySem.W.mg_none_of X G zb_tuple,
  b_super := PySem.W.mg_none_of X G zb_super,
  c_MOST_INTEGER := ⟨_, PySem.W.mg_of X G zc_MOST_INTEGER⟩,
  c_MOST_CHARACTERS := ⟨_, PySem.W.mg_of X G zc_MOST_CHARACTERS⟩,
  c_MOST_BRAND := ⟨_, PySem.W.mg_of X G zc_MOST_BRAND⟩,
  c_BAG := ⟨_, PySem.W.mg_of X G zc_BAG⟩,
  c_LETTERS := ⟨_, PySem.W.mg_of X G zc_LETTERS⟩,
  c_OTHERS := ⟨_, PySem.W.mg_of X G zc_OTHERS⟩,
  c_MOST_TAKEN := ⟨_, PySem.W.mg_of X G zc_MOST_TAKEN⟩,
  g_is_integer := PySem.W.mg_of X G za_is_integer,
  k_is_integer := zk_is_integer,
  d_is_integer := ⟨_, fun_mk (st := s_is_integer) zl_is_integer zd_is_integer zk_is_integer, (fun_mk (st := s_is_integer) zl_is_integer zd_is_integer zk_is_integer).binds (ps := ["thing"]) fun _ _ _ _ _ _ us hl => match us, hl with | [_], _ => rfl⟩,
  g_is_text := PySem.W.mg_of X G za_is_text,
  k_is_text := zk_is_text,
  d_is_text := ⟨_, fun_mk (st := s_is_text) zl_is_text zd_is_text zk_is_text, (fun_mk (st := s_is_text) zl_is_text zd_is_text zk_is_text).binds (ps := ["thing"]) fun _ _ _ _ _ _ us hl => match us, hl with | [_], _ => rfl⟩,
  g_is_brand := PySem.W.mg_of X G za_is_brand,
  k_is_brand := zk_is_brand,
  d_is_brand := ⟨_, fun_mk (st := s_is_brand) zl_is_brand zd_is_brand zk_is_brand, (fun_mk (st := s_is_brand) zl_is_brand zd_is_brand zk_is_brand).binds (ps := ["thing"]) fun _ _ _ _ _ _ us hl => match us, hl with | [_], _ => rfl⟩,
  k_Registry___init__ := zk_Registry___init__,
  d_Registry___init__ := ⟨⟨_, _, _, _, _, _, _, _, _, _, zl_Registry___init__, zd_Registry___init__, StX.bind_star1 (B := fun l => bindArgs _ ⟨l, []⟩) (fun _ => rfl) (fun _ _ _ => rfl)⟩⟩,
  k_Registry_check_new := zk_Registry_check_new,
  d_Registry_check_new := ⟨_, fun_mk (st := s_Registry_check_new) zl_Registry_check_new zd_Registry_check_new zk_Registry_check_new, (fun_mk (st := s_Registry_check_new) zl_Registry_check_new zd_Registry_check_new zk_Registry_check_new).binds (ps := ["self", "brand"]) fun _ _ _ _ _ _ us hl => match us, hl with | [_, _], _ => rfl⟩,
  k_Registry_check_known := zk_Registry_check_known,
  d_Registry_check_known := ⟨_, fun_mk (st := s_Registry_check_known) zl_Registry_check_known zd_Registry_check_known zk_Registry_check_known, (fun_mk (st := s_Registry_check_known) zl_Registry_check_known zd_Registry_check_known zk_Registry_check_known).binds (ps := ["self", "brand"]) fun _ _ _ _ _ _ us hl => match us, hl with | [_, _], _ => rfl⟩,
  k_Registry_allow := zk_Registry_allow,
  d_Registry_allow := ⟨_, fun_mk (st := s_Registry_allow) zl_Registry_allow zd_Registry_allow zk_Registry_allow, (fun_mk (st := s_Registry_allow) zl_Registry_allow zd_Registry_allow zk_Registry_allow).binds (ps := ["self", "brand"]) fun _ _ _ _ _ _ us hl => match us, hl with | [_, _], _ => rfl⟩,
  k_Registry_enter := zk_Registry_enter,
  d_Registry_enter := ⟨⟨_, _, _, _, _, _, _, _, _, zl_Registry_enter, zd_Registry_enter, zy_Registry_enter, (fun _ _ _ _ _ _ => ⟨_, _, _, _, _, _, rfl, rfl, rfl⟩), (fun _ _ _ _ _ _ => rfl)⟩⟩,
  k_Registry_forget := zk_Registry_forget,
  d_Registry_forget := ⟨_, fun_mk (st := s_Registry_forget) zl_Registry_forget zd_Registry_forget zk_Registry_forget, (fun_mk (st := s_Registry_forget) zl_Registry_forget zd_Registry_forget zk_Registry_forget).binds (ps := ["self", "brand"]) fun _ _ _ _ _ _ us hl => match us, hl with | [_, _], _ => rfl⟩,
  k_Registry_takes_of := zk_Registry_takes_of,
  d_Registry_takes_of := ⟨_, fun_mk (st := s_Registry_takes_of) zl_Registry_takes_of zd_Registry_takes_of zk_Registry_takes_of, (fun_mk (st := s_Registry_takes_of) zl_Registry_takes_of zd_Registry_takes_of zk_Registry_takes_of).binds (ps := ["self", "brand"]) fun _ _ _ _ _ _ us hl => match us, hl with | [_, _], _ => rfl⟩,
  k_Registry_brands := zk_Registry_brands,
  d_Registry_brands := ⟨_, fun_mk (st := s_Registry_brands) zl_Registry_brands zd_Registry_brands zk_Registry_brands, (fun_mk (st := s_Registry_brands) zl_Registry_brands zd_Registry_brands zk_Registry_brands).binds (ps := ["self"]) fun _ _ _ _ _ _ us hl => match us, hl with | [_], _ => rfl⟩,
  k_Registry___contains__ := zk_Registry___contains__,
  d_Registry___contains__ := ⟨_, fun_mk (st := s_Registry___contains__) zl_Registry___contains__ zd_Registry___contains__ zk_Registry___contains__, (fun_mk (st := s_Registry___contains__) zl_Registry___contains__ zd_Registry___contains__ zk_Registry___contains__).binds (ps := ["self", "brand"]) fun _ _ _ _ _ _ us hl => match us, hl with | [_, _], _ => rfl⟩,
  k_Registry___len__ := zk_Registry___len__,
  d_Registry___len__ := ⟨_, fun_mk (st := s_Registry___len__) zl_Registry___len__ zd_Registry___len__ zk_Registry___len__, (fun_mk (st := s_Registry___len__) zl_Registry___len__ zd_Registry___len__ zk_Registry___len__).binds (ps := ["self"]) fun _ _ _ _ _ _ us hl => match us, hl with | [_], _ => rfl⟩,
  k_Registry_twin := zk_Registry_twin,
  d_Registry_twin := ⟨_, fun_mk (st := s_Registry_twin) zl_Registry_twin zd_Registry_twin zk_Registry_twin, (fun_mk (st := s_Registry_twin) zl_Registry_twin zd_Registry_twin zk_Registry_twin).binds (ps := ["self"]) fun _ _ _ _ _ _ us hl => match us, hl with | [_], _ => rfl⟩,
  g_check_labels := PySem.W.mg_of X G za_check_labels,
  k_check_labels := zk_check_labels,
  d_check_labels := ⟨_, fun_mk (st := s_check_labels) zl_check_labels zd_check_labels zk_check_labels, (fun_mk (st := s_check_labels) zl_check_labels zd_check_labels zk_check_labels).binds (ps := ["labels"]) fun _ _ _ _ _ _ us hl => match us, hl with | [_], _ => rfl⟩,
  k_Fields___init__ := zk_Fields___init__,
  d_Fields___init__ := ⟨⟨_, _, _, _, _, _, _, _, _, _, zl_Fields___init__, zd_Fields___init__, fun us rest hl => match us, rest, hl with | [u0, u1], [], _ => rfl | [u0, u1], _ :: _, _ => rfl⟩⟩,
  g__law_begin := PySem.W.mg_of X G za__law_begin,
  k__law_begin := zk__law_begin,
  d__law_begin := ⟨_, fun_mk (st := s__law_begin) zl__law_begin zd__law_begin zk__law_begin, (fun_mk (st := s__law_begin) zl__law_begin zd__law_begin zk__law_begin).binds (ps := ["script"]) fun _ _ _ _ _ _ us hl => match us, hl with | [_], _ => rfl⟩,
  g__law_mixed := PySem.W.mg_of X G za__law_mixed,
  k__law_mixed := zk__law_mixed,
  d__law_mixed := ⟨_, fun_mk (st := s__law_mixed) zl__law_mixed zd__law_mixed zk__law_mixed, (fun_mk (st := s__law_mixed) zl__law_mixed zd__law_mixed zk__law_mixed).binds (ps := ["cell", "k"]) fun _ _ _ _ _ _ us hl => match us, hl with | [_, _], _ => rfl⟩,
  g__law_next := PySem.W.mg_of X G za__law_next,
  k__law_next := zk__law_next,
  d__law_next := ⟨_, fun_mk (st := s__law_next) zl__law_next zd__law_next zk__law_next, (fun_mk (st := s__law_next) zl__law_next zd__law_next zk__law_next).binds (ps := ["draw", "bound"]) fun _ _ _ _ _ _ us hl => match us, hl with | [_, _], _ => rfl⟩,
  g__law_brand := PySem.W.mg_of X G za__law_brand,
  k__law_brand := zk__law_brand,
  d__law_brand := ⟨_, fun_mk (st := s__law_brand) zl__law_brand zd__law_brand zk__law_brand, (fun_mk (st := s__law_brand) zl__law_brand zd__law_brand zk__law_brand).binds (ps := ["draw"]) fun _ _ _ _ _ _ us hl => match us, hl with | [_], _ => rfl⟩,
  g__law_caught := PySem.W.mg_of X G za__law_caught,
  k__law_caught := zk__law_caught,
  d__law_caught := ⟨_, fun_mk (st := s__law_caught) zl__law_caught zd__law_caught zk__law_caught, (fun_mk (st := s__law_caught) zl__law_caught zd__law_caught zk__law_caught).binds (ps := ["call"]) fun _ _ _ _ _ _ us hl => match us, hl with | [_], _ => rfl⟩,
  g__law_entered := PySem.W.mg_of X G za__law_entered,
  k__law_entered := zk__law_entered,
  d__law_entered := ⟨_, fun_mk (st := s__law_entered) zl__law_entered zd__law_entered zk__law_entered, (fun_mk (st := s__law_entered) zl__law_entered zd__law_entered zk__law_entered).binds (ps := ["book", "word", "many", "is_named"]) fun _ _ _ _ _ _ us hl => match us, hl with | [_, _, _, _], _ => rfl⟩,
  g__law_call_right := PySem.W.mg_of X G za__law_call_right,
  k__law_call_right := zk__law_call_right,
  dc__law_call_right := ⟨_, _, _, _, _, _, _, _, zl__law_call_right, zd__law_call_right, .all fun us hl => match us, hl with | [_, _, _], _ => rfl⟩,
  g__law_read_right := PySem.W.mg_of X G za__law_read_right,
  k__law_read_right := zk__law_read_right,
  dc__law_read_right := ⟨_, _, _, _, _, _, _, _, zl__law_read_right, zd__law_read_right, .all fun us hl => match us, hl with | [_, _, _], _ => rfl⟩,
  g__law_started := PySem.W.mg_of X G za__law_started,
  k__law_started := zk__law_started,
  d__law_started := ⟨_, fun_mk (st := s__law_started) zl__law_started zd__law_started zk__law_started, (fun_mk (st := s__law_started) zl__law_started zd__law_started zk__law_started).binds (ps := ["draw"]) fun _ _ _ _ _ _ us hl => match us, hl with | [_], _ => rfl⟩,
  g_law := PySem.W.mg_of X G za_law,
  k_law := zk_law,
  d_law := ⟨_, fun_mk (st := s_law) zl_law zd_law zk_law, (fun_mk (st := s_law) zl_law zd_law zk_law).binds (ps := ["script"]) fun _ _ _ _ _ _ us hl => match us, hl with | [_], _ => rfl⟩,
  g_JarError := PySem.W.mg_of X G za_JarError,
  x_JarError := zx_JarError,
  t_JarError := zt_JarError,
  h_JarError := zh_JarError,
  g_InvalidKey := PySem.W.mg_of X G za_InvalidKey,
  x_InvalidKey := zx_InvalidKey,
  t_InvalidKey := zt_InvalidKey,
  h_InvalidKey := zh_InvalidKey,
  n_InvalidKey_key := zn_InvalidKey_key,
  k_InvalidKey := zk_InvalidKey,
  e_InvalidKey := ⟨famV, PySem.W.mg_of X G za_InvalidKey, zi_InvalidKey, zo_InvalidKey, zh_InvalidKey, zI_InvalidKey, zf_InvalidKey, zs_InvalidKey, zB_InvalidKey, zST_InvalidKey, PySem.W.mg_none_of X G zb_super, zA_InvalidKey, (by intro f hf; rcases List.mem_cons.mp hf with rfl | hf; exact zT_InvalidKey_key; cases hf), ⟨_, _, _, zC_InvalidKey⟩, ⟨_, _, _, _, _, zD_InvalidKey, zE_InvalidKey⟩, zM_InvalidKey, Option.isSome_iff_exists.mp zN_InvalidKey, zP_InvalidKey⟩,
  i_InvalidKey := ⟨⟨_, _, _, _, _, _, _, _, _, ⟨14, 17, 14, 21⟩, [⟨14, 23, 14, 26⟩], _, _, _, _, _, [("key", ⟨16, 8, 16, 12⟩, ⟨16, 8, 16, 16⟩, ⟨16, 19, 16, 22⟩, ⟨16, 8, 16, 22⟩)], zl_InvalidKey, rfl, rfl, rfl⟩, zq_InvalidKey, (by decide +kernel), by decide +kernel, ⟨(fun z => nomatch z), by decide⟩, (by rintro fd ⟨oc, od, osl, h⟩ u us hl; have q := h.symm.trans zl_InvalidKey; cases q; exact match us, hl with | [_], _ => rfl)⟩,
  R_InvalidKey := ⟨zN_InvalidKey, zga_InvalidKey, zgg_InvalidKey, zx_InvalidKey, zcc_InvalidKey, zcg_InvalidKey, zct_InvalidKey, zmo_InvalidKey, zh_InvalidKey⟩,
  g_InvalidBrand := PySem.W.mg_of X G za_InvalidBrand,
  x_InvalidBrand := zx_InvalidBrand,
  t_InvalidBrand := zt_InvalidBrand,
  h_InvalidBrand := zh_InvalidBrand,
  n_InvalidBrand_given := zn_InvalidBrand_given,
  k_InvalidBrand := zk_InvalidBrand,
  e_InvalidBrand := ⟨famV, PySem.W.mg_of X G za_InvalidBrand, zi_InvalidBrand, zo_InvalidBrand, zh_InvalidBrand, zI_InvalidBrand, zf_InvalidBrand, zs_InvalidBrand, zB_InvalidBrand, zST_InvalidBrand, PySem.W.mg_none_of X G zb_super, zA_InvalidBrand, (by intro f hf; rcases List.mem_cons.mp hf with rfl | hf; exact zT_InvalidBrand_given; cases hf), ⟨_, _, _, zC_InvalidBrand⟩, ⟨_, _, _, _, _, zD_InvalidBrand, zE_InvalidBrand⟩, zM_InvalidBrand, Option.isSome_iff_exists.mp zN_InvalidBrand, zP_InvalidBrand⟩,
  i_InvalidBrand := ⟨⟨_, _, _, _, _, _, _, _, _, ⟨19, 17, 19, 21⟩, [⟨19, 23, 19, 28⟩], _, _, _, _, _, [("given", ⟨21, 8, 21, 12⟩, ⟨21, 8, 21, 18⟩, ⟨21, 21, 21, 26⟩, ⟨21, 8, 21, 26⟩)], zl_InvalidBrand, rfl, rfl, rfl⟩, zq_InvalidBrand, (by decide +kernel), by decide +kernel, ⟨(fun z => nomatch z), by decide⟩, (by rintro fd ⟨oc, od, osl, h⟩ u us hl; have q := h.symm.trans zl_InvalidBrand; cases q; exact match us, hl with | [_], _ => rfl)⟩,
  R_InvalidBrand := ⟨zN_InvalidBrand, zga_InvalidBrand, zgg_InvalidBrand, zx_InvalidBrand, zcc_InvalidBrand, zcg_InvalidBrand, zct_InvalidBrand, zmo_InvalidBrand, zh_InvalidBrand⟩,
  g_InvalidTakes := PySem.W.mg_of X G za_InvalidTakes,
  x_InvalidTakes := zx_InvalidTakes,
  t_InvalidTakes := zt_InvalidTakes,
  h_InvalidTakes := zh_InvalidTakes,
  n_InvalidTakes_value := zn_InvalidTakes_value,
  k_InvalidTakes := zk_InvalidTakes,
  e_InvalidTakes := ⟨famV, PySem.W.mg_of X G za_InvalidTakes, zi_InvalidTakes, zo_InvalidTakes, zh_InvalidTakes, zI_InvalidTakes, zf_InvalidTakes, zs_InvalidTakes, zB_InvalidTakes, zST_InvalidTakes, PySem.W.mg_none_of X G zb_super, zA_InvalidTakes, (by intro f hf; rcases List.mem_cons.mp hf with rfl | hf; exact zT_InvalidTakes_value; cases hf), ⟨_, _, _, zC_InvalidTakes⟩, ⟨_, _, _, _, _, zD_InvalidTakes, zE_InvalidTakes⟩, zM_InvalidTakes, Option.isSome_iff_exists.mp zN_InvalidTakes, zP_InvalidTakes⟩,
  i_InvalidTakes := ⟨⟨_, _, _, _, _, _, _, _, _, ⟨24, 17, 24, 21⟩, [⟨24, 23, 24, 28⟩], _, _, _, _, _, [("value", ⟨26, 8, 26, 12⟩, ⟨26, 8, 26, 18⟩, ⟨26, 21, 26, 26⟩, ⟨26, 8, 26, 26⟩)], zl_InvalidTakes, rfl, rfl, rfl⟩, zq_InvalidTakes, (by decide +kernel), by decide +kernel, ⟨(fun z => nomatch z), by decide⟩, (by rintro fd ⟨oc, od, osl, h⟩ u us hl; have q := h.symm.trans zl_InvalidTakes; cases q; exact match us, hl with | [_], _ => rfl)⟩,
  R_InvalidTakes := ⟨zN_InvalidTakes, zga_InvalidTakes, zgg_InvalidTakes, zx_InvalidTakes, zcc_InvalidTakes, zcg_InvalidTakes, zct_InvalidTakes, zmo_InvalidTakes, zh_InvalidTakes⟩,
  g_StateError := PySem.W.mg_of X G za_StateError,
  x_StateError := zx_StateError,
  t_StateError := zt_StateError,
  h_StateError := zh_StateError,
  g_BrandTaken := PySem.W.mg_of X G za_BrandTaken,
  x_BrandTaken := zx_BrandTaken,
  t_BrandTaken := zt_BrandTaken,
  h_BrandTaken := zh_BrandTaken,
  n_BrandTaken_given := zn_BrandTaken_given,
  k_BrandTaken := zk_BrandTaken,
  e_BrandTaken := ⟨famR, PySem.W.mg_of X G za_BrandTaken, zi_BrandTaken, zo_BrandTaken, zh_BrandTaken, zI_BrandTaken, zf_BrandTaken, zs_BrandTaken, zB_BrandTaken, zST_BrandTaken, PySem.W.mg_none_of X G zb_super, zA_BrandTaken, (by intro f hf; rcases List.mem_cons.mp hf with rfl | hf; exact zT_BrandTaken_given; cases hf), ⟨_, _, _, zC_BrandTaken⟩, ⟨_, _, _, _, _, zD_BrandTaken, zE_BrandTaken⟩, zM_BrandTaken, Option.isSome_iff_exists.mp zN_BrandTaken, zP_BrandTaken⟩,
  i_BrandTaken := ⟨⟨_, _, _, _, _, _, _, _, _, ⟨36, 17, 36, 21⟩, [⟨36, 23, 36, 28⟩], _, _, _, _, _, [("given", ⟨38, 8, 38, 12⟩, ⟨38, 8, 38, 18⟩, ⟨38, 21, 38, 26⟩, ⟨38, 8, 38, 26⟩)], zl_BrandTaken, rfl, rfl, rfl⟩, zq_BrandTaken, (by decide +kernel), by decide +kernel, ⟨(fun z => nomatch z), by decide⟩, (by rintro fd ⟨oc, od, osl, h⟩ u us hl; have q := h.symm.trans zl_BrandTaken; cases q; exact match us, hl with | [_], _ => rfl)⟩,
  R_BrandTaken := ⟨zN_BrandTaken, zga_BrandTaken, zgg_BrandTaken, zx_BrandTaken, zcc_BrandTaken, zcg_BrandTaken, zct_BrandTaken, zmo_BrandTaken, zh_BrandTaken⟩,
  g_MissingError := PySem.W.mg_of X G za_MissingError,
  x_MissingError := zx_MissingError,
  t_MissingError := zt_MissingError,
  h_MissingError := zh_MissingError,
  g_UnknownBrand := PySem.W.mg_of X G za_UnknownBrand,
  x_UnknownBrand := zx_UnknownBrand,
  t_UnknownBrand := zt_UnknownBrand,
  h_UnknownBrand := zh_UnknownBrand,
  n_UnknownBrand_given := zn_UnknownBrand_given,
  k_UnknownBrand := zk_UnknownBrand,
  e_UnknownBrand := ⟨famL, PySem.W.mg_of X G za_UnknownBrand, zi_UnknownBrand, zo_UnknownBrand, zh_UnknownBrand, zI_UnknownBrand, zf_UnknownBrand, zs_UnknownBrand, zB_UnknownBrand, zST_UnknownBrand, PySem.W.mg_none_of X G zb_super, zA_UnknownBrand, (by intro f hf; rcases List.mem_cons.mp hf with rfl | hf; exact zT_UnknownBrand_given; cases hf), ⟨_, _, _, zC_UnknownBrand⟩, ⟨_, _, _, _, _, zD_UnknownBrand, zE_UnknownBrand⟩, zM_UnknownBrand, Option.isSome_iff_exists.mp zN_UnknownBrand, zP_UnknownBrand⟩,
  i_UnknownBrand := ⟨⟨_, _, _, _, _, _, _, _, _, ⟨43, 17, 43, 21⟩, [⟨43, 23, 43, 28⟩], _, _, _, _, _, [("given", ⟨45, 8, 45, 12⟩, ⟨45, 8, 45, 18⟩, ⟨45, 21, 45, 26⟩, ⟨45, 8, 45, 26⟩)], zl_UnknownBrand, rfl, rfl, rfl⟩, zq_UnknownBrand, (by decide +kernel), by decide +kernel, ⟨(fun z => nomatch z), by decide⟩, (by rintro fd ⟨oc, od, osl, h⟩ u us hl; have q := h.symm.trans zl_UnknownBrand; cases q; exact match us, hl with | [_], _ => rfl)⟩,
  R_UnknownBrand := ⟨zN_UnknownBrand, zga_UnknownBrand, zgg_UnknownBrand, zx_UnknownBrand, zcc_UnknownBrand, zcg_UnknownBrand, zct_UnknownBrand, zmo_UnknownBrand, zh_UnknownBrand⟩,
  u_InvalidKey_JarError := zu_InvalidKey_JarError,
  v_InvalidKey_JarError := zv_InvalidKey_JarError,
  u_InvalidKey_StateError := zu_InvalidKey_StateError,
  v_InvalidKey_StateError := zv_InvalidKey_StateError,
  u_InvalidKey_MissingError := zu_InvalidKey_MissingError,
  v_InvalidKey_MissingError := zv_InvalidKey_MissingError,
  u_InvalidBrand_JarError := zu_InvalidBrand_JarError,
  v_InvalidBrand_JarError := zv_InvalidBrand_JarError,
  u_InvalidBrand_StateError := zu_InvalidBrand_StateError,
  v_InvalidBrand_StateError := zv_InvalidBrand_StateError,
  u_InvalidBrand_MissingError := zu_InvalidBrand_MissingError,
  v_InvalidBrand_MissingError := zv_InvalidBrand_MissingError,
  u_InvalidTakes_JarError := zu_InvalidTakes_JarError,
  v_InvalidTakes_JarError := zv_InvalidTakes_JarError,
  u_InvalidTakes_StateError := zu_InvalidTakes_StateError,
  v_InvalidTakes_StateError := zv_InvalidTakes_StateError,
  u_InvalidTakes_MissingError := zu_InvalidTakes_MissingError,
  v_InvalidTakes_MissingError := zv_InvalidTakes_MissingError,
  u_BrandTaken_JarError := zu_BrandTaken_JarError,
  v_BrandTaken_JarError := zv_BrandTaken_JarError,
  u_BrandTaken_StateError := zu_BrandTaken_StateError,
  v_BrandTaken_StateError := zv_BrandTaken_StateError,
  u_BrandTaken_MissingError := zu_BrandTaken_MissingError,
  v_BrandTaken_MissingError := zv_BrandTaken_MissingError,
  u_UnknownBrand_JarError := zu_UnknownBrand_JarError,
  v_UnknownBrand_JarError := zv_UnknownBrand_JarError,
  u_UnknownBrand_StateError := zu_UnknownBrand_StateError,
  v_UnknownBrand_StateError := zv_UnknownBrand_StateError,
  u_UnknownBrand_MissingError := zu_UnknownBrand_MissingError,
  v_UnknownBrand_MissingError := zv_UnknownBrand_MissingError,
  u_InvalidKey_InvalidKey := zu_InvalidKey_InvalidKey,
  v_InvalidKey_InvalidKey := zv_InvalidKey_InvalidKey,
  u_InvalidKey_InvalidBrand := zu_InvalidKey_InvalidBrand,
  v_InvalidKey_InvalidBrand := zv_InvalidKey_InvalidBrand,
  u_InvalidKey_InvalidTakes := zu_InvalidKey_InvalidTakes,
  v_InvalidKey_InvalidTakes := zv_InvalidKey_InvalidTakes,
  u_InvalidKey_BrandTaken := zu_InvalidKey_BrandTaken,
  v_InvalidKey_BrandTaken := zv_InvalidKey_BrandTaken,
  u_InvalidKey_UnknownBrand := zu_InvalidKey_UnknownBrand,
  v_InvalidKey_UnknownBrand := zv_InvalidKey_UnknownBrand,
  u_InvalidBrand_InvalidKey := zu_InvalidBrand_InvalidKey,
  v_InvalidBrand_InvalidKey := zv_InvalidBrand_InvalidKey,
  u_InvalidBrand_InvalidBrand := zu_InvalidBrand_InvalidBrand,
  v_InvalidBrand_InvalidBrand := zv_InvalidBrand_InvalidBrand,
  u_InvalidBrand_InvalidTakes := zu_InvalidBrand_InvalidTakes,
  v_InvalidBrand_InvalidTakes := zv_InvalidBrand_InvalidTakes,
  u_InvalidBrand_BrandTaken := zu_InvalidBrand_BrandTaken,
  v_InvalidBrand_BrandTaken := zv_InvalidBrand_BrandTaken,
  u_InvalidBrand_UnknownBrand := zu_InvalidBrand_UnknownBrand,
  v_InvalidBrand_UnknownBrand := zv_InvalidBrand_UnknownBrand,
  u_InvalidTakes_InvalidKey := zu_InvalidTakes_InvalidKey,
  v_InvalidTakes_InvalidKey := zv_InvalidTakes_InvalidKey,
  u_InvalidTakes_InvalidBrand := zu_InvalidTakes_InvalidBrand,
  v_InvalidTakes_InvalidBrand := zv_InvalidTakes_InvalidBrand,
  u_InvalidTakes_InvalidTakes := zu_InvalidTakes_InvalidTakes,
  v_InvalidTakes_InvalidTakes := zv_InvalidTakes_InvalidTakes,
  u_InvalidTakes_BrandTaken := zu_InvalidTakes_BrandTaken,
  v_InvalidTakes_BrandTaken := zv_InvalidTakes_BrandTaken,
  u_InvalidTakes_UnknownBrand := zu_InvalidTakes_UnknownBrand,
  v_InvalidTakes_UnknownBrand := zv_InvalidTakes_UnknownBrand,
  u_BrandTaken_InvalidKey := zu_BrandTaken_InvalidKey,
  v_BrandTaken_InvalidKey := zv_BrandTaken_InvalidKey,
  u_BrandTaken_InvalidBrand := zu_BrandTaken_InvalidBrand,
  v_BrandTaken_InvalidBrand := zv_BrandTaken_InvalidBrand,
  u_BrandTaken_InvalidTakes := zu_BrandTaken_InvalidTakes,
  v_BrandTaken_InvalidTakes := zv_BrandTaken_InvalidTakes,
  u_BrandTaken_BrandTaken := zu_BrandTaken_BrandTaken,
  v_BrandTaken_BrandTaken := zv_BrandTaken_BrandTaken,
  u_BrandTaken_UnknownBrand := zu_BrandTaken_UnknownBrand,
  v_BrandTaken_UnknownBrand := zv_BrandTaken_UnknownBrand,
  u_UnknownBrand_InvalidKey := zu_UnknownBrand_InvalidKey,
  v_UnknownBrand_InvalidKey := zv_UnknownBrand_InvalidKey,
  u_UnknownBrand_InvalidBrand := zu_UnknownBrand_InvalidBrand,
  v_UnknownBrand_InvalidBrand := zv_UnknownBrand_InvalidBrand,
  u_UnknownBrand_InvalidTakes := zu_UnknownBrand_InvalidTakes,
  v_UnknownBrand_InvalidTakes := zv_UnknownBrand_InvalidTakes,
  u_UnknownBrand_BrandTaken := zu_UnknownBrand_BrandTaken,
  v_UnknownBrand_BrandTaken := zv_UnknownBrand_BrandTaken,
  u_UnknownBrand_UnknownBrand := zu_UnknownBrand_UnknownBrand,
  v_UnknownBrand_UnknownBrand := zv_UnknownBrand_UnknownBrand,
  norules := zz_norules,
  tabne := zz_tabne,
  m0_Whole := zz_m0_Whole,
  i0_Whole := zz_i0_Whole,
  m0_Refill := zz_m0_Refill,
  i0_Refill := zz_i0_Refill }
end BJL
open PySem PySem.W PyProof.Rows
namespace BJL
open PySem PySem.W PySem.Calls PyProof.Rows HandSHeadRun
local macro_rules | `(tactic| o_headL $H) => `(tactic| (have hH := $H; contradiction))
set_option maxHeartbeats 0 in
theorem mk0 : False → PySem.Challenge.rw_brinejar_k09_registries.Holds := by
  intro hF; w_on; o_law; k_headL
abbrev R0 : OpenRow := OpenLaw.row PySem.Challenge.rw_brinejar_k09_registries
def q0 : Program := view R0.prog [52]
def names0 : List PySem.Str := ["_wall", "__name__", "JarError", "InvalidValue", "InvalidKey", "InvalidBrand", "InvalidTakes", "StateError", "KeyTaken", "BrandTaken", "MissingError", "UnknownBrand", "NoEntry", "MOST_INTEGER", "MOST_CHARACTERS", "MOST_BRAND", "BAG", "LETTERS", "OTHERS", "is_integer", "is_whole_atom", "is_text", "is_key", "is_atom", "is_brand", "holds_value", "check_value", "check_key", "check_label", "Node"]
def names1 : List PySem.Str := ["Book", "Thing", "MOST_TAKEN", "NO_RULES", "Registry", "check_labels", "Fields", "Whole", "Refill", "_law_begin", "_law_mixed", "_law_next", "_law_brand", "_law_caught", "_law_entered", "_law_call_right", "_law_read_right", "_law_started"]
def names0s : List PySem.Str := names0 ++ names1
noncomputable def as0 : List Addr := (mk0.heap_39 BJ.anyP).map (·.1)
set_option maxHeartbeats 0 in
theorem run1 : BJ.Run1 R0 12000 := by intro w os; kernel_rfl
set_option maxHeartbeats 0 in
theorem run2 : BJ.Run2 R0 12000 q0 names0s := by intro w os; kernel_rfl
set_option maxHeartbeats 0 in
theorem run3 : BJ.Run3 R0 12000 as0 mk0.heap_39 := by intro w os; kernel_rfl
set_option maxHeartbeats 0 in
theorem as0_eq : ∀ P, as0 = (mk0.heap_39 P).map (·.1) := fun P => by kernel_rfl
noncomputable def ts0 : List Addr := [BJ.tabAt (mk0.heap_39 BJ.anyP) "_law_call_right", BJ.tabAt (mk0.heap_39 BJ.anyP) "_law_read_right"]
set_option maxHeartbeats 0 in
theorem run4 : BJ.Run4 R0 12000 ts0 := by intro w os; kernel_rfl
end BJL
local macro_rules | `(tactic| walk_at "fact") => `(tactic| first | k_is | ks_is | (first | rfl | kernel_rfl | decide +kernel))
set_option maxHeartbeats 0 in
theorem BJL.facts0 (w : World) (mg : Str → Option Value) (h : Heap) (KX : (BJL.mk0.heap_39 w.params).In h) (G : h.Ns mainGlobals mg) : ∃ a : BJL.Adr, BJL.Txt PySem.Challenge.rw_brinejar_k09_registries.prog (BJL.mk0.heap_39 w.params) mg a ∧ PySem.W.codeHdIn (BJL.mk0.heap_39 w.params) a.lcode_law_call_right a.tab_law_call_right = true ∧ (BJL.mk0.heap_39 w.params).lookup a.tab_law_call_right = none ∧ a.tab_law_call_right ∈ BJL.ts0 ∧ PySem.W.codeHdIn (BJL.mk0.heap_39 w.params) a.lcode_law_read_right a.tab_law_read_right = true ∧ (BJL.mk0.heap_39 w.params).lookup a.tab_law_read_right = none ∧ a.tab_law_read_right ∈ BJL.ts0 := by
    refine ⟨?adr, ?txt, ?q0, ?q1, ?q2, ?q3, ?q4, ?q5⟩
    (case txt =>
    refine' BJL.all_mk KX G ?za_Registry ?zc1_Registry ?zc2_Registry ?zc3_Registry ?zc4_Registry ?zk_Registry ?ze1_Registry ?ze2_Registry ?zt_Registry ?zm1_Registry ?zm2_Registry ?zm3_Registry ?zp1_Registry_check_new ?zp2_Registry_check_new ?zp3_Registry_check_new ?zp1_Registry_check_known ?zp2_Registry_check_known ?zp3_Registry_check_known ?zp1_Registry_allow ?zp2_Registry_allow ?zp3_Registry_allow ?zp1_Registry_enter ?zp2_Registry_enter ?zp3_Registry_enter ?zp1_Registry_forget ?zp2_Registry_forget ?zp3_Registry_forget ?zp1_Registry_takes_of ?zp2_Registry_takes_of ?zp3_Registry_takes_of ?zp1_Registry_brands ?zp2_Registry_brands ?zp3_Registry_brands ?zp4_Registry_brands ?zp1_Registry___contains__ ?zp2_Registry___contains__ ?zp3_Registry___contains__ ?zp1_Registry___len__ ?zp2_Registry___len__ ?zp3_Registry___len__ ?zp1_Registry_twin ?zp2_Registry_twin ?zp3_Registry_twin ?zn_Registry_rules ?za_Fields ?zc1_Fields ?zc2_Fields ?zc3_Fields ?zc4_Fields ?zk_Fields ?ze1_Fields ?ze2_Fields ?zt_Fields ?zm1_Fields ?zm2_Fields ?zm3_Fields ?zn_Fields_new_brand ?zn_Fields_label_row ?za_Whole ?zc1_Whole ?zc2_Whole ?zc3_Whole ?zc4_Whole ?zk_Whole ?ze1_Whole ?ze2_Whole ?zt_Whole ?za_Refill ?zc1_Refill ?zc2_Refill ?zc3_Refill ?zc4_Refill ?zk_Refill ?ze1_Refill ?ze2_Refill ?zt_Refill ?za_NO_RULES ?zb_all ?zb_bool ?zb_dict ?zb_int ?zb_isinstance ?zb_len ?zb_min ?zb_property ?zb_range ?zb_repr ?zb_sorted ?zb_str ?zb_tuple ?zb_super ?zc_MOST_INTEGER ?zc_MOST_CHARACTERS ?zc_MOST_BRAND ?zc_BAG ?zc_LETTERS ?zc_OTHERS ?zc_MOST_TAKEN ?za_is_integer ?zl_is_integer ?zd_is_integer ?zk_is_integer ?za_is_text ?zl_is_text ?zd_is_text ?zk_is_text ?za_is_brand ?zl_is_brand ?zd_is_brand ?zk_is_brand ?zl_Registry___init__ ?zd_Registry___init__ ?zk_Registry___init__ ?zl_Registry_check_new ?zd_Registry_check_new ?zk_Registry_check_new ?zl_Registry_check_known ?zd_Registry_check_known ?zk_Registry_check_known ?zl_Registry_allow ?zd_Registry_allow ?zk_Registry_allow ?zl_Registry_enter ?zd_Registry_enter ?zk_Registry_enter ?zy_Registry_enter ?zl_Registry_forget ?zd_Registry_forget ?zk_Registry_forget ?zl_Registry_takes_of ?zd_Registry_takes_of ?zk_Registry_takes_of ?zl_Registry_brands ?zd_Registry_brands ?zk_Registry_brands ?zl_Registry___contains__ ?zd_Registry___contains__ ?zk_Registry___contains__ ?zl_Registry___len__ ?zd_Registry___len__ ?zk_Registry___len__ ?zl_Registry_twin ?zd_Registry_twin ?zk_Registry_twin ?za_check_labels ?zl_check_labels ?zd_check_labels ?zk_check_labels ?zl_Fields___init__ ?zd_Fields___init__ ?zk_Fields___init__ ?za__law_begin ?zl__law_begin ?zd__law_begin ?zk__law_begin ?za__law_mixed ?zl__law_mixed ?zd__law_mixed ?zk__law_mixed ?za__law_next ?zl__law_next ?zd__law_next ?zk__law_next ?za__law_brand ?zl__law_brand ?zd__law_brand ?zk__law_brand ?za__law_caught ?zl__law_caught ?zd__law_caught ?zk__law_caught ?za__law_entered ?zl__law_entered ?zd__law_entered ?zk__law_entered ?za__law_call_right ?zl__law_call_right ?zd__law_call_right ?zk__law_call_right ?zt_lc_law_call_right ?zt_tab_law_call_right ?za__law_read_right ?zl__law_read_right ?zd__law_read_right ?zk__law_read_right ?zt_lc_law_read_right ?zt_tab_law_read_right ?za__law_started ?zl__law_started ?zd__law_started ?zk__law_started ?za_law ?zl_law ?zd_law ?zk_law ?za_JarError ?zt_JarError ?zx_JarError ?zh_JarError ?za_InvalidKey ?zt_InvalidKey ?zx_InvalidKey ?zh_InvalidKey ?zi_InvalidKey ?zo_InvalidKey ?zI_InvalidKey ?zf_InvalidKey ?zl_InvalidKey ?zq_InvalidKey ?zs_InvalidKey ?zB_InvalidKey ?zST_InvalidKey ?zA_InvalidKey ?zT_InvalidKey_key ?zn_InvalidKey_key ?zC_InvalidKey ?zD_InvalidKey ?zE_InvalidKey ?zM_InvalidKey ?zN_InvalidKey ?zP_InvalidKey ?zk_InvalidKey ?zga_InvalidKey ?zgg_InvalidKey ?zcc_InvalidKey ?zcg_InvalidKey ?zct_InvalidKey ?zmo_InvalidKey ?za_InvalidBrand ?zt_InvalidBrand ?zx_InvalidBrand ?zh_InvalidBrand ?zi_InvalidBrand ?zo_InvalidBrand ?zI_InvalidBrand ?zf_InvalidBrand ?zl_InvalidBrand ?zq_InvalidBrand ?zs_InvalidBrand ?zB_InvalidBrand ?zST_InvalidBrand ?zA_InvalidBrand ?zT_InvalidBrand_given ?zn_InvalidBrand_given ?zC_InvalidBrand ?zD_InvalidBrand ?zE_InvalidBrand ?zM_InvalidBrand ?zN_InvalidBrand ?zP_InvalidBrand ?zk_InvalidBrand ?zga_InvalidBrand ?zgg_InvalidBrand ?zcc_InvalidBrand ?zcg_InvalidBrand ?zct_InvalidBrand ?zmo_InvalidBrand ?za_InvalidTakes ?zt_InvalidTakes ?zx_InvalidTakes ?zh_InvalidTakes ?zi_InvalidTakes ?zo_InvalidTakes ?zI_InvalidTakes ?zf_InvalidTakes ?zl_InvalidTakes ?zq_InvalidTakes ?zs_InvalidTakes ?zB_InvalidTakes ?zST_InvalidTakes ?zA_InvalidTakes ?zT_InvalidTakes_value ?zn_InvalidTakes_value ?zC_InvalidTakes ?zD_InvalidTakes ?zE_InvalidTakes ?zM_InvalidTakes ?zN_InvalidTakes ?zP_InvalidTakes ?zk_InvalidTakes ?zga_InvalidTakes ?zgg_InvalidTakes ?zcc_InvalidTakes ?zcg_InvalidTakes ?zct_InvalidTakes ?zmo_InvalidTakes ?za_StateError ?zt_StateError ?zx_StateError ?zh_StateError ?za_BrandTaken ?zt_BrandTaken ?zx_BrandTaken ?zh_BrandTaken ?zi_BrandTaken ?zo_BrandTaken ?zI_BrandTaken ?zf_BrandTaken ?zl_BrandTaken ?zq_BrandTaken ?zs_BrandTaken ?zB_BrandTaken ?zST_BrandTaken ?zA_BrandTaken ?zT_BrandTaken_given ?zn_BrandTaken_given ?zC_BrandTaken ?zD_BrandTaken ?zE_BrandTaken ?zM_BrandTaken ?zN_BrandTaken ?zP_BrandTaken ?zk_BrandTaken ?zga_BrandTaken ?zgg_BrandTaken ?zcc_BrandTaken ?zcg_BrandTaken ?zct_BrandTaken ?zmo_BrandTaken ?za_MissingError ?zt_MissingError ?zx_MissingError ?zh_MissingError ?za_UnknownBrand ?zt_UnknownBrand ?zx_UnknownBrand ?zh_UnknownBrand ?zi_UnknownBrand ?zo_UnknownBrand ?zI_UnknownBrand ?zf_UnknownBrand ?zl_UnknownBrand ?zq_UnknownBrand ?zs_UnknownBrand ?zB_UnknownBrand ?zST_UnknownBrand ?zA_UnknownBrand ?zT_UnknownBrand_given ?zn_UnknownBrand_given ?zC_UnknownBrand ?zD_UnknownBrand ?zE_UnknownBrand ?zM_UnknownBrand ?zN_UnknownBrand ?zP_UnknownBrand ?zk_UnknownBrand ?zga_UnknownBrand ?zgg_UnknownBrand ?zcc_UnknownBrand ?zcg_UnknownBrand ?zct_UnknownBrand ?zmo_UnknownBrand ?zu_InvalidKey_JarError ?zv_InvalidKey_JarError ?zu_InvalidKey_StateError ?zv_InvalidKey_StateError ?zu_InvalidKey_MissingError ?zv_InvalidKey_MissingError ?zu_InvalidBrand_JarError ?zv_InvalidBrand_JarError ?zu_InvalidBrand_StateError ?zv_InvalidBrand_StateError ?zu_InvalidBrand_MissingError ?zv_InvalidBrand_MissingError ?zu_InvalidTakes_JarError ?zv_InvalidTakes_JarError ?zu_InvalidTakes_StateError ?zv_InvalidTakes_StateError ?zu_InvalidTakes_MissingError ?zv_InvalidTakes_MissingError ?zu_BrandTaken_JarError ?zv_BrandTaken_JarError ?zu_BrandTaken_StateError ?zv_BrandTaken_StateError ?zu_BrandTaken_MissingError ?zv_BrandTaken_MissingError ?zu_UnknownBrand_JarError ?zv_UnknownBrand_JarError ?zu_UnknownBrand_StateError ?zv_UnknownBrand_StateError ?zu_UnknownBrand_MissingError ?zv_UnknownBrand_MissingError ?zu_InvalidKey_InvalidKey ?zv_InvalidKey_InvalidKey ?zu_InvalidKey_InvalidBrand ?zv_InvalidKey_InvalidBrand ?zu_InvalidKey_InvalidTakes ?zv_InvalidKey_InvalidTakes ?zu_InvalidKey_BrandTaken ?zv_InvalidKey_BrandTaken ?zu_InvalidKey_UnknownBrand ?zv_InvalidKey_UnknownBrand ?zu_InvalidBrand_InvalidKey ?zv_InvalidBrand_InvalidKey ?zu_InvalidBrand_InvalidBrand ?zv_InvalidBrand_InvalidBrand ?zu_InvalidBrand_InvalidTakes ?zv_InvalidBrand_InvalidTakes ?zu_InvalidBrand_BrandTaken ?zv_InvalidBrand_BrandTaken ?zu_InvalidBrand_UnknownBrand ?zv_InvalidBrand_UnknownBrand ?zu_InvalidTakes_InvalidKey ?zv_InvalidTakes_InvalidKey ?zu_InvalidTakes_InvalidBrand ?zv_InvalidTakes_InvalidBrand ?zu_InvalidTakes_InvalidTakes ?zv_InvalidTakes_InvalidTakes ?zu_InvalidTakes_BrandTaken ?zv_InvalidTakes_BrandTaken ?zu_InvalidTakes_UnknownBrand ?zv_InvalidTakes_UnknownBrand ?zu_BrandTaken_InvalidKey ?zv_BrandTaken_InvalidKey ?zu_BrandTaken_InvalidBrand ?zv_BrandTaken_InvalidBrand ?zu_BrandTaken_InvalidTakes ?zv_BrandTaken_InvalidTakes ?zu_BrandTaken_BrandTaken ?zv_BrandTaken_BrandTaken ?zu_BrandTaken_UnknownBrand ?zv_BrandTaken_UnknownBrand ?zu_UnknownBrand_InvalidKey ?zv_UnknownBrand_InvalidKey ?zu_UnknownBrand_InvalidBrand ?zv_UnknownBrand_InvalidBrand ?zu_UnknownBrand_InvalidTakes ?zv_UnknownBrand_InvalidTakes ?zu_UnknownBrand_BrandTaken ?zv_UnknownBrand_BrandTaken ?zu_UnknownBrand_UnknownBrand ?zv_UnknownBrand_UnknownBrand ?zz_norules ?zz_tabne ?zz_m0_Whole ?zz_i0_Whole ?zz_m0_Refill ?zz_i0_Refill
    (case za_Registry => walk_at "fact")
    (case zc1_Registry => walk_at "fact")
    (case zc2_Registry => walk_at "fact")
    (case zc3_Registry => walk_at "fact")
    (case zc4_Registry => walk_at "fact")
    (case zk_Registry => walk_at "fact")
    (case ze1_Registry => walk_at "fact")
    (case ze2_Registry => walk_at "fact")
    (case zt_Registry => walk_at "fact")
    (case zm1_Registry => walk_at "fact")
    (case zm2_Registry => walk_at "fact")
    (case zm3_Registry => walk_at "fact")
    (case zp1_Registry_check_new => walk_at "fact")
    (case zp2_Registry_check_new => walk_at "fact")
    (case zp3_Registry_check_new => walk_at "fact")
    (case zp1_Registry_check_known => walk_at "fact")
    (case zp2_Registry_check_known => walk_at "fact")
    (case zp3_Registry_check_known => walk_at "fact")
    (case zp1_Registry_allow => walk_at "fact")
    (case zp2_Registry_allow => walk_at "fact")
    (case zp3_Registry_allow => walk_at "fact")
    (case zp1_Registry_enter => walk_at "fact")
    (case zp2_Registry_enter => walk_at "fact")
    (case zp3_Registry_enter => walk_at "fact")
    (case zp1_Registry_forget => walk_at "fact")
    (case zp2_Registry_forget => walk_at "fact")
    (case zp3_Registry_forget => walk_at "fact")
    (case zp1_Registry_takes_of => walk_at "fact")
    (case zp2_Registry_takes_of => walk_at "fact")
    (case zp3_Registry_takes_of => walk_at "fact")
    (case zp1_Registry_brands => walk_at "fact")
    (case zp2_Registry_brands => walk_at "fact")
    (case zp3_Registry_brands => walk_at "fact")
    (case zp4_Registry_brands => walk_at "fact")
    (case zp1_Registry___contains__ => walk_at "fact")
    (case zp2_Registry___contains__ => walk_at "fact")
    (case zp3_Registry___contains__ => walk_at "fact")
    (case zp1_Registry___len__ => walk_at "fact")
    (case zp2_Registry___len__ => walk_at "fact")
    (case zp3_Registry___len__ => walk_at "fact")
    (case zp1_Registry_twin => walk_at "fact")
    (case zp2_Registry_twin => walk_at "fact")
    (case zp3_Registry_twin => walk_at "fact")
    (case zn_Registry_rules => walk_at "fact")
    (case za_Fields => walk_at "fact")
    (case zc1_Fields => walk_at "fact")
    (case zc2_Fields => walk_at "fact")
    (case zc3_Fields => walk_at "fact")
    (case zc4_Fields => walk_at "fact")
    (case zk_Fields => walk_at "fact")
    (case ze1_Fields => walk_at "fact")
    (case ze2_Fields => walk_at "fact")
    (case zt_Fields => walk_at "fact")
    (case zm1_Fields => walk_at "fact")
    (case zm2_Fields => walk_at "fact")
    (case zm3_Fields => walk_at "fact")
    (case zn_Fields_new_brand => walk_at "fact")
    (case zn_Fields_label_row => walk_at "fact")
    (case za_Whole => walk_at "fact")
    (case zc1_Whole => walk_at "fact")
    (case zc2_Whole => walk_at "fact")
    (case zc3_Whole => walk_at "fact")
    (case zc4_Whole => walk_at "fact")
    (case zk_Whole => walk_at "fact")
    (case ze1_Whole => walk_at "fact")
    (case ze2_Whole => walk_at "fact")
    (case zt_Whole => walk_at "fact")
    (case za_Refill => walk_at "fact")
    (case zc1_Refill => walk_at "fact")
    (case zc2_Refill => walk_at "fact")
    (case zc3_Refill => walk_at "fact")
    (case zc4_Refill => walk_at "fact")
    (case zk_Refill => walk_at "fact")
    (case ze1_Refill => walk_at "fact")
    (case ze2_Refill => walk_at "fact")
    (case zt_Refill => walk_at "fact")
    (case za_NO_RULES => walk_at "fact")
    (case zb_all => walk_at "fact")
    (case zb_bool => walk_at "fact")
    (case zb_dict => walk_at "fact")
    (case zb_int => walk_at "fact")
    (case zb_isinstance => walk_at "fact")
    (case zb_len => walk_at "fact")
    (case zb_min => walk_at "fact")
    (case zb_property => walk_at "fact")
    (case zb_range => walk_at "fact")
    (case zb_repr => walk_at "fact")
    (case zb_sorted => walk_at "fact")
    (case zb_str => walk_at "fact")
    (case zb_tuple => walk_at "fact")
    (case zb_super => walk_at "fact")
    (case zc_MOST_INTEGER => walk_at "fact")
    (case zc_MOST_CHARACTERS => walk_at "fact")
    (case zc_MOST_BRAND => walk_at "fact")
    (case zc_BAG => walk_at "fact")
    (case zc_LETTERS => walk_at "fact")
    (case zc_OTHERS => walk_at "fact")
    (case zc_MOST_TAKEN => walk_at "fact")
    (case za_is_integer => walk_at "fact")
    (case zl_is_integer => walk_at "fact")
    (case zd_is_integer => walk_at "fact")
    (case zk_is_integer => walk_at "fact")
    (case za_is_text => walk_at "fact")
    (case zl_is_text => walk_at "fact")
    (case zd_is_text => walk_at "fact")
    (case zk_is_text => walk_at "fact")
    (case za_is_brand => walk_at "fact")
    (case zl_is_brand => walk_at "fact")
    (case zd_is_brand => walk_at "fact")
    (case zk_is_brand => walk_at "fact")
    (case zl_Registry___init__ => walk_at "fact")
    (case zd_Registry___init__ => walk_at "fact")
    (case zk_Registry___init__ => walk_at "fact")
    (case zl_Registry_check_new => walk_at "fact")
    (case zd_Registry_check_new => walk_at "fact")
    (case zk_Registry_check_new => walk_at "fact")
    (case zl_Registry_check_known => walk_at "fact")
    (case zd_Registry_check_known => walk_at "fact")
    (case zk_Registry_check_known => walk_at "fact")
    (case zl_Registry_allow => walk_at "fact")
    (case zd_Registry_allow => walk_at "fact")
    (case zk_Registry_allow => walk_at "fact")
    (case zl_Registry_enter => walk_at "fact")
    (case zd_Registry_enter => walk_at "fact")
    (case zk_Registry_enter => walk_at "fact")
    (case zy_Registry_enter => walk_at "fact")
    (case zl_Registry_forget => walk_at "fact")
    (case zd_Registry_forget => walk_at "fact")
    (case zk_Registry_forget => walk_at "fact")
    (case zl_Registry_takes_of => walk_at "fact")
    (case zd_Registry_takes_of => walk_at "fact")
    (case zk_Registry_takes_of => walk_at "fact")
    (case zl_Registry_brands => walk_at "fact")
    (case zd_Registry_brands => walk_at "fact")
    (case zk_Registry_brands => walk_at "fact")
    (case zl_Registry___contains__ => walk_at "fact")
    (case zd_Registry___contains__ => walk_at "fact")
    (case zk_Registry___contains__ => walk_at "fact")
    (case zl_Registry___len__ => walk_at "fact")
    (case zd_Registry___len__ => walk_at "fact")
    (case zk_Registry___len__ => walk_at "fact")
    (case zl_Registry_twin => walk_at "fact")
    (case zd_Registry_twin => walk_at "fact")
    (case zk_Registry_twin => walk_at "fact")
    (case za_check_labels => walk_at "fact")
    (case zl_check_labels => walk_at "fact")
    (case zd_check_labels => walk_at "fact")
    (case zk_check_labels => walk_at "fact")
    (case zl_Fields___init__ => walk_at "fact")
    (case zd_Fields___init__ => walk_at "fact")
    (case zk_Fields___init__ => walk_at "fact")
    (case za__law_begin => walk_at "fact")
    (case zl__law_begin => walk_at "fact")
    (case zd__law_begin => walk_at "fact")
    (case zk__law_begin => walk_at "fact")
    (case za__law_mixed => walk_at "fact")
    (case zl__law_mixed => walk_at "fact")
    (case zd__law_mixed => walk_at "fact")
    (case zk__law_mixed => walk_at "fact")
    (case za__law_next => walk_at "fact")
    (case zl__law_next => walk_at "fact")
    (case zd__law_next => walk_at "fact")
    (case zk__law_next => walk_at "fact")
    (case za__law_brand => walk_at "fact")
    (case zl__law_brand => walk_at "fact")
    (case zd__law_brand => walk_at "fact")
    (case zk__law_brand => walk_at "fact")
    (case za__law_caught => walk_at "fact")
    (case zl__law_caught => walk_at "fact")
    (case zd__law_caught => walk_at "fact")
    (case zk__law_caught => walk_at "fact")
    (case za__law_entered => walk_at "fact")
    (case zl__law_entered => walk_at "fact")
    (case zd__law_entered => walk_at "fact")
    (case zk__law_entered => walk_at "fact")
    (case za__law_call_right => walk_at "fact")
    (case zl__law_call_right => walk_at "fact")
    (case zd__law_call_right => walk_at "fact")
    (case zk__law_call_right => walk_at "fact")
    (case zt_lc_law_call_right => walk_at "fact")
    (case zt_tab_law_call_right => walk_at "fact")
    (case za__law_read_right => walk_at "fact")
    (case zl__law_read_right => walk_at "fact")
    (case zd__law_read_right => walk_at "fact")
    (case zk__law_read_right => walk_at "fact")
    (case zt_lc_law_read_right => walk_at "fact")
    (case zt_tab_law_read_right => walk_at "fact")
    (case za__law_started => walk_at "fact")
    (case zl__law_started => walk_at "fact")
    (case zd__law_started => walk_at "fact")
    (case zk__law_started => walk_at "fact")
    (case za_law => walk_at "fact")
    (case zl_law => walk_at "fact")
    (case zd_law => walk_at "fact")
    (case zk_law => walk_at "fact")
    (case za_JarError => walk_at "fact")
    (case zt_JarError => walk_at "fact")
    (case zx_JarError => walk_at "fact")
    (case zh_JarError => walk_at "fact")
    (case za_InvalidKey => walk_at "fact")
    (case zt_InvalidKey => walk_at "fact")
    (case zx_InvalidKey => walk_at "fact")
    (case zh_InvalidKey => walk_at "fact")
    (case zi_InvalidKey => walk_at "fact")
    (case zo_InvalidKey => walk_at "fact")
    (case zI_InvalidKey => walk_at "fact")
    (case zf_InvalidKey => walk_at "fact")
    (case zl_InvalidKey => walk_at "fact")
    (case zq_InvalidKey => walk_at "fact")
    (case zs_InvalidKey => walk_at "fact")
    (case zB_InvalidKey => walk_at "fact")
    (case zST_InvalidKey => walk_at "fact")
    (case zA_InvalidKey => walk_at "fact")
    (case zT_InvalidKey_key => walk_at "fact")
    (case zn_InvalidKey_key => walk_at "fact")
    (case zC_InvalidKey => walk_at "fact")
    (case zD_InvalidKey => walk_at "fact")
    (case zE_InvalidKey => walk_at "fact")
    (case zM_InvalidKey => walk_at "fact")
    (case zN_InvalidKey => walk_at "fact")
    (case zP_InvalidKey => walk_at "fact")
    (case zk_InvalidKey => walk_at "fact")
    (case zga_InvalidKey => walk_at "fact")
    (case zgg_InvalidKey => walk_at "fact")
    (case zcc_InvalidKey => walk_at "fact")
    (case zcg_InvalidKey => walk_at "fact")
    (case zct_InvalidKey => walk_at "fact")
    (case zmo_InvalidKey => walk_at "fact")
    (case za_InvalidBrand => walk_at "fact")
    (case zt_InvalidBrand => walk_at "fact")
    (case zx_InvalidBrand => walk_at "fact")
    (case zh_InvalidBrand => walk_at "fact")
    (case zi_InvalidBrand => walk_at "fact")
    (case zo_InvalidBrand => walk_at "fact")
    (case zI_InvalidBrand => walk_at "fact")
    (case zf_InvalidBrand => walk_at "fact")
    (case zl_InvalidBrand => walk_at "fact")
    (case zq_InvalidBrand => walk_at "fact")
    (case zs_InvalidBrand => walk_at "fact")
    (case zB_InvalidBrand => walk_at "fact")
    (case zST_InvalidBrand => walk_at "fact")
    (case zA_InvalidBrand => walk_at "fact")
    (case zT_InvalidBrand_given => walk_at "fact")
    (case zn_InvalidBrand_given => walk_at "fact")
    (case zC_InvalidBrand => walk_at "fact")
    (case zD_InvalidBrand => walk_at "fact")
    (case zE_InvalidBrand => walk_at "fact")
    (case zM_InvalidBrand => walk_at "fact")
    (case zN_InvalidBrand => walk_at "fact")
    (case zP_InvalidBrand => walk_at "fact")
    (case zk_InvalidBrand => walk_at "fact")
    (case zga_InvalidBrand => walk_at "fact")
    (case zgg_InvalidBrand => walk_at "fact")
    (case zcc_InvalidBrand => walk_at "fact")
    (case zcg_InvalidBrand => walk_at "fact")
    (case zct_InvalidBrand => walk_at "fact")
    (case zmo_InvalidBrand => walk_at "fact")
    (case za_InvalidTakes => walk_at "fact")
    (case zt_InvalidTakes => walk_at "fact")
    (case zx_InvalidTakes => walk_at "fact")
    (case zh_InvalidTakes => walk_at "fact")
    (case zi_InvalidTakes => walk_at "fact")
    (case zo_InvalidTakes => walk_at "fact")
    (case zI_InvalidTakes => walk_at "fact")
    (case zf_InvalidTakes => walk_at "fact")
    (case zl_InvalidTakes => walk_at "fact")
    (case zq_InvalidTakes => walk_at "fact")
    (case zs_InvalidTakes => walk_at "fact")
    (case zB_InvalidTakes => walk_at "fact")
    (case zST_InvalidTakes => walk_at "fact")
    (case zA_InvalidTakes => walk_at "fact")
    (case zT_InvalidTakes_value => walk_at "fact")
    (case zn_InvalidTakes_value => walk_at "fact")
    (case zC_InvalidTakes => walk_at "fact")
    (case zD_InvalidTakes => walk_at "fact")
    (case zE_InvalidTakes => walk_at "fact")
    (case zM_InvalidTakes => walk_at "fact")
    (case zN_InvalidTakes => walk_at "fact")
    (case zP_InvalidTakes => walk_at "fact")
    (case zk_InvalidTakes => walk_at "fact")
    (case zga_InvalidTakes => walk_at "fact")
    (case zgg_InvalidTakes => walk_at "fact")
    (case zcc_InvalidTakes => walk_at "fact")
    (case zcg_InvalidTakes => walk_at "fact")
    (case zct_InvalidTakes => walk_at "fact")
    (case zmo_InvalidTakes => walk_at "fact")
    (case za_StateError => walk_at "fact")
    (case zt_StateError => walk_at "fact")
    (case zx_StateError => walk_at "fact")
    (case zh_StateError => walk_at "fact")
    (case za_BrandTaken => walk_at "fact")
    (case zt_BrandTaken => walk_at "fact")
    (case zx_BrandTaken => walk_at "fact")
    (case zh_BrandTaken => walk_at "fact")
    (case zi_BrandTaken => walk_at "fact")
    (case zo_BrandTaken => walk_at "fact")
    (case zI_BrandTaken => walk_at "fact")
    (case zf_BrandTaken => walk_at "fact")
    (case zl_BrandTaken => walk_at "fact")
    (case zq_BrandTaken => walk_at "fact")
    (case zs_BrandTaken => walk_at "fact")
    (case zB_BrandTaken => walk_at "fact")
    (case zST_BrandTaken => walk_at "fact")
    (case zA_BrandTaken => walk_at "fact")
    (case zT_BrandTaken_given => walk_at "fact")
    (case zn_BrandTaken_given => walk_at "fact")
    (case zC_BrandTaken => walk_at "fact")
    (case zD_BrandTaken => walk_at "fact")
    (case zE_BrandTaken => walk_at "fact")
    (case zM_BrandTaken => walk_at "fact")
    (case zN_BrandTaken => walk_at "fact")
    (case zP_BrandTaken => walk_at "fact")
    (case zk_BrandTaken => walk_at "fact")
    (case zga_BrandTaken => walk_at "fact")
    (case zgg_BrandTaken => walk_at "fact")
    (case zcc_BrandTaken => walk_at "fact")
    (case zcg_BrandTaken => walk_at "fact")
    (case zct_BrandTaken => walk_at "fact")
    (case zmo_BrandTaken => walk_at "fact")
    (case za_MissingError => walk_at "fact")
    (case zt_MissingError => walk_at "fact")
    (case zx_MissingError => walk_at "fact")
    (case zh_MissingError => walk_at "fact")
    (case za_UnknownBrand => walk_at "fact")
    (case zt_UnknownBrand => walk_at "fact")
    (case zx_UnknownBrand => walk_at "fact")
    (case zh_UnknownBrand => walk_at "fact")
    (case zi_UnknownBrand => walk_at "fact")
    (case zo_UnknownBrand => walk_at "fact")
    (case zI_UnknownBrand => walk_at "fact")
    (case zf_UnknownBrand => walk_at "fact")
    (case zl_UnknownBrand => walk_at "fact")
    (case zq_UnknownBrand => walk_at "fact")
    (case zs_UnknownBrand => walk_at "fact")
    (case zB_UnknownBrand => walk_at "fact")
    (case zST_UnknownBrand => walk_at "fact")
    (case zA_UnknownBrand => walk_at "fact")
    (case zT_UnknownBrand_given => walk_at "fact")
    (case zn_UnknownBrand_given => walk_at "fact")
    (case zC_UnknownBrand => walk_at "fact")
    (case zD_UnknownBrand => walk_at "fact")
    (case zE_UnknownBrand => walk_at "fact")
    (case zM_UnknownBrand => walk_at "fact")
    (case zN_UnknownBrand => walk_at "fact")
    (case zP_UnknownBrand => walk_at "fact")
    (case zk_UnknownBrand => walk_at "fact")
    (case zga_UnknownBrand => walk_at "fact")
    (case zgg_UnknownBrand => walk_at "fact")
    (case zcc_UnknownBrand => walk_at "fact")
    (case zcg_UnknownBrand => walk_at "fact")
    (case zct_UnknownBrand => walk_at "fact")
    (case zmo_UnknownBrand => walk_at "fact")
    (case zu_InvalidKey_JarError => walk_at "fact")
    (case zv_InvalidKey_JarError => walk_at "fact")
    (case zu_InvalidKey_StateError => walk_at "fact")
    (case zv_InvalidKey_StateError => walk_at "fact")
    (case zu_InvalidKey_MissingError => walk_at "fact")
    (case zv_InvalidKey_MissingError => walk_at "fact")
    (case zu_InvalidBrand_JarError => walk_at "fact")
    (case zv_InvalidBrand_JarError => walk_at "fact")
    (case zu_InvalidBrand_StateError => walk_at "fact")
    (case zv_InvalidBrand_StateError => walk_at "fact")
    (case zu_InvalidBrand_MissingError => walk_at "fact")
    (case zv_InvalidBrand_MissingError => walk_at "fact")
    (case zu_InvalidTakes_JarError => walk_at "fact")
    (case zv_InvalidTakes_JarError => walk_at "fact")
    (case zu_InvalidTakes_StateError => walk_at "fact")
    (case zv_InvalidTakes_StateError => walk_at "fact")
    (case zu_InvalidTakes_MissingError => walk_at "fact")
    (case zv_InvalidTakes_MissingError => walk_at "fact")
    (case zu_BrandTaken_JarError => walk_at "fact")
    (case zv_BrandTaken_JarError => walk_at "fact")
    (case zu_BrandTaken_StateError => walk_at "fact")
    (case zv_BrandTaken_StateError => walk_at "fact")
    (case zu_BrandTaken_MissingError => walk_at "fact")
    (case zv_BrandTaken_MissingError => walk_at "fact")
    (case zu_UnknownBrand_JarError => walk_at "fact")
    (case zv_UnknownBrand_JarError => walk_at "fact")
    (case zu_UnknownBrand_StateError => walk_at "fact")
    (case zv_UnknownBrand_StateError => walk_at "fact")
    (case zu_UnknownBrand_MissingError => walk_at "fact")
    (case zv_UnknownBrand_MissingError => walk_at "fact")
    (case zu_InvalidKey_InvalidKey => walk_at "fact")
    (case zv_InvalidKey_InvalidKey => walk_at "fact")
    (case zu_InvalidKey_InvalidBrand => walk_at "fact")
    (case zv_InvalidKey_InvalidBrand => walk_at "fact")
    (case zu_InvalidKey_InvalidTakes => walk_at "fact")
    (case zv_InvalidKey_InvalidTakes => walk_at "fact")
    (case zu_InvalidKey_BrandTaken => walk_at "fact")
    (case zv_InvalidKey_BrandTaken => walk_at "fact")
    (case zu_InvalidKey_UnknownBrand => walk_at "fact")
    (case zv_InvalidKey_UnknownBrand => walk_at "fact")
    (case zu_InvalidBrand_InvalidKey => walk_at "fact")
    (case zv_InvalidBrand_InvalidKey => walk_at "fact")
    (case zu_InvalidBrand_InvalidBrand => walk_at "fact")
    (case zv_InvalidBrand_InvalidBrand => walk_at "fact")
    (case zu_InvalidBrand_InvalidTakes => walk_at "fact")
    (case zv_InvalidBrand_InvalidTakes => walk_at "fact")
    (case zu_InvalidBrand_BrandTaken => walk_at "fact")
    (case zv_InvalidBrand_BrandTaken => walk_at "fact")
    (case zu_InvalidBrand_UnknownBrand => walk_at "fact")
    (case zv_InvalidBrand_UnknownBrand => walk_at "fact")
    (case zu_InvalidTakes_InvalidKey => walk_at "fact")
    (case zv_InvalidTakes_InvalidKey => walk_at "fact")
    (case zu_InvalidTakes_InvalidBrand => walk_at "fact")
    (case zv_InvalidTakes_InvalidBrand => walk_at "fact")
    (case zu_InvalidTakes_InvalidTakes => walk_at "fact")
    (case zv_InvalidTakes_InvalidTakes => walk_at "fact")
    (case zu_InvalidTakes_BrandTaken => walk_at "fact")
    (case zv_InvalidTakes_BrandTaken => walk_at "fact")
    (case zu_InvalidTakes_UnknownBrand => walk_at "fact")
    (case zv_InvalidTakes_UnknownBrand => walk_at "fact")
    (case zu_BrandTaken_InvalidKey => walk_at "fact")
    (case zv_BrandTaken_InvalidKey => walk_at "fact")
    (case zu_BrandTaken_InvalidBrand => walk_at "fact")
    (case zv_BrandTaken_InvalidBrand => walk_at "fact")
    (case zu_BrandTaken_InvalidTakes => walk_at "fact")
    (case zv_BrandTaken_InvalidTakes => walk_at "fact")
    (case zu_BrandTaken_BrandTaken => walk_at "fact")
    (case zv_BrandTaken_BrandTaken => walk_at "fact")
    (case zu_BrandTaken_UnknownBrand => walk_at "fact")
    (case zv_BrandTaken_UnknownBrand => walk_at "fact")
    (case zu_UnknownBrand_InvalidKey => walk_at "fact")
    (case zv_UnknownBrand_InvalidKey => walk_at "fact")
    (case zu_UnknownBrand_InvalidBrand => walk_at "fact")
    (case zv_UnknownBrand_InvalidBrand => walk_at "fact")
    (case zu_UnknownBrand_InvalidTakes => walk_at "fact")
    (case zv_UnknownBrand_InvalidTakes => walk_at "fact")
    (case zu_UnknownBrand_BrandTaken => walk_at "fact")
    (case zv_UnknownBrand_BrandTaken => walk_at "fact")
    (case zu_UnknownBrand_UnknownBrand => walk_at "fact")
    (case zv_UnknownBrand_UnknownBrand => walk_at "fact")
    (case zz_norules => first | rfl | kernel_rfl | decide +kernel)
    (case zz_tabne => decide)
    (case zz_m0_Whole => walk_at "fact")
    (case zz_i0_Whole => walk_at "fact")
    (case zz_m0_Refill => walk_at "fact")
    (case zz_i0_Refill => walk_at "fact"))
    (case q0 => first | rfl | kernel_rfl)
    (case q1 => first | rfl | kernel_rfl)
    (case q2 => decide +kernel)
    (case q3 => first | rfl | kernel_rfl)
    (case q4 => first | rfl | kernel_rfl)
    (case q5 => decide +kernel)
set_option maxHeartbeats 0 in
theorem PySem.Challenge.cw_brinejar_k09_registries_holds : PySem.Challenge.rw_brinejar_k09_registries.Holds := by
  w_on; o_law
  refine BJ.head_km (r := OpenLaw.row PySem.Challenge.rw_brinejar_k09_registries) (q := BJL.q0) (loose := BJL.names0s) (K := BJL.mk0.heap_39) (as := BJL.as0) (M := 12000) (kwd := []) BJL.as0_eq (by kernel_rfl) (fun s => by kernel_rfl) BJL.run1 BJL.run2 BJL.run3 BJL.run4 (by rfl) (by rfl) (by rfl) (by rfl) (by first | assumption | decide +kernel) (by decide +kernel) ⟨rfl, rfl, rfl, rfl, rfl, by decide +kernel⟩ ?hw ?hc
  case hw => w_witness2
  case hc =>
  refine BJ.walkGT (l := PySem.Challenge.rw_brinejar_k09_registries) (n := 63) (k := 30) rfl (by decide) rfl ⟨rfl, by decide, by decide⟩ (fun w h Y => PySem.W.km_in_of Y) ?F
  case F =>
    intro w mg fa h Y KX G hmg
    obtain ⟨a, T, c0, l0, m0, c1, l1, m1⟩ := BJL.facts0 w mg h KX G
    exact BJL.law_end a T KX hmg c0 l0 (PySem.W.km_tabs_of Y _ m0) c1 l1 (PySem.W.km_tabs_of Y _ m1)

