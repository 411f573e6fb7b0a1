import PyProof.Rows.All
import Wide.All
import OpenK.AllK
import Wide.FinOn
import HandS.ForMost
import HandS.Exc
import HandS.ExcOwn
import KE.KExcSuper
import HandS.ExcInit
import KE.KTryMore
import KE.KExcHand
import HandS.TryOnly
import KE.KExcIs
import HandS.IsInst
import PyProof.ReprRoads
import PyProof.CallFns
import HandS.TupMul
import KE.GoesMore
import KE.GoesEnum
import HandS.AnyAll
import HandS.EndBits
import HandS.Evl
import HandS.Walk
import HandS.Zip
import PyProof.ReprBulk
import HandS.Replace
import HandS.ExcValue
import HandS.SetFor
import HandS.Style
import HandS.Lambda
import HandS.EndTab
import HandS.WordsExc
import HandS.WrittenGet
import HandS.ReplaceLit
import HandS.ReplaceDef
import HandS.Conv
import HandS.Star
import HandS.ClsMeth
import HandS.Property
import HandS.Defaults
import HandS.MethStar
import HandS.GenList
import HandS.GenYield
import HandS.OwnEq
import HandS.SortInts
import HandS.TupAny
import HandS.DictComp
import HandS.DeepEq
import HandS.GenCall
import HandS.ListItems
import HandS.Head2
import KE.OsRunLaw
import PySem.Challenge.RW_brinejar_k14_ready_hooks
set_option Elab.async false
set_option linter.all false
set_option maxRecDepth 100000
set_option maxHeartbeats 4000000
/-! calls whose Around has no guards (no repr is running): promises, the rule for a def, the rules for calls -/
namespace BJ
open PySem PySem.Spec PyProof.Rows L2

/-- the promise of a def, for callers that no repr surrounds -/
structure FnG (P : Program) (w : World) (K : PySem.W.Frag) (mg : Str → Option Value) (base : Heap)
    (k : Nat) (f : Addr) (fd : FuncData) (ps : List Str) (sp : Sp) : Prop where
  len : ∀ vs H Q E, sp vs H Q E → vs.length = ps.length
  run : ∀ (A : Around) (outer : List Env) (s : Shared) (H : Hp) (args : Args) (us : List Value) (vs : List V) (Q : VK) (E : XK),
    Room k A → A.guards = some [] → Env0 P w K mg base A outer s H → BindsTo s fd args (ps.zip us) → Vals vs us →
    sp vs H Q E → codeAny (model P w) A (.call (.ref f) args) (CR (L2.CX P w) outer P w H s Q E) s

section
variable {P : Program} {w : World} {K : PySem.W.Frag} {mg : Str → Option Value} {base : Heap}
theorem FnG.mono {j k : Nat} {f : Addr} {fd : FuncData} {ps : List Str} {sp : Sp}
    (F : FnG P w K mg base j f fd ps sp) (h : j ≤ k) : FnG P w K mg base k f fd ps sp :=
  ⟨F.len, fun A o s H a us vs Q E hr => F.run A o s H a us vs Q E (hr.mono h)⟩

/-- the rule for a def -/
theorem fnG_of {k : Nat} {f : Addr} {name qual : Str} {params : Arguments} {body : List Stmt} {scope : Scope}
    {dV kV doc pm cdv ct oc : Value} {an od : Option Addr} {osl : Array (Option Value)} {N ps : List Str} {sp : Sp}
    (lk : K.lookup f = some ⟨oc, od, .func (PySem.W.fnOf name qual params body scope dV kV doc pm an cdv ct), osl⟩)
    (hcd : PySem.W.codeIn K cdv qual = true) (S : FnScope N ps scope)
    (len : ∀ vs H Q E, sp vs H Q E → vs.length = ps.length)
    (hbody : ∀ (A : Around) (outer : List Env) (s : Shared) (H : Hp) (vs : List V) (Q : VK) (E : XK),
      Room k (A.deeper (envOfC qual scope s.heap.objs.size f cdv)) → A.guards = some [] → sp vs H Q E →
      ∃ t, PSs (cxOf (L2.CX P w) P w K mg base N qual scope f cdv A outer s H E) body t ∧
        t { nx := fun _ H' => Q .non H', rt := Q } (start N vs) H) :
    FnG P w K mg base (k + 1) f (PySem.W.fnOf name qual params body scope dV kV doc pm an cdv ct) ps sp where
  len := len
  run := by
    intro A outer s H args us vs Q E room hg e0 bnd rel prom
    have KX : K.In s.heap := e0.mod.kin.keeps fun b o e => (e0.bs b o e).1
    have nl : s.heap.NoLimit := e0.mod.nolimit.keeps fun b o e => (e0.bs b o e).1
    have kinds : ∀ y ∈ ps.zip us, scope.names.lookup y.1 = some .local ∨
        (scope.names.lookup y.1 = some .cell ∧ ((cellsFrom (s.heap.objs.size + 1) scope.names []).lookup y.1).isSome = true) := by
      rintro ⟨n, v⟩ hy
      rcases S.par n (List.of_mem_zip hy).1 with q | q
      · exact .inl q
      · exact .inr ⟨q, PySem.W.cellsFrom_some _ _ _ (.inl q)⟩
    refine codeAny_call_function room.depth (KX _ _ lk) rfl S.co S.gen rfl (PySem.W.codeRec_of KX hcd) (bnd _ _ _ _ ?_)
    refine wpAny_newFunctionEnv_cells S.kind kinds fun env he s1 x => ?_
    subst he
    obtain ⟨t, ht, hq⟩ := hbody A outer s H vs Q E (room.deeper _) hg prom
    have I := inv_start (CX := L2.CX P w) (E := E) (cd := cdv) (f := f) (qual := qual) S room.hd e0 (len _ _ _ _ prom) rel x
    refine ⟨nl.keeps x.toInCall.keep, codeAny_func (wpAny_mono (ht.run [] s1 _ H _ I hq) (fun fl s' hs => ?_) fun e s' hs => hs)⟩
    match fl, hs with
    | .ret u, ⟨v, σ', H', J, rv, q⟩ => exact ⟨v, H', J.os, J.bare, J.base, J.hok, rv, q⟩
    | .next, ⟨σ', H', J, q⟩ => exact ⟨V.non, H', J.os, J.bare, J.base, J.hok, rfl, q⟩
    | .brk, ⟨_, _, _, q⟩ => exact q.elim
    | .cont, ⟨_, _, _, q⟩ => exact q.elim
end

/-- a value that may be called with positional values and the keywords ks: u (a def, a class) -/
def CallG (P : Program) (w : World) (K : PySem.W.Frag) (mg : Str → Option Value) (base : Heap) (k : Nat) (u : Value)
    (ks : List Str) (sp : List V → List V → Hp → VK → XK → Prop) : Prop :=
  ∀ (A : Around) (outer : List Env) (s : Shared) (H : Hp) (us ws : List Value) (vs zs : List V) (Q : VK) (E : XK),
    Room k A → A.guards = some [] → Env0 P w K mg base A outer s H → Vals vs us → Vals zs ws → sp vs zs H Q E →
    codeAny (model P w) A (.call u ⟨us, ks.zip ws⟩) (CR (L2.CX P w) outer P w H s Q E) s
/-- .. no keywords -/
abbrev CallP (P : Program) (w : World) (K : PySem.W.Frag) (mg : Str → Option Value) (base : Heap) (k : Nat) (u : Value) (sp : Sp) : Prop :=
  CallG P w K mg base k u [] fun vs zs H Q E => zs = [] ∧ sp vs H Q E

section
variable {P : Program} {w : World} {K : PySem.W.Frag} {mg : Str → Option Value} {base : Heap}
theorem CallG.mono {j k : Nat} {u : Value} {ks : List Str} {sp : List V → List V → Hp → VK → XK → Prop}
    (F : CallG P w K mg base j u ks sp) (h : j ≤ k) : CallG P w K mg base k u ks sp :=
  fun A o s H us ws vs zs Q E hr => F A o s H us ws vs zs Q E (hr.mono h)
/-- a def, positional values (the defaults ds behind them) -/
theorem FnG.callP {k : Nat} {f : Addr} {fd : FuncData} {ps : List Str} {sp : Sp} {ds : List Value} {dvs : List V}
    (F : FnG P w K mg base k f fd ps sp) (hb : Binds K fd ps ds) (hd : Vals dvs ds) :
    CallP P w K mg base k (.ref f) fun vs H Q E => sp (vs ++ dvs) H Q E := by
  rintro A outer s H us ws vs zs Q E room hg e0 rel relz ⟨rfl, prom⟩
  cases relz
  have r2 : Vals (vs ++ dvs) (us ++ ds) := rel.append hd
  have hl : (us ++ ds).length = ps.length := r2.length.symm.trans (F.len _ _ _ _ prom)
  have KX : K.In s.heap := e0.mod.kin.keeps fun b o e => (e0.bs b o e).1
  exact F.run A outer s H ⟨us, []⟩ (us ++ ds) (vs ++ dvs) Q E room hg e0 (hb s us KX hl) r2 prom
/-- .. with keywords -/
theorem FnG.callK {k : Nat} {f : Addr} {fd : FuncData} {ps ks : List Str} {sp : Sp}
    {g : List Value → List Value → List Value} {gV : List V → List V → List V} (F : FnG P w K mg base k f fd ps sp)
    (hb : KBinds K fd ps ks g gV) : CallG P w K mg base k (.ref f) ks fun vs zs H Q E => sp (gV vs zs) H Q E := by
  intro A outer s H us ws vs zs Q E room hg e0 rel relz prom
  have r2 := hb.rel rel relz
  have hl : (g us ws).length = ps.length := r2.length.symm.trans (F.len _ _ _ _ prom)
  have KX : K.In s.heap := e0.mod.kin.keeps fun b o e => (e0.bs b o e).1
  exact F.run A outer s H ⟨us, ks.zip ws⟩ (g us ws) (gV vs zs) Q E room hg e0 (hb.to s us ws KX hl) r2 prom
end

/-! ### the rules -/
section
variable {X : Cx} {k : Nat} {u : Value} {ks : List Str} {sp : Sp} {spk : List V → List V → Hp → VK → XK → Prop} {W : WX}
  {x m : Str} {p pos apos : Pos} {e o : Expr} {es : List Expr} {kws : List Keyword} {ta : TE} {t tk : TA}
/-- nothing that is raised is taken -/
theorem tkN : Takes X (fun _ _ _ _ => False) := fun _ _ ⟨_, _, _, _, _, _, _, _, _, _, _, _, _, _, _, _, q⟩ => q.elim

theorem run_callG {pins : List (Addr × Obj)} {σ : L2.St} {H : Hp} {s : Shared} {Q : VK} {us ws : List Value} {vs zs : List V}
    (F : CallG X.prog X.w X.K X.mg X.base k u ks spk) (hr : Room k X.A) (hG : X.A.guards = some []) (tkW : Takes X W)
    (I : Inv X pins σ H s) (r : Vals vs us) (rz : Vals zs ws) (h : spk vs zs H Q fun cls d H' => W cls d σ H') :
    wpAny (model X.prog X.w) X.A (call u us (ks.zip ws)) (EP X pins σ Q) X.xe s := by
  refine wpAny_call (codeAny_mono (F X.A X.stack s H us ws vs zs Q _ hr hG I.env0 r rz h) ?_)
  intro res s' hq
  match res, hq with
  | .error e, hq => exact tkW e s' (XE.of_call I (fun _ _ _ z => z) hq)
  | .ok (.ret u), hq => exact I.after hq

/-- f(e, ..) -/
def tCa (sp : Sp) (W : WX) (t : TA) : TE := fun σ H Q => t σ H fun vs H1 => sp vs H1 Q fun cls d H' => W cls d σ H'
theorem pe_ca (F : CallP X.prog X.w X.K X.mg X.base k u sp) (hr : Room k X.A) (hG : X.A.guards = some []) (hg : Gl X x) (hm : X.mg x = some u)
    (hk : PySem.W.keepIn X.K u = true) (tkW : Takes X W) (ha : PA X (e :: es) t) (hdb : (x == ("__debug__" : Str)) = false := by decide)
    (he : starEach (e :: es) X.env = (false, eval e X.env) :: starEach es X.env := by rfl)
    (hpl : (backTo pos (starEach es X.env)).any (·.1) = false := by rfl) : PE X (.Call (.Name x p) (e :: es) [] pos) (tCa sp W t) where
  run := by
    intro pins s σ H Q I h
    refine wpAny_Call_Name_kw (ld_glob I hg hm ?_ hdb)
    refine PySem.W.callWith_K (h₀ := X.base) I.ok.mod.kin hk (thn (ha.run pos pins s σ H _ I h) ?_) he hpl
    rintro us s1 ⟨vs, H1, I1, r, q⟩
    exact ⟨I1.kIn, run_callG (ws := []) (zs := []) F hr hG tkW I1 r .nil ⟨rfl, q⟩⟩
theorem pe_ca0 (F : CallP X.prog X.w X.K X.mg X.base k u sp) (hr : Room k X.A) (hG : X.A.guards = some []) (hg : Gl X x) (hm : X.mg x = some u)
    (hk : PySem.W.keepIn X.K u = true) (tkW : Takes X W) (hdb : (x == ("__debug__" : Str)) = false := by decide) :
    PE X (.Call (.Name x p) [] [] pos) (tCa sp W tNil) where
  run := by
    intro pins s σ H Q I h
    refine wpAny_Call_Name_kw (ld_glob I hg hm ?_ hdb)
    exact PySem.W.callWith_K0 I.kIn hk (run_callG (us := []) (vs := []) (ws := []) (zs := []) F hr hG tkW I .nil .nil ⟨rfl, h⟩)
/-- f(e, .., k = v, ..) -/
def tCaK (sp : List V → List V → Hp → VK → XK → Prop) (W : WX) (t tk : TA) : TE := fun σ H Q =>
  t σ H fun vs H1 => tk σ H1 fun zs H2 => sp vs zs H2 Q fun cls d H' => W cls d σ H'
theorem pe_caK (F : CallG X.prog X.w X.K X.mg X.base k u ks spk) (hr : Room k X.A) (hG : X.A.guards = some []) (hg : Gl X x) (hm : X.mg x = some u)
    (hk : PySem.W.keepIn X.K u = true) (tkW : Takes X W) (ha : PA X (e :: es) t) (hkw : PK X kws tk)
    (hall : (backToKw pos (keywordEach kws X.env)).all (·.1.isSome) = true := by rfl) (hks : (backToKw pos (keywordEach kws X.env)).filterMap (·.1) = ks := by rfl)
    (hdb : (x == ("__debug__" : Str)) = false := by decide) (he : starEach (e :: es) X.env = (false, eval e X.env) :: starEach es X.env := by rfl)
    (hpl : ((backTo pos (starEach (e :: es) X.env)).any (·.1) || (backToKw pos (keywordEach kws X.env)).any (·.1.isNone)) = false := by rfl) :
    PE X (.Call (.Name x p) (e :: es) kws pos) (tCaK spk W t tk) where
  run := by
    intro pins s σ H Q I h
    refine wpAny_Call_Name_kw (ld_glob I hg hm ?_ hdb)
    refine PySem.W.callWith_KW (h₀ := X.base) I.ok.mod.kin hk hall (thn (ha.run pos pins s σ H _ I h) ?_) hpl he
    rintro us s1 ⟨vs, H1, I1, r, q⟩
    refine thn (hkw.run pos pins s1 σ H1 _ I1 q) ?_
    rintro ws s2 ⟨zs, H2, I2, rz, q2⟩
    rw [hks]
    exact ⟨I2.kIn, run_callG F hr hG tkW I2 r rz q2⟩
/-- f(k = v, ..) -/
theorem pe_caK0 (F : CallG X.prog X.w X.K X.mg X.base k u ks spk) (hr : Room k X.A) (hG : X.A.guards = some []) (hg : Gl X x) (hm : X.mg x = some u)
    (hk : PySem.W.keepIn X.K u = true) (tkW : Takes X W) (hkw : PK X kws tk)
    (hall : (backToKw pos (keywordEach kws X.env)).all (·.1.isSome) = true := by rfl) (hks : (backToKw pos (keywordEach kws X.env)).filterMap (·.1) = ks := by rfl)
    (hdb : (x == ("__debug__" : Str)) = false := by decide)
    (hpl : ((backTo pos (starEach [] X.env)).any (·.1) || (backToKw pos (keywordEach kws X.env)).any (·.1.isNone)) = false := by rfl) :
    PE X (.Call (.Name x p) [] kws pos) (tCaK spk W tNil tk) where
  run := by
    intro pins s σ H Q I h
    refine wpAny_Call_Name_kw (ld_glob I hg hm ?_ hdb)
    refine PySem.W.callWith_KW0 (h₀ := X.base) I.ok.mod.kin hk hall (thn (hkw.run pos pins s σ H _ I h) ?_) hpl
    rintro ws s2 ⟨zs, H2, I2, rz, q2⟩
    rw [hks]
    exact ⟨I2.kIn, run_callG (us := []) (vs := []) F hr hG tkW I2 .nil rz q2⟩
end
end BJ

/-! own exception classes over a family over a built-in class; __init__(self, f, ..): super().__init__(text); self.f = f; .. -/
namespace BJ
open PySem PySem.Spec PyProof.Rows L2 Builtin Builtin.ObjectAttr
open PySem.W (Looks Frag findIn subIn nsIn typeIn keepIn codeIn hasDictIn clsIn takerIn excInitIn excOver excObj KxsFacts ksFn ksEnv ks_superIn isFn looks_findIn looks_clsIn InstAt kxs_mw)

/-- the built-in class at the end -/
structure Fam (B initId newId : String) (bm : List Value) : Prop where
  FB : ExcBaseFacts B newId initId bm
  SF : StoreFacts B bm "object.__setattr__" "object"
  KF : KxsFacts B initId
theorem famV : Fam "ValueError" "ValueError.__init__" "ValueError.__new__" [.type "ValueError", .type "Exception", .type "BaseException", .type "object"] := ⟨F.excBase_ValueError, F.store_ValueError, PySem.W.kxs_ValueError⟩
theorem famR : Fam "RuntimeError" "RuntimeError.__init__" "RuntimeError.__new__" [.type "RuntimeError", .type "Exception", .type "BaseException", .type "object"] :=
  ⟨F.excBase_RuntimeError, F.store_RuntimeError, PySem.W.kxs_RuntimeError⟩
theorem famL : Fam "LookupError" "LookupError.__init__" "LookupError.__new__" [.type "LookupError", .type "Exception", .type "BaseException", .type "object"] :=
  ⟨F.excBase_LookupError, F.store_LookupError, PySem.W.kxs_LookupError⟩

section
variable {prog : Program} {w : World} {M : Model} {A : Around} {E : Value → Shared → Prop} {R : Result → Shared → Prop} {hp : Heap} {g : Array GenState} {d : Drawn} {t : Nat} {os : OsState}
  {B initId newId : String} {bm : List Value} {K : Frag} {C x : Addr} {name : Str} {v : Value}
/-- the first field of a fresh exception: its dict is made -/
theorem errset_new {t0 : Addr} {Q : Unit → Shared → Prop} (FA : Fam B initId newId bm) (X : K.In hp) (hx : hp.get? x = some (excObj C t0 none .none))
    (ov : excOver K C bm = true) (hd : hasDictIn K C = true) (tk : takerIn K C name = some none)
    (sa : findIn K (.ref C) "__setattr__" = some (some (.builtin "object.__setattr__")))
    (hq : ∀ h' tk' dx, (∀ b o, b ≠ x → hp.get? b = some o → h'.get? b = some o) → hp.objs.size ≤ dx → dx ≠ x →
      h'.get? x = some (excObj C t0 (some dx) .none) → h'.Ns1 dx (fun y => if y = name then some v else none) → Q () ⟨h', g, d, tk', os⟩) :
    wpAny (model prog w) A (setAttr (.ref x) name v) Q E ⟨hp, g, d, t, os⟩ := by
  have I : InstAt hp x (excObj C t0 none .none) C none := ⟨hx, rfl, rfl, trivial⟩
  have hxs : x ≠ hp.objs.size := Nat.ne_of_lt (Heap.lt_size hx)
  obtain ⟨cd, hcd, hh⟩ : ∃ cd, clsIn K C = some cd ∧ cd.hasDict = true := by
    have z : (clsIn K C).any (·.hasDict) = true := hd
    cases e : clsIn K C with
    | none => rw [e] at z; cases z
    | some cd => rw [e] at z; exact ⟨cd, rfl, z⟩
  have hcls : Looks (model prog w) hp (classData C) cd := looks_clsIn X hcd
  obtain ⟨nm, bs, mro, ns, qn, hdd, sn, sb, ab, col, del⟩ := cd
  dsimp only at hh
  subst hh
  refine PySem.W.set_plain X I sa (PySem.W.osa_openX FA.SF X I ov tk fun b => ?_)
  show wpAny _ _ (storeInOwnDict (.ref x) (.ref C) (.str name t) name v b) _ _ _
  unfold storeInOwnDict ownDictForStores
  repeat (first
    | with_reducible refine HandSPX.store_in_new ?_ ?_
    | with_reducible refine wpAny_loadPart_at hx ?_
    | with_reducible refine hcls.at ?_
    | wp_step)
  · exact ⟨_, #[], _, (Heap.get?_update_ne _ _ _ _ hxs.symm).trans (Heap.get?_push_at rfl rfl), rfl, fun e he => absurd he (by simp), fun _ => rfl⟩
  · intro h' tk' hn' hs
    have hx₁ : (hp.push { cls := .type "dict", data := .dict #[] }).get? x = some (excObj C t0 none .none) := Heap.get?_push_of_some _ hx
    refine hq h' tk' hp.objs.size (fun b o hb ho => ?_) (Nat.le_refl _) hxs.symm ?_ hn'
    · exact (hs.2 b (Nat.ne_of_lt (Heap.lt_size ho))).trans ((Heap.get?_update_ne _ _ _ _ hb).trans (Heap.get?_push_of_some _ ho))
    · exact (hs.2 x hxs).trans (Heap.get?_update_self _ hx₁ rfl)
/-- a further field -/
theorem errset_old {t0 dx : Addr} {m0 : Str → Option Value} {nl : List Str} {Q : Unit → Shared → Prop} (FA : Fam B initId newId bm) (X : K.In hp)
    (hx : hp.get? x = some (excObj C t0 (some dx) .none)) (hns : hp.Ns1 dx m0) (hw : Within m0 nl) (hz : nl.length ≤ 1000)
    (ov : excOver K C bm = true) (hd : hasDictIn K C = true) (tk : takerIn K C name = some none)
    (sa : findIn K (.ref C) "__setattr__" = some (some (.builtin "object.__setattr__")))
    (hq : ∀ h' tk', (∀ b o, b ≠ dx → hp.get? b = some o → h'.get? b = some o) → h'.Ns1 dx (fun y => if y = name then some v else m0 y) → Q () ⟨h', g, d, tk', os⟩) :
    wpAny (model prog w) A (setAttr (.ref x) name v) Q E ⟨hp, g, d, t, os⟩ := by
  obtain ⟨oD, esD, epD, hoD, hdD, _⟩ := hns.count hw
  have I : InstAt hp x (excObj C t0 (some dx) .none) C (some oD) := ⟨hx, rfl, rfl, hoD⟩
  obtain ⟨cd, hcd, hh⟩ : ∃ cd, clsIn K C = some cd ∧ cd.hasDict = true := by
    have z : (clsIn K C).any (·.hasDict) = true := hd
    cases e : clsIn K C with
    | none => rw [e] at z; cases z
    | some cd => rw [e] at z; exact ⟨cd, rfl, z⟩
  have hcls : Looks (model prog w) hp (classData C) cd := looks_clsIn X hcd
  obtain ⟨nm, bs, mro, ns, qn, hdd, sn, sb, ab, col, del⟩ := cd
  dsimp only at hh
  subst hh
  refine PySem.W.set_plain X I sa (PySem.W.osa_openX FA.SF X I ov tk fun b => ?_)
  show wpAny _ _ (storeInOwnDict (.ref x) (.ref C) (.str name t) name v b) _ _ _
  unfold storeInOwnDict ownDictForStores
  repeat (first
    | with_reducible refine OEX.store_in_old hns hw hz ?_
    | with_reducible refine wpAny_loadPart_at hx ?_
    | with_reducible refine hcls.at ?_
    | wp_step)
  intro h' tk' hn' hs
  exact hq h' tk' (fun b o hb ho => (hs.2 b hb).trans ho) hn'

/-- super().__init__(text) in an own exception's __init__, called: the bound wrapper is called -/
theorem errcall {u e t0 : Addr} {rest : List Value} {Q : Value → Shared → Prop} (FA : Fam B initId newId bm) (X : K.In hp) (q : excInitIn K C bm newId = true)
    (he : hp.get? e = some (excObj C t0 none .none)) (hu : hp.get? u = some (kxs_mw initId e)) (hz : rest.length ≤ sizeLine)
    (hq : ∀ h' t1, (∀ b o, b ≠ e → hp.get? b = some o → h'.get? b = some o) → h'.get? e = some (excObj C t1 none .none) → Q .none ⟨h', g, d, t, os⟩) :
    wpAny (model prog w) A (call (.ref u) rest) Q E ⟨hp, g, d, t, os⟩ := by
  obtain ⟨nm, N', qn, bs, bm', hdct, sn, sub, ab, col, dd, k0, k1, k2, k3, k5, hC, hT⟩ := PySem.W.excInit_of X q
  refine wpAny_call (codeAny_of_tree ?_)
  show wpAny _ A.in1 (callAny (.ref u) ⟨rest, []⟩) _ _ _
  simp only [callAny]
  refine wpAny_bind (wpAny_load hu ?_)
  simp only [kxs_mw, show (Value.type "method-wrapper" == Value.type "method" || Value.type "method-wrapper" == Value.type "builtin_function_or_method" ||
    Value.type "method-wrapper" == Value.type "method-wrapper") = true by decide, if_true]
  refine PySem.W.KFB.if_so (by decide) (wpAny_bind (PySem.W.check_bound_init FA.FB.toExcCallFacts hC he rfl ?_))
  refine wpAny_bind (wpAny_pure (wpAny_pure ⟨plainId_quiet FA.FB.init.plain _, codeAny_builtin FA.FB.initEntry ?_⟩))
  exact PySem.W.exc_init_tree (cls := .ref C) (t0 := t0) (dv := none) (c2 := .none) (c3 := .none) (b4 := .bool false) he hz fun h' k e' _ => hq h' _ k e'
end
end BJ

/-! the run of such an __init__; the class called -/
namespace BJ
open PySem PySem.Spec PyProof.Rows L2 Builtin Builtin.ObjectAttr
open PySem.W (Looks Frag findIn subIn nsIn typeIn keepIn codeIn hasDictIn clsIn takerIn excInitIn excOver excObj KxsFacts ksFn ksEnv ks_superIn isFn looks_findIn looks_clsIn InstAt kxs_mw)

/-! ### the text -/
def eiA (fs : List (Str × Pos)) (p : Pos) : Arguments :=
  { posonlyargs := [], args := { arg := "self", annotation := none, pos := p } :: fs.map fun f => { arg := f.1, annotation := none, pos := f.2 },
    vararg := none, kwonlyargs := [], kw_defaults := [], kwarg := none, defaults := [] }
def eiSup (t : Str) (p0 p1 p2 p3 p4 : Pos) : Stmt :=
  .Expr (.Call (.Attribute (.Call (.Name "super" p0) [] [] p1) "__init__" p2) [.Constant (.str t) 0 p3] [] p4) p4
def eiSet (f : Str) (q1 q2 q3 q4 : Pos) : Stmt := .Assign [.Attribute (.Name "self" q1) f q2] (.Name f q3) q4
def eiS (fs : List Str) : Scope := { kind := .function, names := (("self" : Str), NameKind.local) :: (fs.map (fun f => (f, NameKind.local)) ++ [(("__class__" : Str), NameKind.free), (("super" : Str), NameKind.globalImplicit)]), isGenerator := false, isCoroutine := false, more := [] }

/-- what the written part says of the class at C, its __init__ at fI, the class cell at cc, the code object at cda -/
structure ErrK (prog : Program) (K : Frag) (mg : Str → Option Value) (C fI cc cda : Addr) (B initId newId : String) (bm : List Value) (x : Str) (fs : List Str) : Prop where
  fam : Fam B initId newId bm
  gC : mg x = some (.ref C)
  ini : excInitIn K C bm newId = true
  ov : excOver K C bm = true
  hd : hasDictIn K C = true
  iC : findIn K (.ref C) "__init__" = some (some (.ref fI))
  isf : isFn K (.ref fI) = true
  sup : ks_superIn K C C "__init__" = some (some (.builtin initId))
  subB : subIn K (.ref C) (.type B) = some true
  stat : nsIn K PySem.cStatics "thirdparty.any" = some none
  super : mg "super" = none
  sa : findIn K (.ref C) "__setattr__" = some (some (.builtin "object.__setattr__"))
  tk : ∀ f ∈ fs, takerIn K C f = some none
  cell : ∃ cl cld csl, K.lookup cc = some ⟨cl, cld, .cell (some (.ref C)), csl⟩
  code : ∃ ccl cdd vs ccs tf, K.lookup cda = some ⟨ccl, cdd, .fields vs, ccs⟩ ∧ vs[2]? = some (.str prog.main.file tf)
  mro : PySem.W.mroIn K C (.ref C) = some true
  cls : ∃ cd, clsIn K C = some cd
  top : (prog.main.scope.names.lookup ("super" : Str)).isSome = false

section
variable {prog : Program} {w : World} {A : Around} {E : Value → Shared → Prop} {R : Result → Shared → Prop} {s : Shared} {K : Frag} {mg : Str → Option Value} {base : Heap}
  {B initId newId : String} {bm : List Value} {C fI cc cda x : Addr} {cn qual t : Str} {fs : List Str}

theorem eval_sup {o : Expr} {name : Str} {p2 p4 p3 : Pos} {env : Env} (hl : (p2.endLine == p4.line) = true) : eval (.Call (.Attribute o name p2) [.Constant (.str t) 0 p3] [] p4) env = (do
      let ov ← attributeBase o name env (eval o env)
      standAt p2.atName
      let (f, first) ← holding [ov] (getMethod ov name (do return (← importBound o env).getD true))
      callWith p4 f first (backTo p4 (starEach [.Constant (.str t) 0 p3] env)) []) := by
  show (do
    let ov ← attributeBase o name env (eval o env)
    standAt p2.atName
    methodCall o name p2 p4 env ov 1 (backTo p4 (starEach [.Constant (.str t) 0 p3] env)) []) = _
  have e : ∀ ov, methodCall o name p2 p4 env ov 1 (backTo p4 (starEach [.Constant (.str t) 0 p3] env)) [] = (do
      let (f, first) ← holding [ov] (getMethod ov name (do return (← importBound o env).getD true))
      callWith p4 f first (backTo p4 (starEach [.Constant (.str t) 0 p3] env)) []) := fun ov => by
    unfold methodCall methodCallPos
    rw [hl, Bool.or_true, if_pos rfl]
    rfl
  simp only [e]
/-- the first statement -/
theorem err_sup (T : ErrK prog K mg C fI cc cda B initId newId bm cn fs) (M0 : Mod K mg base) {scope : Scope} {body : List Stmt} {L : Addr} {m : Str → Option Value} {oI : Obj} {fd : FuncData} {ar : Arg}
    (kb : ∀ b o, base.get? b = some o → s.heap.get? b = some o) {t0 : Addr} (hx : s.heap.get? x = some (excObj C t0 none .none)) (hns : s.heap.Ns L m) (hm : m "self" = some (.ref x)) (xL : L ≠ x)
    (lk : K.lookup fI = some oI) (hfd : oI.data = .func fd) (hp : (fd.params.posonlyargs ++ fd.params.args).head? = some ar) (har : ar.arg = "self")
    (hk : scope.kind = .function) (hka : scope.names.lookup ("self" : Str) = some .local) (hkc : scope.names.lookup ("__class__" : Str) = some .free) (hks : scope.names.lookup ("super" : Str) = some .globalImplicit)
    {p0 p1 p2 p3 p4 : Pos} {Q : Flow → Shared → Prop} (hl : (p2.endLine == p4.line) = true)
    (hq : ∀ h' tk' t1, (∀ b o, b ≠ x → s.heap.get? b = some o → h'.get? b = some o) → h'.get? x = some (excObj C t1 none .none) → h'.Ns L m → Q .next { s with heap := h', toks := tk' }) :
    _root_.PySem.wpAt (model prog w) A (.func body (ksEnv qual scope L fI (.ref cda) cc)) (exec (eiSup t p0 p1 p2 p3 p4) (ksEnv qual scope L fI (.ref cda) cc)) Q E s := by
  have X : K.In s.heap := M0.kin.keeps kb
  obtain ⟨ccl, cdd, vs, ccs, tf, hcode, hvs⟩ := T.code
  obtain ⟨cl, cld, csl, hcell⟩ := T.cell
  obtain ⟨cd, hcd⟩ := T.cls
  obtain ⟨mb, hb1, hb2⟩ := M0.blt
  obtain ⟨oD, hD1, hD2⟩ : ∃ oD, s.heap.get? C = some oD ∧ oD.data = .cls cd := by
    have hcd' := hcd
    unfold PySem.W.clsIn at hcd'
    split at hcd'
    · rename_i c d cd' sl ho
      cases hcd'
      exact ⟨_, X _ _ ho, rfl⟩
    · cases hcd'
  have I : InstAt s.heap x (excObj C t0 none .none) C none := ⟨hx, rfl, rfl, trivial⟩
  obtain ⟨hh, g, d, tk, os⟩ := s
  refine ks_wpAt_Expr_any (ks_wpAt_MethodCall (ks_wpAt_super_base (of := oI) (fd := fd) (ar := ar) (vs := vs) (file := prog.main.file) (tf := tf) hks hkc (by decide) rfl (X _ _ lk) hfd hp rfl (X _ _ hcode) rfl hvs (by simp) T.top ?_) (eval_sup hl)) (by simp [interactive, hk])
  refine PySem.W.ks_loadName_global hk hks (Calls.loadGlobal_builtin (M0.glob.keeps kb) T.super (hb1.keeps kb) ((hb2 _ (by decide)).trans (show bootBuiltins "super" = some (.type "super") by decide +kernel)) ⟨rfl, ?_⟩)
  refine wpAny_loadName_free hk hkc rfl ⟨_, X _ _ hcell, rfl⟩ ?_
  refine wpAny_loadName_local hk (by rw [har]; exact hka) hns (by rw [har]; exact hm) ?_
  refine ks_wpAny_isType_cls hD1 hD2 ⟨rfl, ?_⟩
  refine ks_wpAny_call_super hD1 hD2 hx rfl (fun c e => nomatch e) (PySem.W.looks_mroIn X T.mro) fun h1 e1 k1 => ?_
  have X1 : K.In h1 := X.keeps k1
  have hm1 : Looks (model prog w) h1 (mroOf (.ref C)) cd.mro := (looks_clsIn X1 hcd).andThen .now
  have sup := T.sup
  unfold PySem.W.ks_superIn at sup
  rw [hcd, Option.bind_some] at sup
  have xC : x ≠ C := PySem.W.ks_ne X I hcd
  refine PySem.W.kxs_getMethod T.fam.KF e1 (PySem.W.looks_opaque X1 T.stat) hm1 rfl X1 sup ((InstAt.type (od := none) ⟨k1 _ _ hx, rfl, rfl, trivial⟩ : Looks _ h1 (typeOf (.ref x)) (.ref C)).andThen (PySem.W.looks_subIn X1 T.subB)) xC (by decide) ?_
  have hpu : (h1.push (kxs_mw initId x)).get? h1.objs.size = some (kxs_mw initId x) := Heap.get?_push_at rfl rfl
  refine PySem.W.kxs_callWith (i := initId) (x := x) rfl ?_
  refine Calls.evalArgs_plain (Calls.spliced_cons (Calls.Constant_str (k := 0) (pos := p3) ?_))
  refine Calls.spliced_nil ⟨hpu, ?_⟩
  refine errcall T.fam (X1.keeps fun b o e => Heap.get?_push_of_some _ e) T.ini (Heap.get?_push_of_some _ (k1 _ _ hx)) hpu (by rw [sizeLine_eq]; show 1 ≤ 16777216; decide) fun h' t1 k' hx' => ?_
  have ka : ∀ b o, b ≠ x → hh.get? b = some o → h'.get? b = some o := fun b o hb e => k' b o hb (Heap.get?_push_of_some _ (k1 _ _ e))
  refine hq h' _ t1 ka hx' ?_
  obtain ⟨o, es, ep, ho, r⟩ := hns
  exact ⟨o, es, ep, ka _ _ xL ho, r⟩

/-- a name of the frame -/
theorem ldF {M : Model} {m : Str → Option Value} {env : Env} {y : Str} {pos : Pos} {v : Value} {Q : Value → Shared → Prop} (hk : env.scope.kind = .function)
    (hl : env.kindOf y = some .local) (hn : s.heap.Ns env.locals m) (hv : m y = some v) (h : Q v s) (hd : (y == ("__debug__" : Str)) = false) : wpAny M A (eval (.Name y pos) env) Q E s :=
  wpAny_Name (wpAny_loadName_local hk hl hn hv h) hd
theorem err_fn (T : ErrK prog K mg C fI cc cda B initId newId bm cn fs) (X : K.In s.heap) : ∃ o, s.heap.get? fI = some o ∧ o.cls = .type "function" := by
  obtain ⟨o, ho, hc⟩ := Option.map_eq_some_iff.mp (show (K.lookup fI).map (·.cls) = some (.type "function") from beq_iff_eq.mp T.isf)
  exact ⟨o, X _ _ ho, hc⟩

/-- the stores -/
def setsB (l : List (Str × Pos × Pos × Pos × Pos)) : List Stmt := l.map fun y => eiSet y.1 y.2.1 y.2.2.1 y.2.2.2.1 y.2.2.2.2
/-- what a frame must know for a store -/
structure SetOk (K : Frag) (C x L : Addr) (env : Env) (m : Str → Option Value) (val : Str → Value) (f : Str) : Prop where
  tk : takerIn K C f = some none
  loc : env.kindOf f = some .local
  at_ : m f = some (val f)
  dbg : (f == ("__debug__" : Str)) = false
def putM (l : List Str) (val : Str → Value) (m0 : Str → Option Value) : Str → Option Value := fun y => if y ∈ l then some (val y) else m0 y
theorem putM_nil {val : Str → Value} {m0 : Str → Option Value} : putM [] val m0 = m0 := by
  funext y
  simp [putM]
theorem putM_cons {f : Str} {l : List Str} {val : Str → Value} {m0 : Str → Option Value} : putM l val (fun y => if y = f then some (val f) else m0 y) = putM (f :: l) val m0 := by
  funext y
  unfold putM
  by_cases h : y ∈ l
  · simp [h]
  · by_cases e : y = f
    · subst e; simp [h]
    · simp [h, e]
theorem sets_old {env : Env} {m : Str → Option Value} {val : Str → Value} {dx t0 : Addr} (FA : Fam B initId newId bm) (ov : excOver K C bm = true) (hd : hasDictIn K C = true)
    (sa : findIn K (.ref C) "__setattr__" = some (some (.builtin "object.__setattr__"))) (hk : env.scope.kind = .function) (hself : env.kindOf "self" = some .local) (hms : m "self" = some (.ref x)) (Ld : env.locals ≠ dx) (xd : x ≠ dx) (nK : K.lookup dx = none) :
    ∀ (l : List (Str × Pos × Pos × Pos × Pos)) (s : Shared) (m0 : Str → Option Value) (nl : List Str) (Q : Flow → Shared → Prop), K.In s.heap → s.heap.get? x = some (excObj C t0 (some dx) .none) → s.heap.Ns1 dx m0 → Within m0 nl → nl.length + l.length ≤ 1000 →
      s.heap.Ns env.locals m → (∀ y ∈ l, SetOk K C x env.locals env m val y.1) →
      (∀ h' tk', (∀ b o, b ≠ dx → s.heap.get? b = some o → h'.get? b = some o) → h'.Ns1 dx (putM (l.map (·.1)) val m0) → Q .next { s with heap := h', toks := tk' }) →
      wpAny (model prog w) A (execs (setsB l) env) Q E s
  | [], s, m0, nl, Q, X, hx, hns, hw, hz, hF, hy, hq => by
    refine wpAny_execs_nil (hq s.heap s.toks (fun _ _ _ e => e) ?_)
    rw [List.map_nil, putM_nil]
    exact hns
  | y :: r, s, m0, nl, Q, X, hx, hns, hw, hz, hF, hy, hq => by
    have S := hy y List.mem_cons_self
    rw [List.length_cons] at hz
    refine wpAny_execs_cons (plainObj_wpAny_Assign_Attribute (ldF hk S.loc hF S.at_ (ldF hk hself hF hms ?_ (by decide)) S.dbg))
    obtain ⟨hp, g, d, t, os⟩ := s
    refine errset_old FA X hx hns hw (by omega) ov hd S.tk sa fun h' tk' k' n' => ?_
    have X' : K.In h' := fun a o e => k' a o (fun z => by rw [z, nK] at e; cases e) (X a o e)
    have hF' : h'.Ns env.locals m := by
      obtain ⟨o, es, ep, ho, r⟩ := hF
      exact ⟨o, es, ep, k' _ _ Ld ho, r⟩
    refine sets_old FA ov hd sa hk hself hms Ld xd nK r ⟨h', g, d, tk', os⟩ _ (y.1 :: nl) Q X' (k' _ _ xd hx) n' (Within.cons _ _ hw) (by rw [List.length_cons]; omega) hF' (fun z hz => hy z (List.mem_cons_of_mem _ hz)) fun h2 tk2 k2 n2 => ?_
    refine hq h2 tk2 (fun b o hb e => k2 b o hb (k' b o hb e)) ?_
    rw [List.map_cons, ← putM_cons]
    exact n2

/-- what is left of a made exception: its object at e, its dict at d -/
structure ErrMade (h h' : Heap) (e C d : Addr) (mA : Str → Option Value) : Prop where
  keep : ∀ b o, h.get? b = some o → h'.get? b = some o
  new : h.objs.size ≤ e
  obj : ∃ t0, h'.get? e = some (excObj C t0 (some d) .none)
  dnew : h.objs.size ≤ d
  dne : d ≠ e
  ns : h'.Ns1 d mA

/-- the text of __init__ with the fields fs; the function object -/
structure IniK (K : Frag) (fI cc cda : Addr) (qual t : Str) (fs : List Str) : Prop where
  lk : ∃ (oc : Value) (od : Option Addr) (dV kV doc pm : Value) (an : Option Addr) (ct : Value) (osl : Array (Option Value)) (p : Pos) (qs : List Pos) (p0 p1 p2 p3 p4 : Pos) (l : List (Str × Pos × Pos × Pos × Pos)),
    K.lookup fI = some ⟨oc, od, .func (ksFn "__init__" qual (eiA (fs.zip qs) p) (eiSup t p0 p1 p2 p3 p4 :: setsB l) (eiS fs) dV kV doc pm an (.ref cda) ct cc), osl⟩ ∧
      (p2.endLine == p4.line) = true ∧ l.map (·.1) = fs ∧ qs.length = fs.length
  code : codeIn K (.ref cda) qual = true
  ne : ∀ f ∈ fs, ¬ f = "self" ∧ ¬ f = "__class__" ∧ ¬ f = "super" ∧ (f == ("__debug__" : Str)) = false
  nd : fs.Nodup
  some_ : fs ≠ [] ∧ fs.length ≤ 10
  bind : ∀ fd, (∃ oc od osl, K.lookup fI = some ⟨oc, od, .func fd, osl⟩) → ∀ (u : Value) (us : List Value), us.length = fs.length → bindArgs fd ⟨u :: us, []⟩ = pure ((("self" : Str), u) :: fs.zip us)

theorem lookup_cons_if {β : Type} (a : Str) (b : β) (l : List (Str × β)) (y : Str) : List.lookup y ((a, b) :: l) = if y = a then some b else l.lookup y := by
  rw [List.lookup_cons]
  by_cases h : y = a
  · subst h; simp
  · have z : (y == a) = false := by simpa using h
    rw [z, if_neg h]
theorem lookup_append_ {β : Type} (l r : List (Str × β)) (y : Str) : List.lookup y (l ++ r) = (l.lookup y).or (r.lookup y) := by
  induction l with
  | nil => simp
  | cons p l ih =>
    obtain ⟨a, b⟩ := p
    rw [List.cons_append, lookup_cons_if, lookup_cons_if, ih]
    split <;> simp
theorem lookup_rev {β : Type} : ∀ (l : List (Str × β)), (l.map (·.1)).Nodup → ∀ k v, (k, v) ∈ l → l.reverse.lookup k = some v
  | [], _, _, _, h => nomatch h
  | (a, b) :: l, nd, k, v, h => by
    rw [List.map_cons, List.nodup_cons] at nd
    rw [List.reverse_cons, lookup_append_]
    rcases List.mem_cons.mp h with e | h
    · injection e with e1 e2
      subst e1
      subst e2
      have z : l.reverse.lookup k = none := by
        rw [List.lookup_eq_none_iff]
        intro p hp
        have hp' : p ∈ l := by simpa using hp
        have : ¬ k = p.1 := fun e => nd.1 (by rw [e]; exact List.mem_map_of_mem (f := (·.1)) hp')
        simpa using this
      rw [z, Option.none_or, lookup_cons_if, if_pos rfl]
    · rw [lookup_rev l nd.2 k v h]
      rfl
theorem eiS_loc {fs : List Str} {y : Str} (h : y = "self" ∨ y ∈ fs) : (eiS fs).names.lookup y = some .local := by
  unfold eiS
  show List.lookup y ((("self" : Str), NameKind.local) :: _) = _
  rw [lookup_cons_if]
  by_cases e : y = "self"
  · rw [if_pos e]
  · rw [if_neg e, lookup_append_]
    have hy : y ∈ fs := h.resolve_left e
    have : (fs.map fun f => (f, NameKind.local)).lookup y = some .local := by
      clear h e
      induction fs with
      | nil => cases hy
      | cons a l ih =>
        rw [List.map_cons, lookup_cons_if]
        by_cases e : y = a
        · rw [if_pos e]
        · rw [if_neg e]
          exact ih ((List.mem_cons.mp hy).resolve_left e)
    rw [this]
    rfl
theorem eiS_out {fs : List Str} {y : Str} (h : ¬ y = "self") (hy : y ∉ fs) : (eiS fs).names.lookup y = List.lookup y [(("__class__" : Str), NameKind.free), (("super" : Str), NameKind.globalImplicit)] := by
  unfold eiS
  show List.lookup y ((("self" : Str), NameKind.local) :: _) = _
  rw [lookup_cons_if, if_neg h, lookup_append_]
  have : (fs.map fun f => (f, NameKind.local)).lookup y = none := by
    rw [List.lookup_eq_none_iff]
    intro p hp
    obtain ⟨f, hf, rfl⟩ := List.mem_map.mp hp
    have : ¬ y = f := fun e => hy (e ▸ hf)
    simpa using this
  rw [this]
  rfl
theorem eiS_cell {fs : List Str} : ∀ z ∈ (eiS fs).names, z.2 ≠ .cell := by
  intro z hz
  unfold eiS at hz
  rcases List.mem_cons.mp hz with rfl | hz
  · exact fun e => nomatch e
  rcases List.mem_append.mp hz with hz | hz
  · obtain ⟨f, _, rfl⟩ := List.mem_map.mp hz
    exact fun e => nomatch e
  · rcases List.mem_cons.mp hz with rfl | hz
    · exact fun e => nomatch e
    · rcases List.mem_cons.mp hz with rfl | hz
      · exact fun e => nomatch e
      · cases hz

/-- THE RUN of __init__ -/
theorem err_init (T : ErrK prog K mg C fI cc cda B initId newId bm cn fs) (N : IniK K fI cc cda qual t fs) (M0 : Mod K mg base) {us : List Value} {args : Args} {t0 : Addr} (hul : us.length = fs.length)
    (kb : ∀ b o, base.get? b = some o → s.heap.get? b = some o) (hx : s.heap.get? x = some (excObj C t0 none .none)) (nK : K.lookup x = none) (hroom : A.depth < recursionLimit)
    (hb : ∀ fd, (∃ oc od osl, K.lookup fI = some ⟨oc, od, .func fd, osl⟩) → BindsTo s fd args ((("self" : Str), Value.ref x) :: fs.zip us))
    (hq : ∀ h' tk' d t1, (∀ b o, b ≠ x → s.heap.get? b = some o → h'.get? b = some o) → s.heap.objs.size ≤ d → h'.get? x = some (excObj C t1 (some d) .none) →
      h'.Ns1 d (putM fs (fun f => ((fs.zip us).lookup f).getD .none) fun _ => none) → R (.ok (.ret .none)) { s with heap := h', toks := tk' }) :
    codeAny (model prog w) A (.call (.ref fI) args) R s := by
  obtain ⟨oc, od, dV, kV, doc, pm, an, ct, osl, p, qs, p0, p1, p2, p3, p4, l, lk, hl, hlf, hqs⟩ := N.lk
  have X : K.In s.heap := M0.kin.keeps kb
  have nl : s.heap.NoLimit := M0.nolimit.keeps kb
  have zf : (fs.zip us).map (·.1) = fs := by rw [List.map_fst_zip (by omega)]
  have nself : ("self" : Str) ∉ fs := fun h => (N.ne _ h).1 rfl
  have nd' : (((("self" : Str), Value.ref x) :: fs.zip us).map (·.1)).Nodup := by
    rw [List.map_cons, zf]
    exact List.nodup_cons.mpr ⟨nself, N.nd⟩
  refine PySem.ks_codeAny_call_defAt (binds := (("self" : Str), Value.ref x) :: fs.zip us) hroom (X _ _ lk) rfl nl (PySem.W.codeRec_of X N.code) rfl (hb _ ⟨_, _, _, lk⟩) eiS_cell (fun y hy => eiS_loc ?_) (fun h₁ hns k₁ => ?_) rfl rfl rfl
  · rcases List.mem_cons.mp hy with rfl | hy
    · exact .inl rfl
    · exact .inr (List.of_mem_zip hy).1
  have hm : ((("self" : Str), Value.ref x) :: fs.zip us).reverse.lookup ("self" : Str) = some (Value.ref x) := lookup_rev _ nd' _ _ List.mem_cons_self
  have hmf : ∀ f ∈ fs, ((("self" : Str), Value.ref x) :: fs.zip us).reverse.lookup f = some (((fs.zip us).lookup f).getD .none) := fun f hf => by
    have : f ∈ (fs.zip us).map (·.1) := by rw [zf]; exact hf
    obtain ⟨⟨f', u⟩, hm', rfl⟩ := List.mem_map.mp this
    have ndz : ((fs.zip us).map (·.1)).Nodup := by rw [zf]; exact N.nd
    have e1 : (fs.zip us).lookup f' = some u := by
      have z := lookup_rev ((fs.zip us).reverse) (by rw [List.map_reverse]; exact (List.reverse_perm _).nodup_iff.mpr ndz) f' u (by simpa using hm')
      rw [List.reverse_reverse] at z
      exact z
    show _ = some (((fs.zip us).lookup f').getD .none)
    rw [e1]
    exact lookup_rev _ nd' _ _ (List.mem_cons_of_mem _ hm')
  have hxL : s.heap.objs.size ≠ x := Nat.ne_of_gt (Heap.lt_size hx)
  have ncl : ("__class__" : Str) ∉ fs := fun h => (N.ne _ h).2.1 rfl
  have nsu : ("super" : Str) ∉ fs := fun h => (N.ne _ h).2.2.1 rfl
  refine ks_wpAt_execs_cons (err_sup (scope := eiS fs) T M0 (fun b o e => k₁ b o (kb b o e)) (k₁ _ _ hx) hns hm hxL lk rfl rfl rfl rfl (eiS_loc (.inl rfl)) ?_ ?_ hl fun h2 tk2 t2 k2 hx2 hns2 => ?_)
  · rw [eiS_out (by decide) ncl]; rfl
  · rw [eiS_out (by decide) nsu]; rfl
  show _root_.PySem.wpAt _ _ _ (execs (setsB l) _) _ _ _
  refine wpAt_of_wpAny ?_
  have X2 : K.In h2 := fun a o e => k2 a o (fun z => by rw [z, nK] at e; cases e) (k₁ a o (X a o e))
  obtain ⟨hne, hlen⟩ := N.some_
  cases l with
  | nil => exact absurd hlf.symm hne
  | cons y r =>
    have setok : ∀ z ∈ y :: r, SetOk K C x s.heap.objs.size (ksEnv qual (eiS fs) s.heap.objs.size fI (.ref cda) cc) (fun y => ((("self" : Str), Value.ref x) :: fs.zip us).reverse.lookup y)
        (fun f => ((fs.zip us).lookup f).getD .none) z.1 := fun z hz => by
      have hzf : z.1 ∈ fs := by rw [← hlf]; exact List.mem_map_of_mem hz
      exact ⟨T.tk _ hzf, eiS_loc (.inr hzf), hmf _ hzf, (N.ne _ hzf).2.2.2⟩
    have S := setok y List.mem_cons_self
    refine wpAny_execs_cons (plainObj_wpAny_Assign_Attribute (ldF rfl S.loc hns2 S.at_ (ldF rfl (eiS_loc (.inl rfl)) hns2 hm ?_ (by decide)) S.dbg))
    refine errset_new T.fam X2 hx2 T.ov T.hd S.tk T.sa fun h3 tk3 dx k3 dz dxn hx3 n3 => ?_
    have nKd : K.lookup dx = none := by
      cases e : K.lookup dx with
      | none => rfl
      | some o => exact absurd (Heap.lt_size (X2 _ _ e)) (Nat.not_lt.mpr dz)
    have X3 : K.In h3 := fun a o e => k3 a o (fun z => by rw [z, nK] at e; cases e) (X2 a o e)
    have Ld : s.heap.objs.size ≠ dx := Nat.ne_of_lt (Nat.lt_of_lt_of_le hns2.lt dz)
    have hns3 : h3.Ns s.heap.objs.size (fun y => ((("self" : Str), Value.ref x) :: fs.zip us).reverse.lookup y) := by
      obtain ⟨o, es, ep, ho, r⟩ := hns2
      exact ⟨o, es, ep, k3 _ _ hxL ho, r⟩
    have hrl : r.length ≤ 10 := by
      have := congrArg List.length hlf
      rw [List.length_map, List.length_cons] at this
      omega
    refine sets_old (env := ksEnv qual (eiS fs) s.heap.objs.size fI (.ref cda) cc) T.fam T.ov T.hd T.sa (m := fun y => ((("self" : Str), Value.ref x) :: fs.zip us).reverse.lookup y) (val := fun f => ((fs.zip us).lookup f).getD .none) (dx := dx) rfl (eiS_loc (.inl rfl)) hm Ld dxn.symm nKd r
      _ _ [y.1] _ X3 hx3 n3 (Within.cons _ _ Within.nil) (by rw [List.length_singleton]; omega) hns3 (fun z hz => setok z (List.mem_cons_of_mem _ hz)) fun h4 tk4 k4 n4 => ?_
    refine hq h4 tk4 dx t2 (fun b o hb e => ?_) (Nat.le_of_lt (Nat.lt_of_lt_of_le hns2.lt dz)) (k4 _ _ dxn.symm hx3) ?_
    · have e2 := k2 b o hb (k₁ b o e)
      have nbd : b ≠ dx := Nat.ne_of_lt (Nat.lt_of_lt_of_le (Heap.lt_size e2) dz)
      exact k4 b o nbd (k3 b o hb e2)
    · have e4 : putM (r.map (·.1)) (fun f => ((fs.zip us).lookup f).getD .none) (fun z => if z = y.1 then some (((fs.zip us).lookup y.1).getD .none) else none) = putM fs (fun f => ((fs.zip us).lookup f).getD .none) fun _ => none := by
        have q := putM_cons (f := y.1) (l := r.map (·.1)) (val := fun f => ((fs.zip us).lookup f).getD .none) (m0 := fun _ => none)
        rw [← List.map_cons, hlf] at q
        exact q
      rw [← e4]
      exact n4

/-- the class called -/
theorem err_made (T : ErrK prog K mg C fI cc cda B initId newId bm cn fs) (N : IniK K fI cc cda qual t fs) (M0 : Mod K mg base) {us : List Value} (hul : us.length = fs.length)
    (kb : ∀ b o, base.get? b = some o → s.heap.get? b = some o) (hroom : A.depth + 1 < recursionLimit)
    (hq : ∀ h' tk e d, ErrMade s.heap h' e C d (putM fs (fun f => ((fs.zip us).lookup f).getD .none) fun _ => none) → R (.ok (.ret (.ref e))) { s with heap := h', toks := tk }) :
    codeAny (model prog w) A (.call (.ref C) ⟨us, []⟩) R s := by
  have X : K.In s.heap := M0.kin.keeps kb
  obtain ⟨nm, N', qn, bs, bm', hdct, sn, sub, ab, col, dd, k0, k1, k2, k3, k5, hC, hT⟩ := PySem.W.excInit_of X T.ini
  obtain ⟨oI, hoI, hcI⟩ := err_fn T X
  have hz : us.length ≤ sizeLine := by rw [sizeLine_eq, hul]; have := N.some_.2; omega
  obtain ⟨hp, g, dr, tk, os⟩ := s
  have old : ∀ b o, hp.get? b = some o → ((hp.push (PySem.W.kdv_tup us)).push (HandSPX.excO C hp.objs.size)).get? b = some o := fun b o e => Heap.get?_push_of_some _ (Heap.get?_push_of_some _ e)
  have hget : ((hp.push (PySem.W.kdv_tup us)).push (HandSPX.excO C hp.objs.size)).get? (hp.objs.size + 1) = some (HandSPX.excO C hp.objs.size) := by heap_get
  have hnx : K.lookup (hp.objs.size + 1) = none := by
    cases e : K.lookup (hp.objs.size + 1) with
    | none => rfl
    | some o => exact absurd (Nat.lt_of_succ_lt (Heap.lt_size (show hp.get? _ = some o from X _ _ e))) (Nat.lt_irrefl _)
  refine HandSPX.call_own T.fam.FB hT hC (looks_findIn X T.iC) (fun self => PySem.W.exc_bind hoI hcI self) hz ?_
  refine err_init (x := hp.objs.size + 1) (t0 := hp.objs.size) (us := us) (s := ⟨(hp.push (PySem.W.kdv_tup us)).push (HandSPX.excO C hp.objs.size), g, dr, tk, os⟩) T N M0 hul (fun b o e => old b o (kb b o e)) hget hnx ?_
    (fun fd hfd => BindsTo.of_eq (N.bind fd hfd _ us hul)) fun h' tk' d t1 k' dz hx n' => ?_
  · show A.depth + 1 < recursionLimit
    exact hroom
  · have dz' : hp.objs.size + 1 + 1 ≤ d := by
      have q := dz
      rw [Heap.size_push, Heap.size_push] at q
      exact q
    exact ⟨rfl, hq h' tk' (hp.objs.size + 1) d ⟨fun b o e => k' b o (Nat.ne_of_lt (Nat.lt_succ_of_lt (Heap.lt_size e))) (old b o e), Nat.le_succ _, ⟨_, hx⟩, Nat.le_trans (Nat.le_trans (Nat.le_succ _) (Nat.le_succ _)) dz', (Nat.ne_of_lt (Nat.lt_of_succ_le dz')).symm, n'⟩⟩
end

/-! ### raise C(..) over the layer -/
/-- the fields of an exception's own dict, as values of the layer -/
theorem relO_putM : ∀ {fs : List Str} {vs : List V} {us : List Value}, Vals vs us → vs.length = fs.length → ∀ y, RelO ((fs.zip vs).lookup y) (putM fs (fun f => ((fs.zip us).lookup f).getD .none) (fun _ => none) y)
  | [], _, _, _, _, y => by simp [putM, RelO]
  | f :: fs, [], _, _, h, _ => by simp at h
  | f :: fs, v :: vs, u :: us, .cons r rs, h, y => by
    rw [List.zip_cons_cons, lookup_cons_if]
    by_cases e : y = f
    · subst e
      simp [putM, RelO, lookup_cons_if, r]
    · rw [if_neg e]
      have ih := relO_putM (fs := fs) rs (by simpa using h) y
      have : putM (f :: fs) (fun g => (((f :: fs).zip (u :: us)).lookup g).getD .none) (fun _ => none) y = putM fs (fun g => ((fs.zip us).lookup g).getD .none) (fun _ => none) y := by
        unfold putM
        by_cases h : y ∈ fs
        · simp [h, List.zip_cons_cons, lookup_cons_if, e]
        · simp [h, e]
      rw [this]
      exact ih
section
variable {X : Cx} {C fI cc cda : Addr} {B initId newId : String} {bm : List Value} {cn qual t : Str} {fs : List Str} {W : WX}
def tMkErr (C : Addr) (fs : List Str) (ta : TA) : L2.St → Hp → XK → Prop := fun σ H Q => ta σ H fun vs H1 => vs.length = fs.length ∧ ∀ d, H1 d = none → Q (.ref C) (some d) (upd H1 d (.xd (fs.zip vs)))
theorem pmk_err {e : Expr} {es : List Expr} {ta : TA} {p pos : Pos} (T : ErrK X.prog X.K X.mg C fI cc cda B initId newId bm cn fs) (N : IniK X.K fI cc cda qual t fs) (kC : keepIn X.K (.ref C) = true)
    (eC : subIn X.K (.ref C) (.type "BaseException") = some true) (tC : typeIn X.K (.ref C) = some (.type "type")) {k : Nat} (hr : Room k X.A) (ha : PA X (e :: es) ta) (hg : Gl X cn) (hdb : (cn == ("__debug__" : Str)) = false := by decide)
    (he : starEach (e :: es) X.env = (false, eval e X.env) :: starEach es X.env := by rfl) (hpl : (backTo pos (starEach es X.env)).any (·.1) = false := by rfl) :
    PMk X (.Call (.Name cn p) (e :: es) [] pos) (tMkErr C fs ta) := by
  intro pins s σ H Q I h
  refine wpAny_Call_Name_kw (ld_glob I hg T.gC ?_ hdb)
  refine PySem.W.callWith_K (h₀ := X.base) I.ok.mod.kin kC (thn (ha.run pos pins s σ H _ I h) ?_) he hpl
  rintro us s1 ⟨vs, H1, I1, r1, hvl, q1⟩
  refine ⟨I1.kIn, ?_⟩
  show wpAny _ _ (call (.ref C) us) _ _ _
  have hul : us.length = fs.length := r1.length.symm.trans hvl
  have hbk := I1.bk
  obtain ⟨hp, g, dr, tk, os⟩ := s1
  refine wpAny_call (err_made T N I1.mod hul hbk (by have := hr.dp; omega) fun h' tk' a d M => ?_)
  show MkP X pins σ Q (.ref a) ⟨h', g, dr, tk', os⟩
  obtain ⟨t0, ha'⟩ := M.obj
  obtain ⟨G', g1, g2⟩ := restrict h' fun b => decide (b ≠ a)
  have gk : ∀ b, b ≠ a → G'.get? b = h'.get? b := fun b hb => g1 b (decide_eq_true hb)
  have ge : G'.get? a = none := g2 a (by simp)
  have gold : ∀ b o, hp.get? b = some o → G'.get? b = some o := fun b o q => (gk b (Nat.ne_of_lt (Nat.lt_of_lt_of_le (Heap.lt_size q) M.new))).trans (M.keep b o q)
  have ob : ObjOk X.prog X.w (upd H1 d (.xd (fs.zip vs))) G' d (.xd (fs.zip vs)) := ⟨_, M.ns.at (fun o q => (gk d M.dne).trans q), relO_putM r1 hvl⟩
  have J : Inv X pins σ (upd H1 d (.xd (fs.zip vs))) ⟨G', g, dr, tk', os⟩ := I1.laid (t' := tk') gold M.dnew ob
  have subs : ∀ b o, G'.get? b = some o → h'.get? b = some o := fun b o q => by
    by_cases hb : b = a
    · rw [hb, ge] at q; cases q
    · exact (gk b hb).symm.trans q
  refine ⟨a, _, _, ⟨G', g, dr, tk', os⟩, _, .ref C, some d, rfl, J, subs, ge, ha', ⟨rfl, rfl⟩, rfl, rfl, ?_, rfl, I1.bare, raises_own eC tC, q1 d (I1.hok.fresh M.dnew)⟩
  rw [upd_ne (Ne.symm M.dne)]
  exact I1.hok.fresh M.new
/-- raise C(e, ..) -/
def tRaiseErr (C : Addr) (fs : List Str) (W : WX) (ta : TA) : TS := fun _ σ H => tMkErr C fs ta σ H fun cls d H' => W cls d σ H'
theorem ps_raiseErr {e : Expr} {es : List Expr} {ta : TA} {p pos pos2 : Pos} (hc : X.calm = true) (T : ErrK X.prog X.K X.mg C fI cc cda B initId newId bm cn fs) (N : IniK X.K fI cc cda qual t fs) (kC : keepIn X.K (.ref C) = true)
    (eC : subIn X.K (.ref C) (.type "BaseException") = some true) (tC : typeIn X.K (.ref C) = some (.type "type")) {k : Nat} (hr : Room k X.A) (tkW : Takes X W) (ha : PA X (e :: es) ta) (hg : Gl X cn) (hdb : (cn == ("__debug__" : Str)) = false := by decide)
    (he : starEach (e :: es) X.env = (false, eval e X.env) :: starEach es X.env := by rfl) (hpl : (backTo pos (starEach es X.env)).any (·.1) = false := by rfl) :
    PS X (.Raise (some (.Call (.Name cn p) (e :: es) [] pos)) none pos2) (tRaiseErr C fs W ta) := ps_raise hc tkW (pmk_err T N kC eC tC hr ha hg hdb he hpl)
end
end BJ

/-! try: body / except X as n: suite, where the exception stays known behind the statement; its fields -/
namespace BJ
open PySem PySem.Spec PyProof.Rows L2
open PySem.W (Looks Frag findIn subIn nsIn typeIn keepIn hasDictIn)

/-- an exception object that is held: of class cls, its own dict at d -/
def ExcK (a : Addr) (cls : Value) (d : Option Addr) : HO := .ext fun h => ∃ (oe : Obj) (vs : Array Value), h.get? a = some oe ∧ Zc cls d oe ∧ oe.data = .fields vs
theorem excK_ok {P : Program} {w : World} {H : Hp} {h : Heap} {a : Addr} {cls : Value} {d : Option Addr} {oe : Obj} {vs : Array Value} (e : h.get? a = some oe) (z : Zc cls d oe) (hd : oe.data = .fields vs) : ObjOk P w H h a (ExcK a cls d) :=
  ⟨⟨oe, vs, e, z, hd⟩, ⟨oe, e⟩, fun _ _ ⟨o, v, q, r⟩ k => ⟨o, v, k o q, r⟩⟩
theorem excK_at {P : Program} {w : World} {H : Hp} {h : Heap} {a : Addr} {cls : Value} {d : Option Addr} (x : HOk P w H h) (e : H a = some (ExcK a cls d)) : ∃ (oe : Obj) (vs : Array Value), h.get? a = some oe ∧ Zc cls d oe ∧ oe.data = .fields vs := by
  have q : ObjOk P w H h a (ExcK a cls d) := x a _ e
  exact q.1

section
variable {X : Cx} {pins : List (Addr × Obj)} {σ : L2.St} {H : Hp} {s : Shared}
/-- a pinned object that is new is tracked from here on -/
theorem Inv.track {a : Addr} {oe : Obj} {φ : Heap → Prop} (I : Inv X ((a, oe) :: pins) σ H s) (hnew : X.s_0.heap.get? a = none) (hp : ∀ p ∈ X.pn ++ pins, p.1 ≠ a)
    (ok : ObjOk X.prog X.w (upd H a (.ext φ)) s.heap a (.ext φ)) : Inv X pins σ (upd H a (.ext φ)) s := by
  obtain ⟨ha, na, nL, nF, nc⟩ := I.pin (a, oe) (List.mem_append_right _ List.mem_cons_self)
  have up : ∀ b u, H b = some u → upd H a (.ext φ) b = some u := fun b u e => by
    rw [upd_ne (ne_of_none e na)]
    exact e
  have old : ∀ b o, X.s_0.heap.get? b = some o → b ≠ a := fun b o e z => by
    rw [z, hnew] at e
    cases e
  constructor
  · exact I.ok
  · exact I.os
  · exact I.bare
  · exact ⟨I.base.keep, I.base.slot, fun b o e n x => by rw [upd_ne (old b o e)]; exact I.base.free b o e n x, I.base.there, fun b xs e => up _ _ (I.base.tups b xs e), fun b o u e => up _ _ (I.base.frzs b o u e),
      fun b ps e => let ⟨m, q⟩ := I.base.tbls b ps e; ⟨m, up _ _ q⟩⟩
  · exact I.loc
  · exact I.cell
  · rw [upd_ne (Ne.symm nL)]
    exact I.free
  · intro y c e
    have q : c ≠ a := fun z => by
      obtain ⟨v, o, ho, hd⟩ := I.cell y c e
      rw [z] at ho
      have ha' : s.heap.get? a = some oe := ha
      rw [ha'] at ho
      cases ho
      exact nc _ hd
    rw [upd_ne q]
    exact I.freeC y c e
  · intro p hpm
    obtain ⟨e, n, r⟩ := I.pin p ((List.mem_append.mp hpm).elim (fun z => List.mem_append_left _ z) fun z => List.mem_append_right _ (List.mem_cons_of_mem _ z))
    exact ⟨e, by rw [upd_ne (hp p hpm)]; exact n, r⟩
  · intro b u e
    by_cases hb : b = a
    · subst hb
      rw [upd_same] at e
      cases e
      exact ok
    · rw [upd_ne hb] at e
      exact (I.hok b u e).stay (fun _ _ _ q => q) (fun c q => up _ _ q) fun c xs q => up _ _ q
  · exact I.len

/-- the test of an except clause -/
def ClauseT (X : Cx) (t : Expr) (mt : Value → Option Bool) : Prop := ∀ (a : Addr) (pn : List (Addr × Obj)) (s : Shared) (σ : L2.St) (H : Hp) (cls : Value) (b : Bool) (E : Value → Shared → Prop) (Q : Value → Shared → Prop),
  Inv (X.suite a pn) [] σ H s → Looks (model X.prog X.w) s.heap (typeOf (.ref a)) cls → mt cls = some b →
  (∀ c h' tk', (∀ b o, s.heap.get? b = some o → h'.get? b = some o) → Looks (model X.prog X.w) h' (excMatches (.ref a) c) b → Q c { s with heap := h', toks := tk' }) →
  wpAny (model X.prog X.w) (X.A.mark (some (.ref a))) (eval t X.env) Q E s
theorem name_ld {x : Str} {c : Value} {np : Pos} {A : Around} {E : Value → Shared → Prop} {Q : Value → Shared → Prop} {a : Addr} {pn : List (Addr × Obj)} (hc : Names X x c) (S : Inv (X.suite a pn) [] σ H s) (q : Q c s) :
    wpAny (model X.prog X.w) (X.A.mark (some (.ref a))) (eval (.Name x np) X.env) Q E s := by
  obtain ⟨hg, hdbg, hm | ⟨hm, hv, hnn⟩⟩ := hc
  · exact ld_glob (X := X.suite a pn) S hg hm q hdbg
  · exact ld_blt (X := X.suite a pn) S hg hm hv q hnn hdbg
theorem cl_one {x : Str} {c : Value} {np : Pos} (hc : Names X x c) : ClauseT X (.Name x np) (fun cls => PySem.W.exmOne X.K cls c) := fun a pn s σ H cls b E Q S LT hb hq =>
  name_ld (A := X.A) hc S (hq c s.heap s.toks (fun _ _ e => e) (PySem.W.exm_one S.kIn LT hb))
theorem cl_three {x1 x2 x3 : Str} {c1 c2 c3 : Value} {p1 p2 p3 p : Pos} {k : Nat} (h1 : Names X x1 c1) (h2 : Names X x2 c2) (h3 : Names X x3 c3) (hl : starEach [.Name x1 p1, .Name x2 p2, .Name x3 p3] X.env = [(false, eval (.Name x1 p1) X.env), (false, eval (.Name x2 p2) X.env), (false, eval (.Name x3 p3) X.env)] := by rfl) :
    ClauseT X (.Tuple [.Name x1 p1, .Name x2 p2, .Name x3 p3] k p) (fun cls => PySem.W.exmAny X.K cls [c1, c2, c3]) := fun a pn s σ H cls b E Q S LT hb hq => by
  refine wpAny_Tuple_spliced ?_
  rw [hl]
  refine Calls.spliced_cons (name_ld (A := X.A) h1 S ?_)
  refine Calls.spliced_cons (name_ld (A := X.A) h2 S ?_)
  refine Calls.spliced_cons (name_ld (A := X.A) h3 S ?_)
  refine Calls.spliced_nil ⟨by rw [sizeLine_eq]; show 3 ≤ 16777216; decide, ?_⟩
  have k : ∀ b o, s.heap.get? b = some o → (s.heap.push ({ cls := .type "tuple", data := .seq [c1, c2, c3].toArray } : Obj)).get? b = some o := fun b o e => Heap.get?_push_of_some _ e
  exact hq _ _ s.toks k (PySem.W.exm_tup3 (S.kIn.keeps k) (fun A Q E s' k' q => LT A Q E s' (fun b o e => k' b o (k b o e)) q) (Heap.get?_push_size _ rfl) hb)
end

theorem FlyingZ.grow {base h h' : Heap} {l : List Env} {e : Addr} {Z : Obj → Prop} (x : HandSPX.FlyingZ base l e Z h) (k : ∀ b o, h.get? b = some o → h'.get? b = some o) : HandSPX.FlyingZ base l e Z h' := by
  obtain ⟨f1, f2, f3, oe, vs, T, oT, ts, a1, a2, a3, a4, a5, a6, a7, a8⟩ := x
  exact ⟨fun b o e => k b o (f1 b o e), f2, Heap.FunFrames.of_keeps (fun b o e _ => ⟨o, k b o e, rfl⟩) f3, oe, vs, T, oT, ts, k _ _ a1, a2, a3, a4, a5, a6, k _ _ a7, a8⟩

/-- what the clause wishes of an exception of the body; behind it the exception is known at a -/
def wTry (mt : Value → Option Bool) (i : Nat) (ts : Addr → Value → Option Addr → TS) (Wout : WX) (D : Ends) : WX := fun cls d σ H =>
  ∃ b, mt cls = some b ∧
    (b = true → ∀ a, H a = none → ts a cls d { nx := fun σ' H' => D.nx (σ'.set i none) (upd H' a (ExcK a cls d)), rt := D.rt, bk := fun σ' H' => D.bk (σ'.set i none) (upd H' a (ExcK a cls d)), ct := fun σ' H' => D.ct (σ'.set i none) (upd H' a (ExcK a cls d)) } (σ.set i (some (.ref a))) H) ∧
    (b = false → Wout cls d σ H)
section
variable {X : Cx} {n : Str} {t : Expr} {mt : Value → Option Bool} {i : Nat} {body suite : List Stmt} {b₀ : Stmt} {pos pos' : Pos} {tb : WX → TS} {ts : Addr → Value → Option Addr → TS} {Wout : WX}
theorem ps_tryK (hs : X.stack = X.env :: X.outer) (hf : X.env.frame = some X.env.locals) (hex : X.ex = []) (hN : X.N.Nodup) (hi : X.N[i]? = some n) (hln : X.env.kindOf n = some .local) (hc : ClauseT X t mt) (tk : Takes X Wout)
    (hb : ∀ (W : WX) (pn : List (Addr × Obj)) (xe : Value → Shared → Prop), Takes (X.tr pn xe) W → PassesOwn (model X.prog X.w) X.A X.env xe → PSs (X.tr pn xe) body (tb W))
    (hsu : ∀ (a : Addr) (oe : Obj) (cls : Value) (d : Option Addr) (pn : List (Addr × Obj)), Zc cls d oe → (∃ vs, oe.data = .fields vs) → PSs (X.suite a ((a, oe) :: pn)) (b₀ :: suite) (ts a cls d)) :
    PS X (.Try body [.ExceptHandler (some t) (some n) (b₀ :: suite) pos'] [] [] pos) (fun D σ H => tb (wTry mt i ts Wout D) D σ H) where
  run := by
    intro pins s σ H D I h
    have ok := I.ok
    have hfr : X.A.frames = some (X.env :: X.outer) := by rw [ok.frames, hs]
    refine wpAny_Try_except (wpAny_mono ((hb (wTry mt i ts Wout D) (X.pn ++ pins) (fun e s₁ => wpAny (model X.prog X.w) X.A (noteFrame e X.env) (fun _ s₂ =>
      wpAny (model X.prog X.w) X.A (setFlight e none) (fun _ s₃ => wpAny (model X.prog X.w) X.A (handleBy e X.env [.ExceptHandler (some t) (some n) (b₀ :: suite) pos']) (SP X pins D) X.xe s₃) X.xe s₂) X.xe s₁)
      ?cat PassesOwn.looking).run [] s σ H D (I.toTry _) h) ?thru fun e s1 he => he)
    case thru =>
      rintro (_ | _ | _ | u) s1 hsp
      · obtain ⟨σ', H', J, q⟩ := hsp
        exact wpAny_execs_nil ⟨σ', H', J.ofTry ok, q⟩
      · obtain ⟨σ', H', J, q⟩ := hsp
        exact ⟨σ', H', J.ofTry ok, q⟩
      · obtain ⟨σ', H', J, q⟩ := hsp
        exact ⟨σ', H', J.ofTry ok, q⟩
      · obtain ⟨v, σ', H', J, r, q⟩ := hsp
        exact ⟨v, σ', H', J.ofTry ok, r, q⟩
    case cat =>
      rintro u s' ⟨a, B, sI, pins', σ', H', cls, d, rfl, J0, nb, up, sky, na, os, ag, b, hb1, hyes, hno⟩
      have J : Inv X pins σ' H' sI := J0.ofTry ok
      rw [hs] at sky
      refine Sky.land Zc.steady hfr hf (show Sky B (X.env :: X.outer) a (Zc cls d) X.env.locals s'.heap from sky) fun h3 fl3 up3 => ?_
      have J3 : Inv X pins σ' H' { s' with heap := h3 } := J.landed nb fl3.1 (up.trans up3) os ag
      obtain ⟨oe3, vs3, he3, hz3, hd3⟩ := fl3.there
      have nfr : a ∉ frs (X.env :: X.outer) := fun hm => by
        obtain ⟨_, o', e', hnf⟩ := fl3.2.2.1.mem hm
        rw [he3] at e'
        cases e'
        exact hnf _ hd3
      have nL : a ≠ X.env.locals := fun z => nfr (List.mem_filterMap.mpr ⟨X.env, List.mem_cons_self, by rw [hf, z]⟩)
      have nF : a ∉ X.fs := fun hm => by
        obtain ⟨e, he, q⟩ := List.mem_filterMap.mp hm
        exact nfr (List.mem_filterMap.mpr ⟨e, List.mem_cons_of_mem _ he, q⟩)
      have nI : sI.heap.get? a = none := by
        cases e : sI.heap.get? a with
        | none => rfl
        | some o =>
          have z := nb a o e (by rw [hs]; exact nfr)
          rw [fl3.2.1] at z
          cases z
      have n0 : X.s_0.heap.get? a = none := by
        cases e : X.s_0.heap.get? a with
        | none => rfl
        | some o =>
          obtain ⟨o', z⟩ := J.base.there a o e (by rw [hex]; exact fun z => nomatch z)
          rw [nI] at z
          cases z
      have np : ∀ p ∈ X.pn ++ pins, p.1 ≠ a := fun p hp z => by
        have q := (J.pin p hp).1
        rw [z, nI] at q
        cases q
      have S3 := J3.suite he3 hd3 na nL nF
      have LT : Looks (model X.prog X.w) h3 (typeOf (.ref a)) cls := fun A Q E s k q => wpAny_typeOf_ref (k _ _ he3) (by rw [hz3.1]; exact q)
      refine PySem.W.exc_clause_as (hc a _ _ σ' H' cls b _ _ S3 LT hb1 fun c h4 tk4 k4 LM => ⟨b, LM, ?_⟩)
      have fl4 := FlyingZ.grow fl3 k4
      have J4 : Inv X pins σ' H' { s' with heap := h4, toks := tk4 } := J3.kept (t' := tk4) k4
      cases b with
      | true =>
        refine HandSPX.lands_againZ fl4 fun h5 fl5 up5 => ?_
        have J5 : Inv X pins σ' H' { s' with heap := h5, toks := tk4 } :=
          J.landed (s' := { s' with heap := h5, toks := tk4 }) nb fl5.1 (((up.trans up3).trans (Heap.UpToSlots.of_keeps k4)).trans up5) os ag
        obtain ⟨oe5, vs5, he5, hz5, hd5⟩ := fl5.there
        have S5 := J5.suite he5 hd5 na nL nF
        refine store_ok (X := X.suite a ((a, oe5) :: (X.pn ++ pins))) (v := .ref a) S5 hN hi (.inl hln) rfl (fun s6 S6 => ?_) (.inr hln)
        refine wpAny_mono ((hsu a oe5 cls d (X.pn ++ pins) hz5 ⟨_, hd5⟩).run [] s6 _ H' _ S6 (hyes rfl a na)) (fun f s7 hsp => ?_) fun _ _ z => False.elim z
        have out : ∀ {σ7 : L2.St} {H7 : Hp} {s7 : Shared}, Inv (X.suite a ((a, oe5) :: (X.pn ++ pins))) [] σ7 H7 s7 → Inv X ((a, oe5) :: pins) σ7 H7 s7 := fun {σ7 H7 s7} S =>
          ⟨ok, S.os, S.bare, S.base, S.loc, S.cell, S.free, S.freeC, fun p hp => S.pin p (by
            rw [List.append_nil]
            rcases List.mem_append.mp hp with z | z
            · exact List.mem_cons_of_mem _ (List.mem_append_left _ z)
            · rcases List.mem_cons.mp z with z | z
              · rw [z]; exact List.mem_cons_self
              · exact List.mem_cons_of_mem _ (List.mem_append_right _ z)), S.hok, S.len⟩
        have fin : ∀ {σ7 : L2.St} {H7 : Hp} {Q : Shared → Prop} {s7 : Shared}, Inv (X.suite a ((a, oe5) :: (X.pn ++ pins))) [] σ7 H7 s7 → (∀ s8, Inv X pins (σ7.set i none) (upd H7 a (ExcK a cls d)) s8 → Q s8) →
            (∀ s8, Inv X pins (σ7.set i none) H7 s8 → True) → wpAny (model X.prog X.w) X.A (do bindName X.env n .none; unbindBehindTheSuite X.env n pos') (fun _ s8 => Q s8) X.xe s7 := fun {σ7 H7 Q s7} S hq _ =>
          gone_ok (out S) hN hi hln fun s8 J8 => hq s8 (Inv.track J8 n0 np (excK_ok (J8.pin (a, oe5) (List.mem_append_right _ List.mem_cons_self)).1 hz5 hd5))
        match f, hsp with
        | .next, ⟨σ7, H7, S7, q7⟩ => exact fin S7 (fun s8 J8 => ⟨_, _, J8, q7⟩) fun _ _ => trivial
        | .brk, ⟨σ7, H7, S7, q7⟩ => exact fin S7 (fun s8 J8 => ⟨_, _, J8, q7⟩) fun _ _ => trivial
        | .cont, ⟨σ7, H7, S7, q7⟩ => exact fin S7 (fun s8 J8 => ⟨_, _, J8, q7⟩) fun _ _ => trivial
        | .ret u, ⟨v7, σ7, H7, S7, r7, q7⟩ => exact gone_ok (S7.unsuite ok) hN hi hln fun s8 J8 => ⟨_, _, _, J8, r7, q7⟩
      | false =>
        show wpAny _ X.A (handleBy (.ref a) X.env []) _ _ _
        refine wpAny_handleBy_nil ?_
        obtain ⟨k1, k2, k3, oe, vs, T, oT, ts', he, hz, hd, h1, hr⟩ := id fl4
        have fin : wpAny (model X.prog X.w) X.A (setFlight (.ref a) X.env.frame) (fun _ s5 => wpAny (model X.prog X.w) X.A (throw (.ref a) : Sem Flow) (SP X pins D) X.xe s5) X.xe { s' with heap := h4, toks := tk4 } := by
          rw [hf]
          refine HandSPX.setFlight_upZ fl4 fun h5 hh5 up5 => wpAny_throw (tk _ _ ?_)
          exact ⟨a, B, sI, pins, σ', H', cls, d, rfl, J, nb, ((up.trans up3).trans (Heap.UpToSlots.of_keeps k4)).trans up5, .inr (.inr (by rw [hs]; exact hh5)), na, os, ag, hno rfl⟩
        unfold PySem.passOn
        refine wpAny_bind (wpAny_field he hd h1 ?_)
        rw [if_neg (by simp)]
        first
          | exact wpAny_bind (wpAny_pure (wpAny_bind fin))
          | exact wpAny_bind fin
end
end BJ

/-! fields of a held exception; isinstance of any value; repr of data -/
namespace BJ
open PySem PySem.Spec PyProof.Rows L2
open PySem.W (Looks Frag findIn subIn nsIn typeIn keepIn hasDictIn clsIn specialIn takesIn mroIn kitOne kitAny InstAt)

/-- what is asked of an exception's class to read it -/
structure ErrR (K : Frag) (C : Addr) : Prop where
  cl : (clsIn K C).isSome = true
  ga : findIn K (.ref C) "__getattribute__" = some (some (.builtin "BaseException.__getattribute__"))
  gg : findIn K (.ref C) "__getattr__" = some none
  ex : subIn K (.ref C) (.type "BaseException") = some true
  cc : findIn K (.ref C) "__class__" = some (some (.builtin "object.__class__"))
  cg : specialIn K (.builtin "object.__class__") "__get__" = some (some (.builtin "getset_descriptor.__get__"))
  ct : takesIn K (.builtin "object.__class__") = some true
  mo : mroIn K C (.type "object") = some true
  hd : hasDictIn K C = true
/-- at a the exception, its dict at d -/
def ExcAt (H : Hp) (a C d : Addr) (fs : List (Str × V)) : Prop := H a = some (ExcK a (.ref C) (some d)) ∧ H d = some (.xd fs)
section
variable {X : Cx} {pins : List (Addr × Obj)} {σ : L2.St} {H : Hp} {s : Shared}
theorem ExcAt.inst {a C d : Addr} {fs : List (Str × V)} (I : Inv X pins σ H s) (x : ExcAt H a C d fs) : ∃ (oe od : Obj) (mA : Str → Option Value), InstAt s.heap a oe C (some od) ∧ s.heap.Ns1 d mA ∧ s.heap.get? d = some od ∧ ∀ f, RelO (fs.lookup f) (mA f) := by
  obtain ⟨oe, vs, he, hz, hd⟩ := excK_at I.hok x.1
  obtain ⟨mA, hns, hr⟩ := (show ObjOk X.prog X.w H s.heap d (.xd fs) from I.hok d _ x.2)
  obtain ⟨od, es, ep, ho, r⟩ := id hns
  exact ⟨oe, od, mA, ⟨he, hz.1, by unfold PySem.W.notCls; rw [hd], by rw [hz.2]; exact ho⟩, hns, ho, hr⟩

/-- e.f of a held exception -/
def tExf (K : Frag) (te : TE) (f : Str) : TE := fun σ H Q => te σ H fun x H1 => ∃ (a C d : Addr) (fs : List (Str × V)) (v : V), x = .ref a ∧ ExcAt H1 a C d fs ∧ ErrR K C ∧ findIn K (.ref C) f = some none ∧ fs.lookup f = some v ∧ Q v H1
theorem pe_exf {e : Expr} {te : TE} {f : Str} {pos : Pos} (he : PE X e te) (hb : attributeBase e f X.env (eval e X.env) = eval e X.env := by rfl) : PE X (.Attribute e f pos) (tExf X.K te f) where
  run := by
    intro pins s σ H Q I h
    refine attr_of hb (thn (he.run pins s σ H _ I h) ?_)
    rintro u s1 ⟨x, H1, I1, rx, a, C, d, fs, v, rfl, hat, R, nf, hl, q⟩
    obtain rfl : u = Value.ref a := rx
    obtain ⟨oe, od, mA, J, hns, hod, hr⟩ := hat.inst I1
    obtain ⟨od', ho, hlk⟩ := lookIn_ns hns
    rw [hod] at ho
    cases ho
    obtain ⟨u, hu, ru⟩ := RelO.some_of (v := v) (o := mA f) (by rw [← hl]; exact hr f)
    exact HandSPX.exc_get I1.kIn J R.ga R.gg R.ex (PySem.W.findObj_own R.hd nf rfl (by rw [hlk, hu])) (handed_of ru) ⟨v, H1, I1.tok _, ru, q⟩

/-! ### isinstance -/
inductive TyG (K : Frag) (H : Hp) : V → Value → Prop where
  | ty {x : V} {t : Value} (h : TyX K H x t) : TyG K H x t
  | exc {a C d : Addr} {fs : List (Str × V)} (h : ExcAt H a C d fs) (R : ErrR K C) : TyG K H (.ref a) (.ref C)
theorem kit_ofG {x : V} {u t : Value} (I : Inv X pins σ H s) (rx : RelV x u) (ty : TyG X.K H x t) : ∃ P : Heap → Prop, PySem.W.KitX X.K u t P ∧ P s.heap ∧ u ≠ .builtin "__main__.__loader__#opaque" := by
  cases ty with
  | ty h => exact kit_of I rx h
  | exc h R =>
    cases (show u = Value.ref _ from rx)
    obtain ⟨oe, od, mA, J, _, _, _⟩ := h.inst I
    exact ⟨_, PySem.W.kitx_exc R.cl R.ga R.gg R.ex R.cc R.cg R.ct R.mo, J, fun z => nomatch z⟩
def rIsG (K : Frag) : List V → Hp → VK → Prop := fun xs H Q => ∃ (x c : V) (t u : Value) (b : Bool), xs = [x, c] ∧ ClsV c u ∧ TyG K H x t ∧ kitOne K t u = some b ∧ Q (.bl b) H
def rIsGT (K : Frag) : List V → Hp → VK → Prop := fun xs H Q => ∃ (x : V) (tp : Addr) (cs : List V) (t : Value) (us : List Value) (b : Bool), xs = [x, .ref tp] ∧ H tp = some (.tup cs) ∧ Paired ClsV cs us ∧ TyG K H x t ∧ kitAny K t us = some b ∧ Q (.bl b) H
theorem call_isG : CallR X (.builtin "isinstance") (rIsG X.K) := by
  rintro pins s σ H xs us Q I r ⟨x, c, t, u, b, rfl, k, ty, e, q⟩
  obtain ⟨u1, u2, rfl, r1, r2⟩ := vals2 r
  obtain rfl := k.eq r2
  obtain ⟨P, Z, p, hx⟩ := kit_ofG I r1 ty
  exact PySem.W.kia_one Z I.kIn p e hx fun tk => ⟨.bl b, H, I.tok tk, rfl, q⟩
theorem call_isGT : CallR X (.builtin "isinstance") (rIsGT X.K) := by
  rintro pins s σ H xs us Q I r ⟨x, tp, cs, t, ws, b, rfl, hT, k, ty, e, q⟩
  obtain ⟨u1, u2, rfl, r1, r2⟩ := vals2 r
  cases (show u2 = Value.ref tp from r2)
  obtain ⟨P, Z, p, hx⟩ := kit_ofG I r1 ty
  obtain ⟨_, its, rv, ⟨oc, od, dt, sl⟩, h1, h2, n, h3⟩ := (show ObjOk X.prog X.w H s.heap tp (.tup cs) from I.hok tp _ hT)
  obtain rfl := ClsV.all k rv
  simp only at h2 h3
  subst h2 h3
  exact PySem.W.kia_tup Z I.kIn p h1 e hx fun tk => ⟨.bl b, H, I.tok tk, rfl, q⟩

/-! ### repr -/
/-- repr(x) of data -/
def rRepr (K : Frag) : List V → Hp → VK → Prop := fun xs H Q => ∃ (x : V) (d : PyData), xs = [x] ∧ Dp K H x d ∧ d.showable = true ∧ d.hasDict = false ∧ d.depth ≤ 40 ∧ d.shown.length ≤ sizeLine ∧ Q (.str d.shown) H
theorem call_repr {k : Nat} (hr : Room k X.A) (hG : X.A.guards = some []) : CallR X (.builtin "repr") (rRepr X.K) := by
  rintro pins s σ H xs us Q I r ⟨x, d, rfl, hd, hs, hnd, hdep, hsz, q⟩
  obtain ⟨u, rfl, r1⟩ := vals1 r
  obtain ⟨as, hrd⟩ := Dp.reads I d x u hd r1
  have fin : ∀ (h' : Heap) (t : Tok) (tk : Nat), (∀ b o, s.heap.get? b = some o → h'.get? b = some o) → EP X pins σ Q (.str d.shown t) { s with heap := h', toks := tk } := fun h' t tk kk => ⟨.str d.shown, H, I.kept (t' := tk) kk, ⟨t, rfl⟩, q⟩
  cases hrd with
  | none => exact PySem.P.repr_of_none (by simpa [PyData.shown] using fin s.heap _ _ fun _ _ e => e)
  | bool b => exact PySem.P.repr_of_bool (by cases b <;> simpa [PyData.shown] using fin s.heap _ _ fun _ _ e => e)
  | int i t => exact PySem.P.repr_of_int (by simpa [PyData.showable] using hs) (by simpa [PyData.shown] using fin s.heap _ _ fun _ _ e => e)
  | str y t => exact PySem.P.repr_of_str (by simpa [PyData.shown] using fin s.heap _ _ fun _ _ e => e) (by simpa [PyData.shown] using hsz)
  | list h1 h2 h3 h4 =>
    exact repr_of_reads' (.list h1 h2 h3 h4) hs (by rw [hnd]; exact fun z => nomatch z) hG (by have := hr.un; omega) (fun _ _ e => e) (fun h' t tk kk => fin h' t tk kk) hsz
  | tuple h1 h2 h3 h4 =>
    exact repr_of_reads' (.tuple h1 h2 h3 h4) hs (by rw [hnd]; exact fun z => nomatch z) hG (by have := hr.un; omega) (fun _ _ e => e) (fun h' t tk kk => fin h' t tk kk) hsz
  | dict h1 h2 h3 h4 h5 => simp [PyData.hasDict] at hnd
end
end BJ

/-! text * int, (x,) * int, xs[a::k], enumerate(text) -/
namespace BJ
open PySem PySem.Spec PyProof.Rows L2
section
variable {X : Cx}
/-- the sign c, n times -/
def repS (c : Nat) (n : Nat) : Str := ⟨(List.replicate n c).toArray⟩
theorem repS_len (c n : Nat) : (repS c n).length = n := by simp [repS, Str.length]
theorem foldl_rep1 (c : Nat) : ∀ n, (List.replicate n (#[c] : Array Nat)).foldl (· ++ ·) #[] = (List.replicate n c).toArray := by
  have h : ∀ n (acc : Array Nat), (List.replicate n (#[c] : Array Nat)).foldl (· ++ ·) acc = acc ++ (List.replicate n c).toArray := by
    intro n
    induction n with
    | zero => intro acc; simp
    | succ n ih =>
      intro acc
      rw [List.replicate_succ, List.foldl_cons, ih, List.replicate_succ, Array.append_assoc]
      congr 1
      simp
  intro n
  rw [h, Array.empty_append]
/-- 'c' * n, one sign, n at least 2 -/
def rMulS : R2 := fun x y H Q => ∃ (c : Nat) (n : Nat), x = .str ⟨#[c]⟩ ∧ y = .int (n : Int) ∧ 2 ≤ n ∧ n ≤ sizeLine ∧ Q (.str (repS c n)) H
theorem op_mulS : OpR X (binaryOp .Mult) rMulS := by
  rintro pins s σ H x y v u Q I rx ry ⟨c, n, rfl, rfl, h2, hn, q⟩
  obtain ⟨t, rfl⟩ := rx
  obtain ⟨t', rfl⟩ := ry
  rw [sizeLine_eq] at hn
  have hl : (⟨#[c]⟩ : Str).length = 1 := rfl
  refine PySem.P.mul_str ?_ (fun _ _ => ?_) (fun _ _ => ?_) ?_
  · simp only [Bool.or_eq_false_iff, decide_eq_false_iff_not]
    omega
  · rw [hl]
    have : (1 : Int) ≤ (2 ^ 63 - 1) / (n : Int) := by
      apply Int.le_ediv_of_mul_le (by omega)
      omega
    omega
  · rw [hl, Nat.one_mul]
    unfold PySem.Builtin.Str.tooLong
    rw [sizeLine_eq]
    simp
    omega
  · rw [if_neg (by omega), if_neg (by rw [hl]; simp; omega)]
    have e : (List.replicate ((n : Int)).toNat (⟨#[c]⟩ : Str).cps).foldl (· ++ ·) #[] = (List.replicate n c).toArray := by
      rw [Int.toNat_natCast]
      exact foldl_rep1 c n
    rw [e]
    refine ⟨?_, ?_⟩
    · show (repS c n).length ≤ sizeLine
      rw [repS_len, sizeLine_eq]
      exact hn
    · exact ⟨V.str (repS c n), H, I.tok _, ⟨_, rfl⟩, q⟩

/-- the items of xs[lo:hi:st] -/
def pickV (xs : List V) (lo hi st : Option Int) : List V :=
  (sliceRange (sliceBounds lo hi st xs.length).1 (sliceBounds lo hi st xs.length).2.1 (sliceBounds lo hi st xs.length).2.2).filterMap (xs[·]?)
theorem vals_places {xs : List V} {us : List Value} (h : Vals xs us) : ∀ l : List Nat, Vals (l.filterMap (xs[·]?)) (l.filterMap (us[·]?))
  | [] => .nil
  | i :: l => by
    cases e : xs[i]? with
    | none =>
      rw [List.filterMap_cons_none e, List.filterMap_cons_none (h.none_of e)]
      exact vals_places h l
    | some x =>
      obtain ⟨u, hu, r⟩ := h.get e
      rw [List.filterMap_cons_some e, List.filterMap_cons_some hu]
      exact .cons r (vals_places h l)
theorem slicePick_V {xs : List V} {us : List Value} (h : Vals xs us) (lo hi st : Option Int) : Vals (pickV xs lo hi st) (slicePick us.toArray lo hi st).toList := by
  have e : (slicePick us.toArray lo hi st).toList = (sliceRange (sliceBounds lo hi st xs.length).1 (sliceBounds lo hi st xs.length).2.1 (sliceBounds lo hi st xs.length).2.2).filterMap (us[·]?) := by
    simp [slicePick, h.length]
  rw [e]
  exact vals_places h _
/-- xs[lo:hi:st] of a list: a new list -/
def tSl3 (K : PySem.W.Frag) (te : TE) (tl th ts : TO) : TE := fun σ H Q => te σ H fun x H1 => tl σ H1 fun lo H2 => th σ H2 fun hi H3 => ts σ H3 fun st H4 =>
  ∃ a xs, x = .ref a ∧ SqL K H4 a xs ∧ st ≠ some 0 ∧ (pickV xs lo hi st).length ≤ sizeLine ∧ ∀ p, H4 p = none → Q (.ref p) (upd H4 p (.lst (pickV xs lo hi st)))
theorem pe_slice3 {e st : Expr} {lo hi : Option Expr} {te : TE} {tl th ts : TO} {p2 pos : Pos} (he : PE X e te) (hl : PO X lo tl) (hu : PO X hi th) (hst : PO X (some st) ts) : PE X (.Subscript e (.Slice lo hi (some st) p2) pos) (tSl3 X.K te tl th ts) where
  run := by
    intro pins s σ H Q I h
    refine Subscript_ (thn (he.run pins s σ H _ I h) ?_)
    rintro v s1 ⟨x, H1, I1, r1, q1⟩
    refine wpAny_Slice (thn (hl.run pins s1 σ H1 _ I1 q1) ?_)
    rintro vl s2 ⟨l, H2, I2, pl, q2⟩
    refine thn (hu.run pins s2 σ H2 _ I2 q2) ?_
    rintro vu s3 ⟨u, H3, I3, pu, q3⟩
    refine thn (hst.run pins s3 σ H3 _ I3 q3) ?_
    rintro vs s4 ⟨k, H4, I4, pk, a, xs, rfl, hx, k0, hsz, q⟩
    cases r1
    have I5 : Inv X pins σ H4 { s4 with heap := s4.heap.push { cls := .type "slice", data := .fields #[vl, vu, vs] } } := I4.kept (t' := s4.toks) fun b ob q => Heap.get?_push_of_some _ q
    obtain ⟨its, r, ht, hz⟩ := I5.list hx
    have hlen := r.length
    show wpAny (model X.prog X.w) X.A (subscriptTail e (.Slice lo hi (some st) p2) (.ref a) (.ref s4.heap.objs.size)) (EP X pins σ Q) X.xe { s4 with heap := s4.heap.push { cls := .type "slice", data := .fields #[vl, vu, vs] } }
    refine tail_any (ops := _) ht.isList.typeIs slot_list_getitem.lookup (wpAny_getItem_list_slice ht.isList (Heap.IsSliceOf.new ..) pl pu pk k0 ?_ (by rw [List.size_toArray]; omega)) (by with_unfolding_all rfl)
    have rp := slicePick_V r l u k
    refine ⟨.ref _, _, I5.laid (t' := s4.toks) (o := .lst (pickV xs l u k)) (fun b ob q => Heap.get?_push_of_some _ q) (Nat.le_refl _) ?_, rfl, q _ (I5.hok.fresh (Nat.le_refl _))⟩
    exact ⟨hsz, _, 0, rp, by rw [Array.toArray_toList]; exact Heap.get?_push_size _ rfl⟩

/-! ### (x,) * n -/
def rRep1 (K : PySem.W.Frag) : R2 := fun x y H Q => ∃ (l : Addr) (n : Nat) (v : V), x = .ref l ∧ y = .int (n : Int) ∧ SqT K H l [v] ∧ 2 ≤ n ∧ n ≤ 16777216 ∧ ∀ p, H p = none → Q (.ref p) (upd H p (.tup (List.replicate n v)))
theorem flat1 {α : Type} (v : α) : ∀ n, (List.replicate n [v]).flatten = List.replicate n v
  | 0 => rfl
  | n + 1 => by rw [List.replicate_succ, List.flatten_cons, flat1 v n]; rfl
theorem vals_rep {v : V} {u : Value} (r : RelV v u) : ∀ n, Vals (List.replicate n v) (List.replicate n u)
  | 0 => .nil
  | n + 1 => .cons r (vals_rep r n)
theorem op_rep1 : OpR X (binaryOp .Mult) (rRep1 X.K) := by
  rintro pins s σ H x y v u Q I rx ry ⟨l, m, w, rfl, rfl, hT, h2, hm, q⟩
  cases rx
  obtain ⟨t, rfl⟩ := ry
  obtain ⟨its, r, ⟨⟨cls, dd, data, sl⟩, ho, hc, n, hd⟩, hs⟩ := I.tuple hT
  simp only at hc hd
  subst hc hd
  cases r with
  | cons rw' rn =>
    rename_i u1 us1
    cases rn
    have hsz0 : ([u1] : List Value).toArray.size = 1 := rfl
    have ez : (List.foldl (fun x1 x2 => x1 ++ x2) #[] (List.replicate ((m : Int)).toNat ([u1] : List Value).toArray)) = (List.replicate m u1).toArray := by
      rw [size_rep, Int.toNat_natCast, flat1]
    have c0 : (decide ((m : Int) < -(2 ^ 63)) || decide ((m : Int) ≥ 2 ^ 63)) = false := by
      simp only [Bool.or_eq_false_iff, decide_eq_false_iff_not]
      omega
    have c1 : (([u1] : List Value).toArray.isEmpty || (m : Int) == 1) = false := by
      show (false || (m : Int) == 1) = false
      rw [Bool.false_or]
      exact beq_eq_false_iff_ne.mpr (by omega)
    have c2 : (decide ((m : Int) ≤ 0) || ([u1] : List Value).toArray.isEmpty) = false := by
      show (decide ((m : Int) ≤ 0) || false) = false
      rw [Bool.or_false]
      exact decide_eq_false (by omega)
    have c3 : ¬ ((([u1] : List Value).toArray.size : Nat) : Int) * (m : Int) > (2 ^ 63 - 1) / 8 := by
      rw [hsz0]
      omega
    have c4 : Builtin.Tuple.tupleTooMany (((([u1] : List Value).toArray.size : Nat) : Int) * (m : Int)) = false := by
      rw [hsz0]
      unfold Builtin.Tuple.tupleTooMany
      rw [sizeLine_eq]
      exact decide_eq_false (by omega)
    refine wpAny_binaryOp_repeat_ref (T := "tuple") (U := "int") (by decide) ⟨_, ho, rfl⟩ (fun s' => typeIs_int s' m t) noFill_tuple_mul F.fills_int_mul F.slot_int_rmul repeat_tuple F.slot_int_index.lookup
      (call_meets F.slot_int_rmul (typeIs_int s m t) F.entry_int_rmul (F.args_int_rmul_2 _ _) (int_rmul_tuple m t l _ n dd sl)
        ⟨ho, rfl, ⟨_, ho, rfl⟩, call_meets F.slot_tuple_mul ⟨_, ho, rfl⟩ F.entry_tuple_mul (F.args_tuple_mul_2 _ _)
          (tuple_mulW l _ n dd sl m t c0 c1 c2 c3 c4 (by rw [ez, List.size_toArray, List.length_replicate, sizeLine_eq]; exact hm)) ⟨ho, ?_⟩⟩)
    rw [ez]
    have rr : Vals (List.replicate m w) (List.replicate m u1) := vals_rep rw' m
    refine ⟨.ref s.heap.objs.size, _, I.laid (t' := s.toks) (o := .tup (List.replicate m w)) (fun b ob q => Heap.get?_push_of_some _ q) (Nat.le_refl _) ?_, rfl, q _ (I.hok.fresh (Nat.le_refl _))⟩
    exact ⟨by rw [List.length_replicate, sizeLine_eq]; exact hm, _, rr, IsTup.new _ _⟩

/-! ### enumerate(text) -/
def ItEs (x : Str) : It := ⟨fun i _ => i < x.cps.size, fun i H v H' => ∃ T c, v = .ref T ∧ H T = none ∧ H' = upd H T (.tup [.int (i : Nat), .str ⟨#[c]⟩]) ∧ x.cps[i]? = some c, fun i _ => i = x.cps.size⟩
theorem turn_enumS {P : Program} {w : World} {K : PySem.W.Frag} {elts : List Expr} {kk : Nat} {tpos : Pos} (e it : Addr) (x : Str) (t : Tok) :
    Turn P w K (.Tuple elts kk tpos) (ItEs x) [e, it] e (fun i h => (∃ old, IsEnum h e it ((i : Nat) : Int) old) ∧ h.IsStrIter it (strIterType x) x t i ∧ e ≠ it) where
  mem := by simp
  obj := by
    rintro i h ⟨⟨old, he⟩, ⟨o, ho, hc, hd⟩, _⟩ b hb
    have e' : b = e ∨ b = it := by simpa using hb
    rcases e' with rfl | rfl
    · exact ⟨_, he, fun v q => nomatch q⟩
    · exact ⟨o, ho, fun v q => by rw [hd] at q; cases q⟩
  keep := by
    rintro i h h' ⟨⟨old, he⟩, ⟨o, ho, r⟩, hne⟩ k
    exact ⟨⟨old, k e (by simp) _ he⟩, ⟨o, k it (by simp) o ho, r⟩, hne⟩
  item := by
    rintro X rfl rfl rfl hc i pins s σ H E I hf ⟨⟨old, he⟩, hit, hne⟩ hg
    have hel : e < s.heap.objs.size := Heap.lt_size he
    have hil : it < s.heap.objs.size := by
      obtain ⟨_, q, _⟩ := hit
      exact Heap.lt_size q
    have D : Draws X.prog X.w X.A.in1 it [it] x.cps.size (fun i v => ∃ c u, x.cps[i]? = some c ∧ v = .str ⟨#[c]⟩ u) (fun i h => h.IsStrIter it (strIterType x) x t i) := Draws.text (A := X.A.in1) (I.ok.hd hc) it x t
    refine wpAny_pyNext_enum_itemD (i := i) D he hit hg hne (by simpa using hne) fun v h' tk hv ho hit' hT hsz hk => ?_
    obtain ⟨c, u, hcx, rfl⟩ := hv
    refine ⟨_, rfl, wpAny_letOwnedTupleGo_enum (s := { s with heap := h', toks := tk + 1 }) ho fun h'' he' sb => ?_⟩
    have hT2 : h''.get? s.heap.objs.size = some { cls := .type "tuple", data := .seq #[.int i tk, .str ⟨#[c]⟩ u] } := (sb.2 _ (Nat.ne_of_gt hel)).trans hT
    have new : ObjOk X.prog X.w (upd H s.heap.objs.size (.tup [.int (i : Nat), .str ⟨#[c]⟩])) h'' s.heap.objs.size (.tup [.int (i : Nat), .str ⟨#[c]⟩]) :=
      ⟨by show 2 ≤ sizeLine; decide, [.int i tk, .str ⟨#[c]⟩ u], .cons ⟨_, rfl⟩ (.cons ⟨_, rfl⟩ .nil), ⟨_, hT2, rfl, _, rfl⟩⟩
    have I1 : Inv X pins σ (upd H s.heap.objs.size (.tup [.int (i : Nat), .str ⟨#[c]⟩])) { s with heap := h'', toks := tk + 1 } :=
      I.turnedNew (ch := [e, it]) (fun b ob hb q => (sb.2 b (fun z => hb (by simp [z]))).trans (hk b ob (fun z => hb (by simp [z])) (fun z => hb (by simp [z])) q)) hf (Nat.le_refl _) new
    refine ⟨.ref s.heap.objs.size, _, I1, rfl, ⟨_, c, rfl, I.hok.fresh (Nat.le_refl _), rfl, hcx⟩, ⟨⟨Value.str ⟨#[c]⟩ u, ?_⟩, ?_, hne⟩, fun b hb => ?_⟩
    · have e1 : ((i + 1 : Nat) : Int) = (i : Int) + 1 := by omega
      rw [e1]
      exact he'
    · obtain ⟨o, ho', r⟩ := hit'
      exact ⟨o, (sb.2 it (Ne.symm hne)).trans ho', r⟩
    · have e' : b = e ∨ b = it := by simpa using hb
      have hb' : b < s.heap.objs.size := by
        rcases e' with rfl | rfl
        · exact hel
        · exact hil
      rw [upd_ne (Nat.ne_of_lt hb')]
      exact (hf b hb).1
  done := by
    rintro X rfl rfl rfl hc i pins s σ H E I hf ⟨⟨old, he⟩, hit, hne⟩ hg
    obtain ⟨f0, f1, f2, f3, f4, f5⟩ := hf it (by simp)
    have hie : i = x.cps.size := hg
    subst hie
    have D : Draws X.prog X.w X.A.in1 it [it] x.cps.size (fun i v => ∃ c u, x.cps[i]? = some c ∧ v = .str ⟨#[c]⟩ u) (fun i h => h.IsStrIter it (strIterType x) x t i) := Draws.text (A := X.A.in1) (I.ok.hd hc) it x t
    exact wpAny_pyNext_enum_endD D he hit fun h' eb => ⟨rfl, I.turned (t' := s.toks) (fun b o hb q => eb b o hb q) f0 f1 f3 f4 f5⟩
  self := fun A i s Q E st h => by
    obtain ⟨⟨_, he⟩, _⟩ := st
    exact wpAny_pyIter_enum he h
def iEnumS (ta : TA) : TI := fun σ H R => ta σ H fun vs H1 => ∃ x, vs = [.str x] ∧ R (ItEs x) H1
theorem pi_enumS {e : Expr} {ta : TA} {p pos tpos : Pos} {elts : List Expr} {kk : Nat} (hg : Gl X "enumerate") (hm : X.mg "enumerate" = none) (ha : PA X [e] ta) (hs : starEach [e] X.env = [(false, eval e X.env)] := by rfl) :
    PI X (.Tuple elts kk tpos) (.Call (.Name "enumerate" p) [e] [] pos) (iEnumS ta) where
  run := by
    intro pins s σ H R I h
    refine Call_ (ld_blt I hg hm boot_enumerate (PyProof.Rows.callWith_type1 (thn (ha.run pos pins s σ H _ I h) ?_) hs rfl))
    rintro us s1 ⟨vs, H1, I1, r1, x, rfl, q⟩
    obtain ⟨u, rfl, r⟩ := vals1 r1
    obtain ⟨t, rfl⟩ := r
    refine call_enumerate_str fun h' he hit hsz hk => wpAny_pyIter_enum he ?_
    have I2 : Inv X pins σ H1 { s1 with heap := h' } := I1.kept (t' := s1.toks) hk
    refine ⟨s1.heap.objs.size + 1, [s1.heap.objs.size + 1, s1.heap.objs.size], _, _, H1, rfl, I2, turn_enumS (s1.heap.objs.size + 1) s1.heap.objs.size x t, ⟨⟨.none, he⟩, hit, Nat.succ_ne_self _⟩, fun b hb => ?_, q⟩
    have hle : s1.heap.objs.size ≤ b := by
      have e' : b = s1.heap.objs.size + 1 ∨ b = s1.heap.objs.size := by simpa using hb
      rcases e' with rfl | rfl
      · exact Nat.le_add_right _ _
      · exact Nat.le_refl _
    exact I1.fpOk hle (I1.hok.fresh hle)
end
end BJ

/-! defs as they stand in the text; the laws' drawing of numbers -/
namespace BJ
open PySem PySem.Spec PyProof.Rows L2
open PySem.W (Frag)

/-- the def st stands at f; its parameters, all positional, none with a default -/
structure DefAt (K : Frag) (x qual : Str) (st : Stmt) (f : Addr) (ps : List Str) : Prop where
  fn : ∃ fd, Fun K x qual st f fd ∧ Binds K fd ps []
section
variable {P : Program} {w : World} {K : Frag} {mg : Str → Option Value} {base : Heap}
theorem DefAt.okF {x qual : Str} {st : Stmt} {f : Addr} {N ps : List Str} {k : Nat} {sp : Sp} (D : DefAt K x qual st f ps) (S : FnScope N ps (defScope st))
    (len : ∀ vs H Q E, sp vs H Q E → vs.length = ps.length)
    (hbody : ∀ (cdv : Value) (A : Around) (outer : List Env) (s : Shared) (H : Hp) (vs : List V) (Q : VK) (E : XK),
      Room k (A.deeper (envOfC qual (defScope st) s.heap.objs.size f cdv)) → A.guards = some [] → sp vs H Q E →
      ∃ t, PSs (cxOf (L2.CX P w) P w K mg base N qual (defScope st) f cdv A outer s H E) (defBody st) t ∧ t { nx := fun _ H' => Q .non H', rt := Q } (start N vs) H) :
    ∃ fd, FnG P w K mg base (k + 1) f fd ps sp ∧ Binds K fd ps [] ∧ Fun K x qual st f fd := by
  obtain ⟨fd, F, hb⟩ := D.fn
  refine ⟨fd, ?_, hb, F⟩
  obtain ⟨oc, od, kV, doc, pm, an, cdv, ct, osl, rfl, lk, hcd⟩ := F.ex
  exact fnG_of lk hcd S len fun A outer s H vs Q E hr hg hsp => hbody cdv A outer s H vs Q E hr hg hsp
theorem DefAt.ok {x qual : Str} {st : Stmt} {f : Addr} {N ps : List Str} {k : Nat} {sp : Sp} (D : DefAt K x qual st f ps) (S : FnScope N ps (defScope st))
    (len : ∀ vs H Q E, sp vs H Q E → vs.length = ps.length)
    (hbody : ∀ (cdv : Value) (A : Around) (outer : List Env) (s : Shared) (H : Hp) (vs : List V) (Q : VK) (E : XK),
      Room k (A.deeper (envOfC qual (defScope st) s.heap.objs.size f cdv)) → A.guards = some [] → sp vs H Q E →
      ∃ t, PSs (cxOf (L2.CX P w) P w K mg base N qual (defScope st) f cdv A outer s H E) (defBody st) t ∧ t { nx := fun _ H' => Q .non H', rt := Q } (start N vs) H) :
    CallP P w K mg base (k + 1) (.ref f) sp := by
  obtain ⟨fd, F, hb, _⟩ := D.okF S len hbody
  have q := F.callP (dvs := []) hb .nil
  rintro A outer s H us ws vs zs Q E room hg e0 rel relz ⟨hz, prom⟩
  exact q A outer s H us ws vs zs Q E room hg e0 rel relz ⟨hz, show sp (vs ++ []) H Q E by rw [List.append_nil]; exact prom⟩
end

section
variable {X : Cx}
/-- a list by its very object, to be read: tracked or frozen, or one of the written part as it was made -/
def Scr (K : Frag) (H : Hp) (a : Addr) (xs : List V) : Prop :=
  Rd H a (.lst xs) ∨ ∃ (its : List Value) (n : Nat), K.lookup a = some { cls := .type "list", data := .seq its.toArray n } ∧ Vals xs its ∧ xs.length ≤ sizeLine
theorem Scr.sq {K : Frag} {H : Hp} {a : Addr} {xs : List V} (h : Scr K H a xs) : SqL K H a xs := by
  rcases h with h | ⟨its, n, hk, r, hz⟩
  · exact .inl h
  · exact .inr ⟨_, its.toArray, n, hk, rfl, rfl, rfl, by rw [List.size_toArray, ← r.length]; exact hz, r⟩
theorem Scr.at {pins : List (Addr × Obj)} {σ : L2.St} {H : Hp} {s : Shared} {a : Addr} {xs : List V} (I : Inv X pins σ H s) (h : Scr X.K H a xs) :
    ∃ (its : List Value) (n : Nat), Vals xs its ∧ IsL s.heap a its.toArray n ∧ xs.length ≤ sizeLine := by
  rcases h with h | ⟨its, n, hk, r, hz⟩
  · obtain ⟨z, its, n, r, e⟩ := h.ok I.hok
    exact ⟨its, n, r, e, z⟩
  · exact ⟨its, n, r, I.kIn _ _ hk, hz⟩
/-- xs + ys, both lists that may be read only -/
def rCatS (K : Frag) : R2 := fun x y H Q => ∃ l b xs zs, x = .ref l ∧ y = .ref b ∧ Scr K H l xs ∧ Scr K H b zs ∧ xs.length + zs.length ≤ sizeLine ∧ ∀ p, H p = none → Q (.ref p) (upd H p (.lst (xs ++ zs)))
theorem op_catS : OpR X (binaryOp .Add) (rCatS X.K) := by
  rintro pins s σ H x y v u Q I rx ry ⟨l, b, xs, zs, rfl, rfl, hH, hB, hz, q⟩
  cases rx
  cases ry
  obtain ⟨its, n, r, e, hl⟩ := hH.at I
  obtain ⟨its2, n2, r2, e2, hl2⟩ := hB.at I
  have q1 := r.length
  have q2 := r2.length
  refine PySem.P.add_list e e2 ?_ (by rw [List.size_toArray, List.size_toArray]; omega)
  rw [show its.toArray ++ its2.toArray = (its ++ its2).toArray from by simp]
  exact ⟨.ref _, _, I.lnew (t' := s.toks) (r.append r2) (by rw [List.length_append]; omega), rfl, q _ I.fresh⟩
end

/-! ### the law's call -/
/-- nothing is tracked but the script, frozen -/
theorem lawG {P : Program} {w : World} {K : Frag} {mg mb : Str → Option Value} {k : Nat} {fa a : Addr} {sp : Sp} {s₁ : Shared} {vs : List Value} {ns : List Int}
    (KX : K.In s₁.heap) (hns : s₁.heap.Ns mainGlobals mg) (hb : s₁.heap.Ns builtinsNs mb) (hbb : ∀ x : Str, x ≠ "__name__" → mb x = bootBuiltins x) (hlim : s₁.heap.NoLimit) (hg : s₁.gens = #[])
    (ha : s₁.heap.get? a = some { cls := .type "list", data := .seq vs.toArray }) (hi : IntsAre vs ns) (hl : ns.length ≤ sizeLine) (hr : Room k callerA)
    (F : ∀ base : Heap, K.In base → base.Ns mainGlobals mg → CallP P w K mg base k (.ref fa) sp)
    (hsp : ∀ H : Hp, Scr K H a (ns.map V.int) → sp [.ref a] H (fun v _ => v = .bl true) fun _ _ _ => False) :
    codeAny (model P w) callerA (.call (.ref fa) ⟨[.ref a], []⟩) (fun r s' => r = .ok (.ret (.bool true)) ∧ OldK s₁.heap s'.heap ∧ s'.os = s₁.os ∧ AllBare s'.gens) s₁ := by
  have rv := vals_ints hi
  have lenV := hi.length
  -- the abstract heap: the script alone, or nothing where the script is an object of the top
  have core : ∀ H : Hp, (∀ b u, H b = some u → b = a ∧ K.lookup a = none ∧ ∃ o xs, u = .frz o (.lst xs)) → HOk P w H s₁.heap → Scr K H a (ns.map V.int) →
      codeAny (model P w) callerA (.call (.ref fa) ⟨[.ref a], []⟩) (fun r s' => r = .ok (.ret (.bool true)) ∧ OldK s₁.heap s'.heap ∧ s'.os = s₁.os ∧ AllBare s'.gens) s₁ := by
    intro H hA hok hS
    have keepB : ∀ {b : Addr} {o : Obj}, s₁.heap.get? b = some o → H b = none → (hidT s₁.heap H).get? b = some o := fun e n => hidT_get e n
    have nsK : ∀ {b : Addr} {m : Str → Option Value}, s₁.heap.Ns b m → (hidT s₁.heap H).Ns b m := by
      rintro b m ⟨o, es, ep, e, d, r⟩
      refine ⟨o, es, ep, keepB e ?_, d, r⟩
      cases q : H b with
      | none => rfl
      | some u =>
        obtain ⟨rfl, _, _⟩ := hA b u q
        rw [ha] at e
        cases e
        cases d
    have kin : K.In (hidT s₁.heap H) := by
      intro b o e
      refine keepB (KX b o e) ?_
      cases q : H b with
      | none => rfl
      | some u =>
        obtain ⟨rfl, z, _⟩ := hA b u q
        rw [z] at e
        cases e
    obtain ⟨mc, l1, l2⟩ := id hlim
    have md : Mod K mg (hidT s₁.heap H) := ⟨kin, nsK hns, ⟨mb, nsK hb, hbb⟩, ⟨mc, nsK l1, l2⟩⟩
    have e0 : Env0 P w K mg (hidT s₁.heap H) callerA [] s₁ H :=
      ⟨rfl, md, fun b o e => of_hidT e, Nat.le_of_eq (hidT_size _ _), trivial, (fun b hb => absurd (show b ∈ ([] : List Addr) from hb) (by simp)), hok, AllBare.of_eq hg⟩
    refine codeAny_mono (F _ kin (nsK hns) callerA [] s₁ H [.ref a] [] [.ref a] [] _ _ hr rfl e0 (.cons rfl .nil) .nil ⟨rfl, hsp H hS⟩) ?_
    intro r s' h
    match r, h with
    | .error e, ⟨_, _, _, _, _, _, _, _, _, _, _, _, z⟩ => exact z.elim
    | .ok (.ret u), ⟨v, H', os, bare, un, hok', r', q⟩ =>
      obtain rfl : v = .bl true := q
      obtain rfl : u = Value.bool true := r'
      refine ⟨rfl, OldK.of_keep fun b o e => ?_, os, bare⟩
      cases q : H b with
      | none => exact un.keep b o e q (fun z => nomatch (show b ∈ ([] : List Addr) from z)) (fun z => nomatch z)
      | some u =>
        obtain ⟨_, _, ob, xs, rfl⟩ := hA b u q
        have e1 := (hok b _ q).1
        have e2 := (hok' b _ (un.frzs b ob _ q)).1
        rw [e] at e1
        cases e1
        exact e2
  cases hk : K.lookup a with
  | some o =>
    have e := KX a o hk
    rw [ha] at e
    cases e
    exact core (fun _ => none) (fun b u z => nomatch z) (fun b u z => nomatch z) (.inr ⟨vs, 0, hk, rv, by rw [List.length_map]; exact hl⟩)
  | none =>
    refine core (fun b => if b = a then some (.frz { cls := .type "list", data := .seq vs.toArray } (.lst (ns.map V.int))) else none) (fun b u z => ?_) (fun b u z => ?_) (.inl (.inr ⟨_, if_pos rfl⟩))
    · by_cases h : b = a
      · have q := (if_pos h).symm.trans z
        cases q
        exact ⟨h, hk, _, _, rfl⟩
      · exact nomatch (if_neg h).symm.trans z
    · by_cases h : b = a
      · have q := (if_pos h).symm.trans z
        cases q
        subst h
        exact ⟨ha, by rw [List.length_map]; exact hl, vs, _, rv, ha⟩
      · exact nomatch (if_neg h).symm.trans z
open PySem.W in
/-- what k_head leaves of a law, from the law's promise -/
theorem walkG {l : OpenLaw} {n k : Nat} {q : Program} {loose : List Str} {XP : (Str → Option Value) → Heap → Prop} {YP : World → Heap → Prop} {d : DefRec} {K : Params → Frag} {sp : World → Sp}
    (hn : l.most = some n) (hn2 : n ≤ sizeLine) (hdf : d.params.defaults = []) (hr : Room k callerA) (hY : ∀ (w : World) (h : Heap), YP w h → (K w.params).In h)
    (F : ∀ (w : World) (mg : Str → Option Value) (fa : Addr) (h : Heap), (K w.params).In h → h.Ns mainGlobals mg → mg d.name = some (.ref fa) →
      ∀ base : Heap, (K w.params).In base → base.Ns mainGlobals mg → CallP l.prog w (K w.params) mg base k (.ref fa) (sp w))
    (hsp : ∀ (w : World) (H : Hp) (a : Addr) (ns : List Int), ns.length ≤ n → (∀ z ∈ ns, Builtin.Int.intBits z ≤ 1048576) → Scr (K w.params) H a (ns.map V.int) → sp w [.ref a] H (fun v _ => v = .bl true) fun _ _ _ => False) :
    WalkO q loose XP YP l.row.toRowW d [] (fun f vs => PySem.call f vs) := by
  refine Att.attach_callB hn hdf fun w s₀ s₁ mg mb fa o pm cd doc a vs ns G Y ho hd hcd hmg hobj hints hlen hbits hg => ?_
  have KX := hY w _ Y
  exact lawG KX G.T.g G.T.b G.T.builtins G.T.nolimit hg hobj hints (Nat.le_trans hlen hn2) hr (F w mg fa _ KX G.T.g hmg) fun H hS => hsp w H a ns hlen hbits hS
end BJ

/-! the laws' drawing of numbers: what its dict is, what a draw promises -/
namespace BJ
open PySem PySem.Spec PyProof.Rows L2
open PySem.W (Frag)

theorem upd_keep {H : Hp} {a p : Addr} {o u : HO} (h : H a = some u) (np : H p = none) : upd H p o a = some u := by rw [upd_ne (ne_of_none h np)]; exact h
theorem same_upd {H : Hp} {p : Addr} {o : HO} (np : H p = none) : Same H (upd H p o) := fun _ _ e => upd_keep e np
theorem Same.trans' {H H1 H2 : Hp} (a : Same H H1) (b : Same H1 H2) : Same H H2 := fun p o e => b p o (a p o e)
theorem Same.rfl' {H : Hp} : Same H H := fun _ _ e => e

theorem ifd {p : Prop} [Decidable p] {A B : Prop} (h1 : p → A) (h2 : ¬ p → B) : if decide p = true then A else B := by
  by_cases h : p
  · rw [if_pos (decide_eq_true h)]
    exact h1 h
  · rw [if_neg (by simpa using h)]
    exact h2 h
theorem ifb {b : Bool} {A B : Prop} (h1 : b = true → A) (h2 : b = false → B) : if b = true then A else B := by
  cases b with
  | true => exact h1 rfl
  | false => exact h2 rfl
def drw (c : Addr) (a l u : Int) : List (Key × V) := [(.inr "cells", .ref c), (.inr "at", .int a), (.inr "left", .int l), (.inr "used", .int u)]
section
variable {c : Addr} {a l u i : Int} {v : V}
theorem drw_cells : valV (drw c a l u) (Sum.inr "cells") = some (.ref c) := by simp [drw, valV]
theorem drw_at : valV (drw c a l u) (Sum.inr "at") = some (.int a) := by
  have h1 : ¬ (("cells" : Str) = "at") := by decide
  simp [drw, valV, List.find?, h1]
theorem drw_left : valV (drw c a l u) (Sum.inr "left") = some (.int l) := by
  have h1 : ¬ (("cells" : Str) = "left") := by decide
  have h2 : ¬ (("at" : Str) = "left") := by decide
  simp [drw, valV, List.find?, h1, h2]
theorem drw_used : valV (drw c a l u) (Sum.inr "used") = some (.int u) := by
  have h1 : ¬ (("cells" : Str) = "used") := by decide
  have h2 : ¬ (("at" : Str) = "used") := by decide
  have h3 : ¬ (("left" : Str) = "used") := by decide
  simp [drw, valV, List.find?, h1, h2, h3]
theorem drw_put_at : putK (drw c a l u) (Sum.inr "at") (.int i) = drw c i l u := by
  have h1 : ¬ (("cells" : Str) = "at") := by decide
  have h2 : ¬ (("left" : Str) = "at") := by decide
  have h3 : ¬ (("used" : Str) = "at") := by decide
  simp [drw, putK, h1, h2, h3]
theorem drw_put_left : putK (drw c a l u) (Sum.inr "left") (.int i) = drw c a i u := by
  have h1 : ¬ (("cells" : Str) = "left") := by decide
  have h2 : ¬ (("at" : Str) = "left") := by decide
  have h3 : ¬ (("used" : Str) = "left") := by decide
  simp [drw, putK, h1, h2, h3]
theorem drw_put_used : putK (drw c a l u) (Sum.inr "used") (.int i) = drw c a l i := by
  have h1 : ¬ (("cells" : Str) = "used") := by decide
  have h2 : ¬ (("at" : Str) = "used") := by decide
  have h3 : ¬ (("left" : Str) = "used") := by decide
  simp [drw, putK, h1, h2, h3]
theorem drw_len : (drw c a l u).length = 4 := rfl
end
/-- the dict of the draws at d, its cells at c; at most n draws were made -/
structure Dr (H : Hp) (d c : Addr) (cells : List Int) (n : Nat) : Prop where
  dict : ∃ a l u, H d = some (.dK (drw c a l u)) ∧ 0 ≤ a ∧ a ≤ (n : Int) ∧ 0 ≤ u ∧ u ≤ (n : Int) ∧ 0 ≤ l
  list : H c = some (.lst (cells.map V.int))
  ne : cells ≠ []
  len : cells.length ≤ 64
theorem Dr.dc {H : Hp} {d c : Addr} {cells : List Int} {n : Nat} (D : Dr H d c cells n) : d ≠ c := by
  obtain ⟨a, l, u, h, _⟩ := D.dict
  exact ne_of h D.list (fun z => nomatch z)
theorem Dr.mono {H : Hp} {d c : Addr} {cells : List Int} {n m : Nat} (D : Dr H d c cells n) (h : n ≤ m) : Dr H d c cells m := by
  obtain ⟨⟨a, l, u, h1, h2, h3, h4, h5, h6⟩, hl, hn, hz⟩ := D
  exact ⟨⟨a, l, u, h1, h2, by omega, h4, by omega, h6⟩, hl, hn, hz⟩
theorem Dr.same {H H' : Hp} {d c : Addr} {cells : List Int} {n : Nat} (D : Dr H d c cells n) (s : Same H H') : Dr H' d c cells n := by
  obtain ⟨⟨a, l, u, h1, h2⟩, hl, hn, hz⟩ := D
  exact ⟨⟨a, l, u, s _ _ h1, h2⟩, s _ _ hl, hn, hz⟩
/-- all stands but at d -/
def But (d : Addr) (H H' : Hp) : Prop := ∀ p, p ≠ d → H' p = H p
theorem But.trans {d : Addr} {H H1 H2 : Hp} (a : But d H H1) (b : But d H1 H2) : But d H H2 := fun p h => (b p h).trans (a p h)
theorem But.rfl {d : Addr} {H : Hp} : But d H H := fun _ _ => Eq.refl _
theorem But.upd {d : Addr} {H : Hp} {o : HO} : But d H (upd H d o) := fun _ h => upd_ne h
/-- old things stand but d (new things may have come) -/
def SameBut (d : Addr) (H H' : Hp) : Prop := ∀ p o, p ≠ d → H p = some o → H' p = some o
theorem SameBut.rfl {d : Addr} {H : Hp} : SameBut d H H := fun _ _ _ e => e
theorem SameBut.trans {d : Addr} {H H1 H2 : Hp} (a : SameBut d H H1) (b : SameBut d H1 H2) : SameBut d H H2 := fun p o h e => b p o h (a p o h e)
theorem SameBut.of {d : Addr} {H H' : Hp} (s : Same H H') : SameBut d H H' := fun p o _ e => s p o e
theorem But.sb {d : Addr} {H H' : Hp} (b : But d H H') : SameBut d H H' := fun p o h e => (b p h).trans e

theorem dg {H : Hp} {d : Addr} {kvs : List (Key × V)} {k : Key} {v : V} (h : H d = some (.dK kvs)) (e : valV kvs k = some v) : DGet H d (kV k) (some v) := by
  rw [← e]
  exact DGet.k h
theorem dp {H : Hp} {d : Addr} {kvs kvs' : List (Key × V)} {k : Key} {v : V} (h : H d = some (.dK kvs)) (e : putK kvs k v = kvs') (hl : kvs.length < 1000) : DPut H d (kV k) v (upd H d (.dK kvs')) := by
  rw [← e]
  exact DPut.k h (Nat.lt_of_lt_of_le hl (by decide))
theorem fm {i b : Int} (h : 0 < b) : 0 ≤ i.fmod b ∧ i.fmod b < b := by
  rw [Int.fmod_eq_emod_of_nonneg i (by omega)]
  exact ⟨Int.emod_nonneg _ (by omega), Int.emod_lt_of_pos _ h⟩
theorem fd {i b : Int} (h : 0 < b) (hi : 0 ≤ i) : 0 ≤ i.fdiv b := by
  rw [Int.fdiv_eq_ediv_of_nonneg i (by omega)]
  exact Int.ediv_nonneg hi (by omega)
theorem Dr_up {H : Hp} {d c : Addr} {cells : List Int} {n : Nat} (D : Dr H d c cells n) {a l u : Int} (h1 : 0 ≤ a) (h2 : a ≤ (n : Int) + 1) (h3 : 0 ≤ u) (h4 : u ≤ (n : Int) + 1) (h5 : 0 ≤ l) : Dr (upd H d (.dK (drw c a l u))) d c cells (n + 1) :=
  ⟨⟨a, l, u, upd_same, h1, by omega, h3, by omega, h5⟩, by rw [upd_ne D.dc.symm]; exact D.list, D.ne, D.len⟩
def spBegin (K : Frag) : Sp := fun vs H Q _ => ∃ (a : Addr) (ns : List Int), vs = [.ref a] ∧ Scr K H a (ns.map V.int) ∧ ns.length ≤ 63 ∧ ∀ d c H', Same H H' → H d = none → H c = none → Dr H' d c (ns ++ [0]) 0 → Q (.ref d) H'
def spMixed : Sp := fun vs H Q _ => ∃ (cell k : Int), vs = [.int cell, .int k] ∧ 0 ≤ k ∧ k ≤ 1000000000 ∧ ∀ r, 0 ≤ r → Q (.int r) H
def spNext : Sp := fun vs H Q _ => ∃ (d c : Addr) (cells : List Int) (n : Nat) (b : Int), vs = [.ref d, .int b] ∧ Dr H d c cells n ∧ n < 1000000000 ∧ 0 < b ∧ b < 1073741824 ∧
  ∀ r H', 0 ≤ r → r < b → Dr H' d c cells (n + 1) → But d H H' → Q (.int r) H'
end BJ

/-! what evaluates (on Evl): calls, comprehensions by walks; types of values; data with {} -/
namespace BJ
open PySem PySem.Spec PyProof.Rows L2 Evl
open PySem.W (Frag kitOne kitAny)

section
variable {σ : L2.St} {H : Hp} {z : V}
/-- a def's promise gives the value z -/
def SpE (sp : Sp) (vs : List V) (H : Hp) (z : V) : Prop := ∀ H1, Ex H H1 → ∀ (Q : VK) (E : XK), (∀ H2, Ex H1 H2 → Q z H2) → sp vs H1 Q E
theorem ev_ca {sp : Sp} {W : WX} {t : TA} {vs : List V} (h : EvA t σ H vs) (hs : SpE sp vs H z) : Ev (tCa sp W t) σ H z := fun H1 e Q q =>
  h H1 e _ fun H2 e2 => hs H2 (e.trans e2) Q _ fun H3 e3 => q H3 (e2.trans e3)
theorem et_yes : EvT tYes σ H true := fun H1 _ _ q => q H1 (Ex.refl H1)

theorem given_len' (n : Nat) (f : Nat → Bool) (v : Nat → V) : (given n f v).length ≤ n := given_len n f v
theorem cw_turn' {t : TT} {te : TE} {H H' : Hp} {f : Nat → Bool} {v : Nat → V} {Dl : Addr} {i : Nat} {σ2 : L2.St} (p : Cw H f v Dl i H') (hi : i < 1000000) (ht : EvT t σ2 H (f i)) (he : f i = true → Ev te σ2 H (v i)) :
    t σ2 H' fun b H3 => if b = true then te σ2 H3 fun y H4 => ∃ acc, H4 Dl = some (.lst acc) ∧ acc.length < sizeLine ∧ Cw H f v Dl (i + 1) (upd H4 Dl (.lst (acc ++ [y]))) else Cw H f v Dl (i + 1) H3 := by
  obtain ⟨p1, p2, p3⟩ := p
  refine ht H' p2 _ fun H3 e3 => ?_
  cases hf : f i with
  | true =>
    show te σ2 H3 fun y H4 => ∃ acc, H4 Dl = some (.lst acc) ∧ acc.length < sizeLine ∧ Cw H f v Dl (i + 1) (upd H4 Dl (.lst (acc ++ [y])))
    refine he hf H3 (p2.trans e3) _ fun H4 e4 => ⟨given i f v, e4 Dl _ (e3 Dl _ p3), (by have := given_len i f v; rw [sizeLine_eq]; omega), p1, Ex.mut ((p2.trans e3).trans e4) p1, ?_⟩
    rw [given_yes hf]
    exact upd_same
  | false =>
    show Cw H f v Dl (i + 1) H3
    refine ⟨p1, p2.trans e3, ?_⟩
    rw [given_no hf]
    exact e3 Dl _ p3
/-- a comprehension over a walk; the turn may lay objects, changes none -/
theorem lc_ev {J : It} {n : Nat} {G : Hp → Prop} {Y : Nat → Hp → V → Hp → Prop} (w : Walk J n G Y) {g : TG} {tt : TT} {te : TE} {vs : List Nat} {H1 : Hp} {Q : VK} (f : Nat → Bool) (v : Nat → V) (hn : n ≤ 1000000)
    (hG : ∀ H, Ex H1 H → G H)
    (hs : ∀ i x H2 H3, i < n → Ex H1 H2 → Y i H2 x H3 → ∃ σ2, wipe σ2 vs = wipe σ vs ∧ Ex H2 H3 ∧ (∀ Q : L2.St → Hp → Prop, Q σ2 H3 → g x (wipe σ vs) H3 Q) ∧ EvT tt σ2 H1 (f i) ∧ (f i = true → Ev te σ2 H1 (v i)))
    (k : ∀ D H', H1 D = none → Ex H1 H' → H' D = some (.lst (given n f v)) → Q (.ref D) H') :
    ∀ D, H1 D = none → ∃ W : Nat → Nat → Hp → Prop, (∃ m, W 0 m (upd H1 D (.lst []))) ∧ ∀ i m H, W i m H →
      (J.stop i H ∧ Q (.ref D) H) ∨ (J.go i H ∧ ∃ Nx : Hp → Prop, (∀ H', Nx H' → ∃ m', m' < m ∧ W (i + 1) m' H') ∧ ∀ x H', J.yld i H x H' → g x (wipe σ vs) H' fun σ2 H2 => wipe σ2 vs = wipe σ vs ∧ tt σ2 H2 fun b H3 =>
        if b = true then te σ2 H3 fun y H4 => ∃ acc, H4 D = some (.lst acc) ∧ acc.length < sizeLine ∧ Nx (upd H4 D (.lst (acc ++ [y]))) else Nx H3) := fun D hD =>
  lc_it w (Cw H1 f v D) ⟨hD, Ex.new hD, upd_same⟩ (fun i H _ p => hG H p.2.1) (fun i x H2 H3 hi p y => by
    obtain ⟨σ2, hw, e3, hg, ht, he⟩ := hs i x H2 H3 hi p.2.1 y
    exact hg _ ⟨hw, cw_turn' ⟨p.1, p.2.1.trans e3, e3 D _ p.2.2⟩ (by omega) ht he⟩) fun H' p => k D H' p.1 p.2.1 p.2.2
theorem given_map {α : Type} (xs : List α) (d : α) (f : α → Bool) (F : α → V) : given xs.length (fun i => f (xs.getD i d)) (fun i => F (xs.getD i d)) = (xs.filter f).map F := by
  unfold given
  have h : (List.range xs.length).map (fun i => xs.getD i d) = xs := by
    apply List.ext_getElem
    · simp
    · intro i h1 h2
      simp [List.getD, List.getElem?_eq_getElem h2]
  have e : ((List.range xs.length).filter (fun i => f (xs.getD i d))).map (fun i => xs.getD i d) = xs.filter f := by
    conv => rhs; rw [← h]
    rw [List.filter_map]
    rfl
  rw [← e, List.map_map]
  rfl
/-- .. its target a name, the items those of xs -/
theorem lc_at {J : It} {xs : List V} {G : Hp → Prop} (w : Walk J xs.length G (YAt xs)) {j : Nat} {tt : TT} {te : TE} {vs : List Nat} {H1 : Hp} {Q : VK} (f : V → Bool) (F : V → V) (hn : xs.length ≤ 1000000)
    (hG : ∀ H, Ex H1 H → G H) (hw : ∀ x, wipe ((wipe σ vs).set j (some x)) vs = wipe σ vs)
    (ht : ∀ x ∈ xs, EvT tt ((wipe σ vs).set j (some x)) H1 (f x)) (he : ∀ x ∈ xs, f x = true → Ev te ((wipe σ vs).set j (some x)) H1 (F x))
    (k : ∀ D H', H1 D = none → Ex H1 H' → H' D = some (.lst ((xs.filter f).map F)) → Q (.ref D) H') :
    ∀ D, H1 D = none → ∃ W : Nat → Nat → Hp → Prop, (∃ m, W 0 m (upd H1 D (.lst []))) ∧ ∀ i m H, W i m H →
      (J.stop i H ∧ Q (.ref D) H) ∨ (J.go i H ∧ ∃ Nx : Hp → Prop, (∀ H', Nx H' → ∃ m', m' < m ∧ W (i + 1) m' H') ∧ ∀ x H', J.yld i H x H' → gName j x (wipe σ vs) H' fun σ2 H2 => wipe σ2 vs = wipe σ vs ∧ tt σ2 H2 fun b H3 =>
        if b = true then te σ2 H3 fun y H4 => ∃ acc, H4 D = some (.lst acc) ∧ acc.length < sizeLine ∧ Nx (upd H4 D (.lst (acc ++ [y]))) else Nx H3) :=
  lc_ev w (fun i => f (xs.getD i .non)) (fun i => F (xs.getD i .non)) hn hG (fun i x H2 H3 hi e ⟨e1, hx⟩ => by
    subst e1
    have hm : x ∈ xs := List.mem_of_getElem? hx
    have hd : xs.getD i .non = x := by rw [List.getD, hx]; rfl
    refine ⟨_, hw x, Ex.refl _, fun Q q => q, ?_, ?_⟩
    · rw [hd]; exact ht x hm
    · rw [hd]; exact he x hm) (by rw [given_map]; exact k)
/-- .. its target a pair (a, b) of names -/
theorem lc_pr {J : It} {ps : List (V × V)} {G : Hp → Prop} {K : Frag} (w : Walk J ps.length G (fun i H v H' => ∃ T p, v = .ref T ∧ H T = none ∧ H' = upd H T (.tup [p.1, p.2]) ∧ ps[i]? = some p)) {j l : Nat} {tt : TT} {te : TE} {vs : List Nat} {H1 : Hp} {Q : VK} (f : V × V → Bool) (F : V × V → V) (hn : ps.length ≤ 1000000)
    (hG : ∀ H, Ex H1 H → G H) (hw : ∀ x y, wipe (((wipe σ vs).set j (some x)).set l (some y)) vs = wipe σ vs)
    (ht : ∀ p ∈ ps, EvT tt (((wipe σ vs).set j (some p.1)).set l (some p.2)) H1 (f p)) (he : ∀ p ∈ ps, f p = true → Ev te (((wipe σ vs).set j (some p.1)).set l (some p.2)) H1 (F p))
    (k : ∀ D H', H1 D = none → Ex H1 H' → H' D = some (.lst ((ps.filter f).map F)) → Q (.ref D) H') :
    ∀ D, H1 D = none → ∃ W : Nat → Nat → Hp → Prop, (∃ m, W 0 m (upd H1 D (.lst []))) ∧ ∀ i m H, W i m H →
      (J.stop i H ∧ Q (.ref D) H) ∨ (J.go i H ∧ ∃ Nx : Hp → Prop, (∀ H', Nx H' → ∃ m', m' < m ∧ W (i + 1) m' H') ∧ ∀ x H', J.yld i H x H' → gTup K 2 (gCons (gName j) (gCons (gName l) gNil)) x (wipe σ vs) H' fun σ2 H2 => wipe σ2 vs = wipe σ vs ∧ tt σ2 H2 fun b H3 =>
        if b = true then te σ2 H3 fun y H4 => ∃ acc, H4 D = some (.lst acc) ∧ acc.length < sizeLine ∧ Nx (upd H4 D (.lst (acc ++ [y]))) else Nx H3) :=
  lc_ev w (fun i => f (ps.getD i (.non, .non))) (fun i => F (ps.getD i (.non, .non))) hn hG (fun i x H2 H3 hi e y => by
    obtain ⟨T, ⟨p1, p2⟩, rfl, hT, rfl, hx⟩ := y
    have hm : (p1, p2) ∈ ps := List.mem_of_getElem? hx
    have hd : ps.getD i (.non, .non) = (p1, p2) := by rw [List.getD, hx]; rfl
    refine ⟨_, hw p1 p2, Ex.new hT, fun Q q => ⟨T, [p1, p2], rfl, st_of upd_same, rfl, p1, [p2], rfl, p2, [], rfl, rfl, q⟩, ?_, ?_⟩
    · rw [hd]; exact ht _ hm
    · rw [hd]; exact he _ hm) (by rw [given_map]; exact k)
theorem walk_strA {z : Str} : Walk (Its z) ((z.cps.toList.map fun c => V.str ⟨#[c]⟩).length) (fun _ => True) (YAt (z.cps.toList.map fun c => V.str ⟨#[c]⟩)) := by
  have e : (z.cps.toList.map fun c => V.str ⟨#[c]⟩).length = z.cps.size := by simp
  rw [e]
  refine walk_str.mono (fun _ h => h) fun i H x H' hi _ ⟨h1, c, hc, hx⟩ => ⟨h1, ?_⟩
  rw [List.getElem?_map, Array.getElem?_toList, hc, hx]
  rfl
theorem walk_rangeA {lo : Int} {n : Nat} : Walk (Itr lo n) (((List.range n).map fun i => V.int (lo + (i : Nat))).length) (fun _ => True) (YAt ((List.range n).map fun i => V.int (lo + (i : Nat)))) := by
  have e : ((List.range n).map fun i => V.int (lo + (i : Nat))).length = n := by simp
  rw [e]
  refine walk_range.mono (fun _ h => h) fun i H x H' hi _ ⟨h1, h2⟩ => ⟨h1, ?_⟩
  rw [List.getElem?_map, List.getElem?_range hi, h2]
  rfl
theorem walk_rangeCA {lo c : Int} {n : Nat} : Walk (Itc lo c n) (((List.range n).map fun i => V.int (lo + (i : Nat) * c)).length) (fun _ => True) (YAt ((List.range n).map fun i => V.int (lo + (i : Nat) * c))) := by
  have e : ((List.range n).map fun i => V.int (lo + (i : Nat) * c)).length = n := by simp
  rw [e]
  refine walk_rangeC.mono (fun _ h => h) fun i H x H' hi _ ⟨h1, h2⟩ => ⟨h1, ?_⟩
  rw [List.getElem?_map, List.getElem?_range hi, h2]
  rfl
/-- enumerate(text) -/
def enumP (z : Str) : List (V × V) := (z.cps.toList.zipIdx).map fun p => (V.int (p.2 : Nat), V.str ⟨#[p.1]⟩)
theorem enumP_len (z : Str) : (enumP z).length = z.cps.size := by simp [enumP]
theorem walk_enumSA {z : Str} : Walk (ItEs z) (enumP z).length (fun _ => True) (fun i H v H' => ∃ T p, v = .ref T ∧ H T = none ∧ H' = upd H T (.tup [p.1, p.2]) ∧ (enumP z)[i]? = some p) := by
  rw [enumP_len]
  refine ⟨fun i H hi _ => hi, fun H _ => rfl, fun i H v H' hi _ ⟨T, c, h1, h2, h3, h4⟩ => ⟨T, (V.int (i : Nat), V.str ⟨#[c]⟩), h1, h2, h3, ?_⟩⟩
  unfold enumP
  rw [List.getElem?_map, List.getElem?_zipIdx, Array.getElem?_toList, h4]
  simp
theorem walk_zipA {K : Frag} {a b : Addr} {xs ys : List V} : Walk (Itz K a b) (xs.zip ys).length (fun H => SqL K H a xs ∧ SqL K H b ys) (fun i H v H' => ∃ T p, v = .ref T ∧ H T = none ∧ H' = upd H T (.tup [p.1, p.2]) ∧ (xs.zip ys)[i]? = some p) := by
  refine (walk_zip (n := (xs.zip ys).length) (by simp)).mono (fun _ h => h) fun i H v H' hi _ ⟨T, x, y, h1, h2, h3, h4, h5⟩ => ⟨T, (x, y), h1, h2, h3, ?_⟩
  rw [List.getElem?_zip_eq_some]
  exact ⟨h4, h5⟩
end

/-! ### types -/
theorem ty_tup {K : Frag} {H : Hp} {p : Addr} {xs : List V} (h : SqT K H p xs) : TyX K H (.ref p) (.type "tuple") := by
  rcases h with (h | ⟨o, h⟩) | ⟨o, its, n, hk, hc, _⟩
  · exact .base (.tup h)
  · exact .fTuple h
  · exact .kTuple hk hc
theorem ty_lst {K : Frag} {H : Hp} {p : Addr} {xs : List V} (h : SqL K H p xs) : TyX K H (.ref p) (.type "list") := by
  rcases h with (h | ⟨o, h⟩) | ⟨o, its, n, hk, hc, _⟩
  · exact .base (.lst h)
  · exact .base (.frz h)
  · exact .kList hk hc
/-- x is of the built-in type n -/
def TyN (K : Frag) (H : Hp) (x : V) (n : String) : Prop := TyX K H x (.type n)
theorem tyx_ex {K : Frag} {H H' : Hp} (e : Ex H H') {x : V} {n : String} (h : TyX K H x (.type n)) : TyX K H' x (.type n) := by
  generalize ht : Value.type n = t at h
  cases h with
  | base b =>
    cases b with
    | non => exact .base .non
    | bl y => exact .base (.bl y)
    | int i => exact .base (.int i)
    | str y => exact .base (.str y)
    | flt y => exact .base (.flt y)
    | lst ea => exact .base (.lst (e _ _ ea))
    | frz ea => exact .base (.frz (e _ _ ea))
    | tup ea => exact .base (.tup (e _ _ ea))
    | dK ea => exact .base (.dK (e _ _ ea))
    | dT ea => exact .base (.dT (e _ _ ea))
    | ins => cases ht
  | byt b => exact .byt b
  | set ea => exact .set (e _ _ ea)
  | kList ea c => exact .kList ea c
  | kTuple ea c => exact .kTuple ea c
  | kDict ea c => exact .kDict ea c
  | fTuple ea => exact .fTuple (e _ _ ea)
  | fDict ea => exact .fDict (e _ _ ea)
mutual
theorem dp_ex {K : Frag} {H H' : Hp} (e : Ex H H') : ∀ {x : V} {d : PyData}, Dp K H x d → Dp K H' x d
  | _, _, .non => .non
  | _, _, .bl b => .bl b
  | _, _, .int i => .int i
  | _, _, .str x => .str x
  | _, _, .lst h1 h2 => .lst (ex_l e h1) (dpAll_ex e h2)
  | _, _, .tup h1 h2 => .tup (ex_t e h1) (dpAll_ex e h2)
theorem dpAll_ex {K : Frag} {H H' : Hp} (e : Ex H H') : ∀ {xs : List V} {ds : List PyData}, DpAll K H xs ds → DpAll K H' xs ds
  | _, _, .nil => .nil
  | _, _, .cons h1 h2 => .cons (dp_ex e h1) (dpAll_ex e h2)
end
theorem dpAll_int {K : Frag} {H : Hp} : ∀ ns : List Int, DpAll K H (ns.map V.int) (ns.map PyData.int)
  | [] => .nil
  | n :: ns => .cons (.int n) (dpAll_int ns)
/-- the type's name of data -/
def tyN : PyData → String
  | .none => "NoneType" | .bool _ => "bool" | .int _ => "int" | .str _ => "str" | .list _ => "list" | .tuple _ => "tuple" | .dict _ => "dict"
/-- data, or the empty dict -/
inductive Dq (K : Frag) (H : Hp) : V → PyData → Prop
  | dp {x : V} {d : PyData} (h : Dp K H x d) : Dq K H x d
  | dict {a : Addr} (h : H a = some (.dK [])) : Dq K H (.ref a) (.dict [])
theorem Dq.ex {K : Frag} {H H' : Hp} {x : V} {d : PyData} (e : Ex H H') (h : Dq K H x d) : Dq K H' x d := by
  cases h with
  | dp h => exact .dp (dp_ex e h)
  | dict h => exact .dict (e _ _ h)
theorem dp_ty {K : Frag} {H : Hp} {x : V} {d : PyData} (h : Dp K H x d) : TyX K H x (.type (tyN d)) := by
  cases h with
  | non => exact .base .non
  | bl b => exact .base (.bl b)
  | int i => exact .base (.int i)
  | str x => exact .base (.str x)
  | lst h _ => exact ty_lst h
  | tup h _ => exact ty_tup h
theorem Dq.ty {K : Frag} {H : Hp} {x : V} {d : PyData} (h : Dq K H x d) : TyX K H x (.type (tyN d)) := by
  cases h with
  | dp h => exact dp_ty h
  | dict h => exact .base (.dK h)
section
variable {X : Cx}
/-- repr(x) of data, {} among it -/
def rReprQ (K : Frag) : List V → Hp → VK → Prop := fun xs H Q => ∃ (x : V) (d : PyData), xs = [x] ∧ Dq K H x d ∧ d.showable = true ∧ (d = .dict [] ∨ d.hasDict = false) ∧ d.depth ≤ 40 ∧ d.shown.length ≤ sizeLine ∧ Q (.str d.shown) H
theorem call_reprQ {k : Nat} (hr : Room k X.A) (hG : X.A.guards = some []) : CallR X (.builtin "repr") (rReprQ X.K) := by
  rintro pins s σ H xs us Q I r ⟨x, d, rfl, hd, hs, hnd, hdep, hsz, q⟩
  cases hd with
  | dp hd =>
    refine call_repr hr hG pins s σ H [x] us Q I r ⟨x, d, rfl, hd, hs, ?_, hdep, hsz, q⟩
    rcases hnd with rfl | h
    · cases hd
    · exact h
  | @dict a ha =>
    obtain ⟨u, rfl, r1⟩ := vals1 r
    cases (show u = Value.ref a from r1)
    obtain ⟨_, hsys, vs, hkv, o, es, ep, h1, h2, h3, _, h5, _⟩ := (show ObjOk X.prog X.w H s.heap a (.dK []) from I.hok a _ ha)
    cases hkv
    have he : es.toList = [] := List.length_eq_zero_iff.mp (by rw [h5.length]; rfl)
    have rd : Reads s.heap (.ref a) (.dict []) (a :: [] ++ []) := .dict (kvs := []) h1 h2.1 h3 (by rw [he]; exact .nil) (by rw [he]; exact .nil)
    refine repr_of_reads' rd hs (fun _ hm => ?_) hG (by have := hr.un; omega) (fun _ _ e => e) (fun h' t tk kk => ⟨.str (PyData.dict []).shown, H, I.kept (t' := tk) kk, ⟨t, rfl⟩, q⟩) hsz
    have : sysModules = a := by simpa using hm
    rw [this] at hsys
    simp at hsys
end
end BJ

/-! hex digits, what a text of them reads to; data of ints -/
namespace BJ
open PySem PySem.Spec PyProof.Rows L2 Evl

/-! ### data of ints -/
theorem canLay_ints : ∀ ns : List Int, PyData.canLayAll0 (ns.map .int) = true
  | [] => rfl
  | n :: ns => by
    rw [List.map_cons]
    unfold PyData.canLayAll0
    rw [canLay_ints ns]
    rfl
theorem depth_ints : ∀ ns : List Int, PyData.depthAll (ns.map .int) = 0
  | [] => rfl
  | n :: ns => by
    rw [List.map_cons]
    unfold PyData.depthAll
    rw [depth_ints ns]
    rfl
theorem show_ints : ∀ ns : List Int, (∀ n ∈ ns, n.natAbs < 10 ^ 12) → PyData.showableAll (ns.map .int) = true
  | [], _ => rfl
  | n :: ns, h => by
    rw [List.map_cons]
    unfold PyData.showableAll
    rw [show_ints ns fun m hm => h m (List.mem_cons_of_mem _ hm), Bool.and_true]
    unfold PyData.showable
    have h1 := h n List.mem_cons_self
    refine decide_eq_true ?_
    by_cases h0 : n.natAbs = 0
    · rw [h0]; decide
    · have := (Nat.log2_lt h0 (k := 1920)).mpr (Nat.lt_of_lt_of_le h1 (by decide))
      exact this
theorem short_ints : ∀ ns : List Int, (∀ n ∈ ns, n.natAbs < 10 ^ 12) → PyData.leavesShortAll 13 (ns.map .int) = true
  | [], _ => rfl
  | n :: ns, h => by
    rw [List.map_cons]
    unfold PyData.leavesShortAll
    rw [short_ints ns fun m hm => h m (List.mem_cons_of_mem _ hm), Bool.and_true]
    unfold PyData.leavesShort
    exact decide_eq_true (PyData.shown_int_le (h n List.mem_cons_self))
theorem bulk_ints : ∀ ns : List Int, PyData.bulkAll (ns.map .int) = ns.length
  | [] => rfl
  | n :: ns => by
    rw [List.map_cons]
    unfold PyData.bulkAll
    rw [bulk_ints ns, List.length_cons]
    unfold PyData.bulk
    omega
theorem eqv_ints : ∀ ns ms : List Int, PyData.eqvAll (ns.map .int) (ms.map .int) = decide (ns = ms)
  | [], [] => by simp [PyData.eqvAll]
  | [], m :: ms => by simp [PyData.eqvAll]
  | n :: ns, [] => by simp [PyData.eqvAll]
  | n :: ns, m :: ms => by
    rw [List.map_cons, List.map_cons]
    unfold PyData.eqvAll
    rw [eqv_ints ns ms]
    unfold PyData.eqv
    by_cases h1 : n = m <;> by_cases h2 : ns = ms <;> simp [h1, h2]
/-- a tuple, a list of ints -/
def dT (ns : List Int) : PyData := .tuple (ns.map .int)
def dL (ns : List Int) : PyData := .list (ns.map .int)
theorem dT_shaped (ns : List Int) : SeqAt.shaped (dT ns) = true := by
  unfold SeqAt.shaped dT
  rw [Bool.and_eq_true]
  refine ⟨?_, decide_eq_true ?_⟩
  · unfold PyData.canLay0; exact canLay_ints ns
  · unfold PyData.depth; rw [depth_ints]; omega
theorem dL_shaped (ns : List Int) : SeqAt.shaped (dL ns) = true := by
  unfold SeqAt.shaped dL
  rw [Bool.and_eq_true]
  refine ⟨?_, decide_eq_true ?_⟩
  · unfold PyData.canLay0; exact canLay_ints ns
  · unfold PyData.depth; rw [depth_ints]; omega
/-- what repr asks of data -/
structure Shows (d : PyData) : Prop where
  s : d.showable = true
  n : d = .dict [] ∨ d.hasDict = false
  p : d.depth ≤ 40
  z : d.shown.length ≤ sizeLine
theorem hasDict_ints : ∀ ns : List Int, PyData.hasDictAll (ns.map .int) = false
  | [] => rfl
  | n :: ns => by
    rw [List.map_cons]
    unfold PyData.hasDictAll
    rw [hasDict_ints ns]
    rfl
theorem dT_shows {ns : List Int} (h : ∀ n ∈ ns, n.natAbs < 10 ^ 12) (hl : ns.length ≤ 1000000) : Shows (dT ns) where
  s := by unfold dT PyData.showable; exact show_ints ns h
  n := .inr (by unfold dT PyData.hasDict; exact hasDict_ints ns)
  p := by unfold dT PyData.depth; rw [depth_ints]; omega
  z := PyData.shown_fits_bulk (d := dT ns) (B := 13) (by decide) (by decide) (by unfold dT PyData.leavesShort; exact short_ints ns h) (by unfold dT PyData.bulk; rw [bulk_ints]; omega)
theorem dL_shows {ns : List Int} (h : ∀ n ∈ ns, n.natAbs < 10 ^ 12) (hl : ns.length ≤ 1000000) : Shows (dL ns) where
  s := by unfold dL PyData.showable; exact show_ints ns h
  n := .inr (by unfold dL PyData.hasDict; exact hasDict_ints ns)
  p := by unfold dL PyData.depth; rw [depth_ints]; omega
  z := PyData.shown_fits_bulk (d := dL ns) (B := 13) (by decide) (by decide) (by unfold dL PyData.leavesShort; exact short_ints ns h) (by unfold dL PyData.bulk; rw [bulk_ints]; omega)
theorem dp_T {K : PySem.W.Frag} {H : Hp} {p : Addr} {ns : List Int} (h : SqT K H p (ns.map V.int)) : Dp K H (.ref p) (dT ns) := .tup h (dpAll_int ns)
theorem dp_L {K : PySem.W.Frag} {H : Hp} {p : Addr} {ns : List Int} (h : SqL K H p (ns.map V.int)) : Dp K H (.ref p) (dL ns) := .lst h (dpAll_int ns)
theorem eqv_T (ns ms : List Int) : PyData.eqv (dT ns) (dT ms) = decide (ns = ms) := by unfold dT PyData.eqv; exact eqv_ints ns ms
theorem eqv_L (ns ms : List Int) : PyData.eqv (dL ns) (dL ms) = decide (ns = ms) := by unfold dL PyData.eqv; exact eqv_ints ns ms

/-! ### hex -/
def DIG : Str := "0123456789abcdef"
def hexd (i : Nat) : Nat := if i < 10 then 48 + i else 87 + i
def hval (c : Nat) : Nat := if c < 58 then c - 48 else c - 87
def hok (c : Nat) : Bool := decide (c ∈ DIG.cps.toList)
theorem dig_eq : DIG.cps.toList = (List.range 16).map hexd := by decide +kernel
theorem dig_len : DIG.length = 16 := by decide +kernel
theorem hval_hexd {i : Nat} (h : i < 16) : hval (hexd i) = i := by unfold hval hexd; split <;> split <;> omega
theorem hok_hexd {i : Nat} (h : i < 16) : hok (hexd i) = true := by
  unfold hok
  rw [dig_eq]
  exact decide_eq_true (List.mem_map.mpr ⟨i, List.mem_range.mpr h, rfl⟩)
theorem hok_ex {c : Nat} (h : hok c = true) : ∃ i, i < 16 ∧ c = hexd i := by
  unfold hok at h
  rw [dig_eq] at h
  obtain ⟨i, hi, e⟩ := List.mem_map.mp (of_decide_eq_true h)
  exact ⟨i, List.mem_range.mp hi, e.symm⟩
theorem hval_lt {c : Nat} (h : hok c = true) : hval c < 16 := by
  obtain ⟨i, hi, rfl⟩ := hok_ex h
  rw [hval_hexd hi]
  exact hi
theorem dig_occ : ∀ i ∈ List.range 16, Builtin.Str.occurrences DIG ⟨#[hexd i]⟩ 0 DIG.length 1 = [i] := by decide +kernel
theorem hok_occ {c : Nat} (h : hok c = true) : Builtin.Str.occurrences DIG ⟨#[c]⟩ 0 DIG.length 1 = [hval c] := by
  obtain ⟨i, hi, rfl⟩ := hok_ex h
  rw [hval_hexd hi]
  exact dig_occ i (List.mem_range.mpr hi)
theorem dig_at {i : Nat} (h : i < 16) : atI DIG.cps.toList (i : Int) = some (hexd i) := by
  refine atI_nat ?_
  rw [dig_eq, List.getElem?_map, List.getElem?_range h]
  rfl
def pairs : List Nat → List Int
  | a :: b :: r => (16 * (hval a : Int) + (hval b : Int)) :: pairs r
  | _ => []
/-- what a text reads to: octets, or where it is wrong -/
def due (l : List Nat) : List Int ⊕ Int :=
  match l.findIdx? fun c => !hok c with
  | some i => .inr (i : Int)
  | none => if l.length % 2 = 1 then .inr (l.length : Int) else if 100000 < l.length then .inr 100000 else .inl (pairs l)
def dueD (l : List Nat) : PyData := match due l with | .inl ns => dT ns | .inr i => dL [i]
theorem pairs_len : ∀ l : List Nat, (pairs l).length = l.length / 2
  | [] => rfl
  | [_] => by simp [pairs]
  | a :: b :: r => by
    unfold pairs
    rw [List.length_cons, pairs_len r, List.length_cons, List.length_cons]
    omega
theorem pairs_lt : ∀ l : List Nat, (∀ c ∈ l, hok c = true) → ∀ n ∈ pairs l, 0 ≤ n ∧ n ≤ 255
  | [], _, n, h => by cases h
  | [_], _, n, h => by cases h
  | a :: b :: r, hl, n, h => by
    unfold pairs at h
    rcases List.mem_cons.mp h with rfl | h
    · have h1 := hval_lt (hl a List.mem_cons_self)
      have h2 := hval_lt (hl b (List.mem_cons_of_mem _ List.mem_cons_self))
      omega
    · exact pairs_lt r (fun c hc => hl c (List.mem_cons_of_mem _ (List.mem_cons_of_mem _ hc))) n h
theorem pairs_at : ∀ (l : List Nat) (n : Nat), l.length = 2 * n → (List.range n).map (fun i => 16 * (hval (l.getD (2 * i) 0) : Int) + (hval (l.getD (2 * i + 1) 0) : Int)) = pairs l
  | [], n, h => by
    have : n = 0 := by simp at h; omega
    subst this
    rfl
  | [_], n, h => by simp at h; omega
  | a :: b :: r, n, h => by
    obtain ⟨m, rfl⟩ : ∃ m, n = m + 1 := ⟨n - 1, by simp at h; omega⟩
    have h2 : r.length = 2 * m := by simp at h; omega
    unfold pairs
    rw [← pairs_at r m h2, List.range_succ_eq_map, List.map_cons, List.map_map]
    congr 1
theorem all_ok {l : List Nat} (h : l.findIdx? (fun c => !hok c) = none) : ∀ c ∈ l, hok c = true := by
  rw [List.findIdx?_eq_none_iff] at h
  intro c hc
  have := h c hc
  simpa using this
theorem due_inl {l : List Nat} {ns : List Int} (h : due l = .inl ns) : l.findIdx? (fun c => !hok c) = none ∧ l.length % 2 = 0 ∧ l.length ≤ 100000 ∧ ns = pairs l := by
  unfold due at h
  split at h
  · cases h
  · rename_i e
    split at h
    · cases h
    · split at h
      · cases h
      · cases h
        exact ⟨e, by omega, by omega, rfl⟩
theorem due_shows {l : List Nat} (hl : l.length ≤ 1000000) : Shows (dueD l) := by
  unfold dueD
  cases h : due l with
  | inl ns =>
    obtain ⟨h1, h2, h3, rfl⟩ := due_inl h
    exact dT_shows (fun n hn => by have := pairs_lt l (all_ok h1) n hn; omega) (by rw [pairs_len]; omega)
  | inr i =>
    refine dL_shows (fun n hn => ?_) (by simp)
    rw [List.mem_singleton] at hn
    subst hn
    unfold due at h
    split at h
    · rename_i j hj
      cases h
      have := (List.findIdx?_eq_some_iff_findIdx_eq.mp hj).1
      omega
    · split at h
      · cases h; omega
      · split at h
        · cases h; omega
        · cases h
/-! ### the text of octets -/
def hexL (ns : List Int) : List Nat := ns.flatMap fun i => [hexd (i / 16).toNat, hexd (i % 16).toNat]
def pairS (i : Int) : Str := ⟨#[hexd (i / 16).toNat, hexd (i % 16).toNat]⟩
def hexS (ns : List Int) : Str := Txt.join "" (ns.map pairS)
theorem joinL_nil : ∀ ps : List (List Nat), TL.joinL [] ps = ps.flatten
  | [] => rfl
  | [p] => by simp [TL.joinL]
  | p :: q :: r => by
    unfold TL.joinL
    rw [joinL_nil (q :: r)]
    simp
theorem hexS_tl (ns : List Int) : (hexS ns).cps.toList = hexL ns := by
  unfold hexS
  rw [TL.join_eq]
  have := TL.tl_join "" (ns.map pairS)
  rw [show TL.tl "" = [] from rfl, joinL_nil] at this
  show TL.tl (Str.join "" (ns.map pairS)) = _
  rw [this, List.map_map]
  unfold hexL
  rw [List.flatMap_def]
  rfl
theorem hexL_len : ∀ ns : List Int, (hexL ns).length = 2 * ns.length
  | [] => rfl
  | n :: ns => by
    have := hexL_len ns
    unfold hexL at this ⊢
    rw [List.flatMap_cons, List.length_append, this, List.length_cons]
    simp only [List.length_cons, List.length_nil]
    omega
theorem hexL_ok : ∀ ns : List Int, (∀ n ∈ ns, 0 ≤ n ∧ n ≤ 255) → ∀ c ∈ hexL ns, hok c = true := by
  intro ns h c hc
  obtain ⟨n, hn, hc⟩ := List.mem_flatMap.mp hc
  have := h n hn
  rcases List.mem_cons.mp hc with rfl | hc
  · exact hok_hexd (by omega)
  · rw [List.mem_singleton] at hc
    subst hc
    exact hok_hexd (by omega)
theorem hexL_pairs : ∀ ns : List Int, (∀ n ∈ ns, 0 ≤ n ∧ n ≤ 255) → pairs (hexL ns) = ns
  | [], _ => rfl
  | n :: ns, h => by
    have h0 := h n List.mem_cons_self
    have ih := hexL_pairs ns fun m hm => h m (List.mem_cons_of_mem _ hm)
    unfold hexL at ih ⊢
    rw [List.flatMap_cons]
    show (16 * (hval (hexd (n / 16).toNat) : Int) + (hval (hexd (n % 16).toNat) : Int)) :: pairs (ns.flatMap _) = _
    rw [ih, hval_hexd (by omega), hval_hexd (by omega)]
    congr 1
    omega
theorem due_hexL {ns : List Int} (h : ∀ n ∈ ns, 0 ≤ n ∧ n ≤ 255) (hl : ns.length ≤ 50000) : due (hexL ns) = .inl ns := by
  unfold due
  have e : (hexL ns).findIdx? (fun c => !hok c) = none := by
    rw [List.findIdx?_eq_none_iff]
    intro c hc
    rw [hexL_ok ns h c hc]
    rfl
  rw [e]
  have hn := hexL_len ns
  simp only
  rw [if_neg (by omega), if_neg (by omega), hexL_pairs ns h]
theorem strLen_tl (z : Str) : z.length = z.cps.toList.length := by simp [Str.length]
theorem hexS_len (ns : List Int) : (hexS ns).length = 2 * ns.length := by rw [strLen_tl, hexS_tl, hexL_len]
theorem hexS_sum (ns : List Int) : ((ns.map pairS).map (·.length)).sum = 2 * ns.length := by
  induction ns with
  | nil => rfl
  | cons n ns ih =>
    rw [List.map_cons, List.map_cons, List.sum_cons, ih, List.length_cons]
    show 2 + _ = _
    omega

/-! ### the wrong places -/
def wrongL (l : List Nat) (k : Nat) : List Int := ((l.zipIdx k).filter fun p => !hok p.1).map fun p => ((p.2 : Nat) : Int)
theorem wrongL_head : ∀ (l : List Nat) (k : Nat), (wrongL l k).head? = (l.findIdx? fun c => !hok c).map fun i => ((i + k : Nat) : Int)
  | [], k => rfl
  | c :: l, k => by
    have ih := wrongL_head l (k + 1)
    unfold wrongL at ih ⊢
    rw [List.zipIdx_cons, List.findIdx?_cons]
    cases h : hok c with
    | false =>
      rw [List.filter_cons_of_pos (by simp [h])]
      simp
    | true =>
      rw [List.filter_cons_of_neg (by simp [h]), ih]
      simp only [Bool.not_true]
      rw [if_neg (by simp), Option.map_map]
      congr 1
      funext i
      simp only [Function.comp]
      omega
theorem wrong_none {l : List Nat} (h : l.findIdx? (fun c => !hok c) = none) : wrongL l 0 = [] := by
  have := wrongL_head l 0
  rw [h] at this
  simpa using this
theorem wrong_some {l : List Nat} {i : Nat} (h : l.findIdx? (fun c => !hok c) = some i) : ∃ r, wrongL l 0 = (i : Int) :: r := by
  have := wrongL_head l 0
  rw [h] at this
  cases e : wrongL l 0 with
  | nil => rw [e] at this; simp at this
  | cons a r =>
    rw [e] at this
    simp only [List.head?_cons, Option.map_some, Option.some.injEq, Nat.add_zero] at this
    exact ⟨r, by rw [this]⟩

/-! ### the evens and the odds -/
def evens : List V → List V
  | a :: _ :: r => a :: evens r
  | l => l
def odds : List V → List V
  | _ :: b :: r => b :: odds r
  | _ => []
end BJ

/-! comprehensions that evaluate; calls on values -/
namespace BJ
open PySem PySem.Spec PyProof.Rows L2 Evl
open PySem.W (Frag kitOne kitAny)
section
variable {K : Frag} {σ : L2.St} {H : Hp} {z : V} {tl te : TE} {tt : TT} {wi : TI} {vs : List Nat} {xs : List V}
/-- what is walked over gives xs -/
def EvI (wi : TI) (σ : L2.St) (H : Hp) (xs : List V) : Prop := ∀ H1, Ex H H1 → ∀ R : It → Hp → Prop, (∀ H2 J G, Ex H1 H2 → Walk J xs.length G (YAt xs) → (∀ H3, Ex H2 H3 → G H3) → R J H2) → wi σ H1 R
/-- .. gives pairs -/
def EvP (wi : TI) (σ : L2.St) (H : Hp) (ps : List (V × V)) : Prop := ∀ H1, Ex H H1 → ∀ R : It → Hp → Prop,
  (∀ H2 J G, Ex H1 H2 → Walk J ps.length G (fun i H v H' => ∃ T p, v = .ref T ∧ H T = none ∧ H' = upd H T (.tup [p.1, p.2]) ∧ ps[i]? = some p) → (∀ H3, Ex H2 H3 → G H3) → R J H2) → wi σ H1 R
theorem el_at {j : Nat} (hi : EvI wi σ H xs) (f : V → Bool) (F : V → V) (hn : xs.length ≤ 1000000) (hw : ∀ x, wipe ((wipe σ vs).set j (some x)) vs = wipe σ vs)
    (ht : ∀ x ∈ xs, ∀ H1, Ex H H1 → EvT tt ((wipe σ vs).set j (some x)) H1 (f x)) (he : ∀ x ∈ xs, ∀ H1, Ex H H1 → f x = true → Ev te ((wipe σ vs).set j (some x)) H1 (F x)) :
    EvL (tLc wi (gName j) tt te vs) σ H ((xs.filter f).map F) := fun H1 e Q q => hi H1 e _ fun H2 J G e2 w hG =>
  lc_at w f F hn hG hw (fun x hx => ht x hx H2 (e.trans e2)) (fun x hx hf => he x hx H2 (e.trans e2) hf) fun D H' hD e3 hl => q D H' (fresh_back e2 hD) (e2.trans e3) hl
/-- .. without an if -/
theorem el_all {j : Nat} (hi : EvI wi σ H xs) (F : V → V) (hn : xs.length ≤ 1000000) (hw : ∀ x, wipe ((wipe σ vs).set j (some x)) vs = wipe σ vs)
    (he : ∀ x ∈ xs, ∀ H1, Ex H H1 → Ev te ((wipe σ vs).set j (some x)) H1 (F x)) : EvL (tLc wi (gName j) tYes te vs) σ H (xs.map F) := by
  have h := el_at (tt := tYes) hi (fun _ => true) F hn hw (fun _ _ _ _ => et_yes) (fun x hx H1 e _ => he x hx H1 e)
  rw [List.filter_eq_self.mpr (fun _ _ => rfl)] at h
  exact h
theorem el_pr {j l : Nat} {ps : List (V × V)} (hi : EvP wi σ H ps) (f : V × V → Bool) (F : V × V → V) (hn : ps.length ≤ 1000000) (hw : ∀ x y, wipe (((wipe σ vs).set j (some x)).set l (some y)) vs = wipe σ vs)
    (ht : ∀ p ∈ ps, ∀ H1, Ex H H1 → EvT tt (((wipe σ vs).set j (some p.1)).set l (some p.2)) H1 (f p)) (he : ∀ p ∈ ps, ∀ H1, Ex H H1 → f p = true → Ev te (((wipe σ vs).set j (some p.1)).set l (some p.2)) H1 (F p)) :
    EvL (tLc wi (gTup K 2 (gCons (gName j) (gCons (gName l) gNil))) tt te vs) σ H ((ps.filter f).map F) := fun H1 e Q q => hi H1 e _ fun H2 J G e2 w hG =>
  lc_pr w f F hn hG hw (fun x hx => ht x hx H2 (e.trans e2)) (fun x hx hf => he x hx H2 (e.trans e2) hf) fun D H' hD e3 hl => q D H' (fresh_back e2 hD) (e2.trans e3) hl
theorem ei_tup {p : Addr} (h : Ev tl σ H (.ref p)) (hx : SqT K H p xs) : EvI (iTup K tl) σ H xs := fun H1 e R r => h H1 e _ fun H2 e2 =>
  ⟨p, rfl, ⟨xs, ex_t (e.trans e2) hx⟩, r H2 _ (fun H => SqT K H p xs) e2 walk_tup fun H3 e3 => ex_t ((e.trans e2).trans e3) hx⟩
theorem ei_tupU (h : EvU tl σ H xs) : EvI (iTup K tl) σ H xs := fun H1 e R r => h H1 e _ fun p H2 hp e2 hx =>
  ⟨p, rfl, ⟨xs, st_of hx⟩, r H2 _ (fun H => SqT K H p xs) e2 walk_tup fun H3 e3 => ex_t e3 (st_of hx)⟩
theorem ei_list {p : Addr} (h : Ev tl σ H (.ref p)) (hx : SqL K H p xs) : EvI (iList K tl) σ H xs := fun H1 e R r => h H1 e _ fun H2 e2 =>
  ⟨p, rfl, ⟨xs, ex_l (e.trans e2) hx⟩, r H2 _ (fun H => SqL K H p xs) e2 walk_list fun H3 e3 => ex_l ((e.trans e2).trans e3) hx⟩
theorem ei_str {s : Str} (h : Ev tl σ H (.str s)) : EvI (iStr tl) σ H (s.cps.toList.map fun c => V.str ⟨#[c]⟩) := fun H1 e R r => h H1 e _ fun H2 e2 =>
  ⟨s, rfl, r H2 _ _ e2 walk_strA fun _ _ => trivial⟩
theorem ei_rng3 {ta : TA} {i j c : Int} {n : Nat} (h : EvA ta σ H [.int i, .int j, .int c]) (hr : RgC i j c n) : EvI (iRng3 ta) σ H ((List.range n).map fun k => V.int (i + (k : Nat) * c)) := fun H1 e R r => h H1 e _ fun H2 e2 =>
  ⟨i, j, c, n, rfl, hr, r H2 _ _ e2 walk_rangeCA fun _ _ => trivial⟩
theorem ep_enumS {ta : TA} {s : Str} (h : EvA ta σ H [.str s]) : EvP (iEnumS ta) σ H (enumP s) := fun H1 e R r => h H1 e _ fun H2 e2 =>
  ⟨s, rfl, r H2 _ _ e2 walk_enumSA fun _ _ => trivial⟩
theorem ev_allL {bs : List Bool} (h : EvL tl σ H (bs.map V.bl)) : Ev (tCB (rAll K) (tCons tl tNil)) σ H (.bl (bs.all id)) := fun H1 e Q q => h H1 e _ fun p H2 _ e2 hp => ⟨p, bs, rfl, sq_of hp, q H2 e2⟩
theorem rc_is {x : V} {t n : String} {b : Bool} (h : TyX K H x (.type t)) (k : kitOne K (.type t) (.type n) = some b) : RC (rIsG K) [x, .ty n] H (.bl b) :=
  fun H1 e Q q => ⟨x, _, .type t, .type n, b, rfl, .ty n, .ty (tyx_ex e h), k, q H1 (Ex.refl _)⟩
/-- f(e) where e is a new tuple, a new list -/
theorem ev_caU {sp : Sp} {W : WX} (h : EvU te σ H xs) (hs : ∀ p H1, H1 p = some (.tup xs) → SpE sp [.ref p] H1 z) : Ev (tCa sp W (tCons te tNil)) σ H z := fun H1 e Q q =>
  h H1 e _ fun p H2 _ e2 hp => hs p H2 hp H2 (Ex.refl _) Q _ fun H3 e3 => q H3 (e2.trans e3)
/-- e of a fresh list: the list goes into tuple(..) -/
theorem eu_tupL (h : EvL te σ H xs) : EvU (tCB (fun xs H Q => ∃ p ys, xs = [.ref p] ∧ ((SqL K H p ys ∧ ∀ l, H l = none → Q (.ref l) (upd H l (.tup ys))) ∨ (SqT K H p ys ∧ Q (.ref p) H))) (tCons te tNil)) σ H xs := fun H1 e Q q =>
  h H1 e _ fun p H2 _ e2 hp => ⟨p, xs, rfl, .inl ⟨sq_of hp, fun l hl => q l _ (fresh_back e2 hl) (e2.trans (Ex.new hl)) upd_same⟩⟩
/-- a.join(e) of a new list of texts -/
theorem ev_joinL {a : Str} {ys : List Str} {to : TE} (ho : Ev to σ H (.str a)) (h : EvL te σ H (ys.map V.str)) (hz : (ys.map (·.length)).sum + ys.length * a.length ≤ 16777216) :
    Ev (tM1 (fun x xs H Q => ∃ a p, ∃ ys : List Str, x = .str a ∧ xs = [.ref p] ∧ (SqL K H p (ys.map V.str) ∨ SqT K H p (ys.map V.str)) ∧ (ys.map (·.length)).sum + ys.length * a.length ≤ 16777216 ∧ Q (.str (Txt.join a ys)) H) to te) σ H (.str (Txt.join a ys)) := fun H1 e Q q =>
  ho H1 e _ fun H2 e2 => ⟨⟨a, rfl⟩, h H2 (e.trans e2) _ fun p H3 _ e3 hp => ⟨a, p, ys, rfl, rfl, .inl (sq_of hp), hz, q H3 (e2.trans e3)⟩⟩
end
end BJ

/-! slices with a step that evaluate, zip of new lists; the evens and odds -/
namespace BJ
open PySem PySem.Spec PyProof.Rows L2 Evl
open PySem.W (Frag kitOne kitAny)
section
variable {K : Frag} {σ : L2.St} {H : Hp} {z : V} {tl te : TE} {tt : TT} {wi : TI} {vs : List Nat} {xs ys : List V}
theorem pickV_len (xs : List V) (lo hi st : Option Int) (h0 : st ≠ some 0) : (pickV xs lo hi st).length ≤ xs.length := by
  have h := slicePick_size_le (items := (List.replicate xs.length Value.none).toArray) lo hi st
  have e : ∀ (l : List Nat), (l.filterMap (xs[·]?)).length = (l.filterMap ((List.replicate xs.length Value.none)[·]?)).length := by
    intro l
    induction l with
    | nil => rfl
    | cons i l ih =>
      by_cases hi : i < xs.length
      · rw [List.filterMap_cons_some (List.getElem?_eq_getElem hi), List.filterMap_cons_some (List.getElem?_eq_getElem (by simpa using hi)), List.length_cons, List.length_cons, ih]
      · rw [List.filterMap_cons_none (List.getElem?_eq_none (by omega)), List.filterMap_cons_none (List.getElem?_eq_none (by simp; omega)), ih]
  unfold pickV
  rw [e]
  have h2 : ((sliceRange (sliceBounds lo hi st (List.replicate xs.length Value.none).toArray.size).1 (sliceBounds lo hi st (List.replicate xs.length Value.none).toArray.size).2.1 (sliceBounds lo hi st (List.replicate xs.length Value.none).toArray.size).2.2).filterMap ((List.replicate xs.length Value.none).toArray[·]?)).length ≤ (List.replicate xs.length Value.none).toArray.size := h
  have e2 : (List.replicate xs.length Value.none).toArray.size = xs.length := by simp
  rw [e2] at h2
  refine Nat.le_trans (Nat.le_of_eq ?_) h2
  congr 1
  apply congrArg (fun f => List.filterMap f _)
  funext x
  exact List.getElem?_toArray.symm
theorem el_sl3 {p : Addr} {tl th ts : TO} {lo hi st : Option Int} (h : Ev te σ H (.ref p)) (h1 : EvO tl σ H lo) (h2 : EvO th σ H hi) (h3 : EvO ts σ H st) (hs : SqL K H p xs) (h0 : st ≠ some 0) (hz : xs.length ≤ 1000000) : EvL (tSl3 K te tl th ts) σ H (pickV xs lo hi st) := fun H1 e Q q =>
  h H1 e _ fun H2 e2 => h1 H2 (e.trans e2) _ fun H3 e3 => h2 H3 ((e.trans e2).trans e3) _ fun H4 e4 => h3 H4 (((e.trans e2).trans e3).trans e4) _ fun H5 e5 =>
    ⟨p, xs, rfl, ex_l ((((e.trans e2).trans e3).trans e4).trans e5) hs, h0, (by have := pickV_len xs lo hi st h0; rw [sizeLine_eq]; omega), fun D hD =>
      q D _ (fresh_back (((e2.trans e3).trans e4).trans e5) hD) ((((e2.trans e3).trans e4).trans e5).trans (Ex.new hD)) upd_same⟩
theorem ep_zip {t1 t2 : TE} (h1 : EvL t1 σ H xs) (h2 : EvL t2 σ H ys) : EvP (iZip K (tCons t1 (tCons t2 tNil))) σ H (xs.zip ys) := fun H1 e R r =>
  h1 H1 e _ fun p H2 hp e2 hx => h2 H2 (e.trans e2) _ fun q H3 hq e3 hy =>
    ⟨p, q, xs, ys, rfl, sq_of (e3 p _ hx), sq_of hy, r H3 _ _ (e2.trans e3) walk_zipA fun H4 e4 => ⟨sq_of (e4 p _ (e3 p _ hx)), sq_of (e4 q _ hy)⟩⟩
end
theorem pick_of {xs : List V} (m a : Nat) (h : ∀ k, k < m → a + 2 * k < xs.length) : ((List.range m).map fun k : Nat => a + 2 * k).filterMap (xs[·]?) = (List.range m).map fun k => xs.getD (a + 2 * k) .non := by
  rw [List.filterMap_map]
  have : ∀ l : List Nat, (∀ k ∈ l, k < m) → l.filterMap ((xs[·]?) ∘ fun k => a + 2 * k) = l.map fun k => xs.getD (a + 2 * k) .non := by
    intro l
    induction l with
    | nil => intro _; rfl
    | cons k l ih =>
      intro hk
      have := h k (hk k List.mem_cons_self)
      rw [List.filterMap_cons_some (b := xs[a + 2 * k]) (show ((fun x => xs[x]?) ∘ fun k => a + 2 * k) k = some xs[a + 2 * k] from List.getElem?_eq_getElem this), List.map_cons, ih fun j hj => hk j (List.mem_cons_of_mem _ hj)]
      congr 1
      rw [List.getD, List.getElem?_eq_getElem this]
      rfl
  exact this _ fun k hk => List.mem_range.mp hk
theorem pick_evens {xs : List V} {m : Nat} (h : xs.length = 2 * m) : pickV xs none none (some 2) = (List.range m).map fun k => xs.getD (2 * k) .non := by
  have e : sliceRange (sliceBounds none none (some 2) xs.length).1 (sliceBounds none none (some 2) xs.length).2.1 (sliceBounds none none (some 2) xs.length).2.2 = (List.range m).map fun k : Nat => 0 + 2 * k := by
    show sliceRange 0 (xs.length : Int) 2 = _
    show List.map _ (List.range (Int.toNat _)) = _
    have hc : (if (2 : Int) > 0 then (if (0 : Int) < (xs.length : Int) then ((xs.length : Int) - 0 + 2 - 1) / 2 else 0) else (if (0 : Int) > (xs.length : Int) then (0 - (xs.length : Int) - 2 - 1) / (-2) else 0)).toNat = m := by
      rw [if_pos (by decide)]
      split <;> omega
    refine (congrArg (fun n => List.map _ (List.range n)) hc).trans ?_
    apply List.map_congr_left
    intro k _
    omega
  unfold pickV
  rw [e, pick_of m 0 (fun k hk => by omega)]
  simp only [Nat.zero_add]
theorem pick_odds {xs : List V} {m : Nat} (h : xs.length = 2 * m) : pickV xs (some 1) none (some 2) = (List.range m).map fun k => xs.getD (1 + 2 * k) .non := by
  have e : sliceRange (sliceBounds (some 1) none (some 2) xs.length).1 (sliceBounds (some 1) none (some 2) xs.length).2.1 (sliceBounds (some 1) none (some 2) xs.length).2.2 = (List.range m).map fun k : Nat => 1 + 2 * k := by
    show sliceRange (max 0 (min 1 (xs.length : Int))) (xs.length : Int) 2 = _
    show List.map _ (List.range (Int.toNat _)) = _
    have hc : (if (2 : Int) > 0 then (if (max 0 (min 1 (xs.length : Int))) < (xs.length : Int) then ((xs.length : Int) - (max 0 (min 1 (xs.length : Int))) + 2 - 1) / 2 else 0) else (if (max 0 (min 1 (xs.length : Int))) > (xs.length : Int) then ((max 0 (min 1 (xs.length : Int))) - (xs.length : Int) - 2 - 1) / (-2) else 0)).toNat = m := by
      rw [if_pos (by decide)]
      split <;> omega
    refine (congrArg (fun n => List.map _ (List.range n)) hc).trans ?_
    apply List.map_congr_left
    intro k hk
    have := List.mem_range.mp hk
    omega
  unfold pickV
  rw [e, pick_of m 1 (fun k hk => by omega)]
/-- what sign, what number a value is -/
def sgn : V → Nat | .str z => z.cps.getD 0 0 | _ => 0
def num : V → Int | .int i => i | _ => 0
theorem zip_pairs (l : List Nat) (m : Nat) (h : l.length = 2 * m) :
    (((pickV ((l.map fun c => (hval c : Int)).map V.int) none none (some 2)).zip (pickV ((l.map fun c => (hval c : Int)).map V.int) (some 1) none (some 2))).map fun p => V.int (16 * num p.1 + num p.2)) = (pairs l).map V.int := by
  have hl : ((l.map fun c => (hval c : Int)).map V.int).length = 2 * m := by rw [List.length_map, List.length_map]; exact h
  rw [pick_evens hl, pick_odds hl, List.zip_map', List.map_map, ← pairs_at l m h]
  refine Eq.trans ?_ List.map_map.symm
  apply List.map_congr_left
  intro k hk
  have hk := List.mem_range.mp hk
  have g : ∀ i, i < l.length → ((l.map fun c => (hval c : Int)).map V.int).getD i .non = .int (hval (l.getD i 0)) := fun i hi => by
    rw [List.getD, List.getElem?_map, List.getElem?_map, List.getElem?_eq_getElem hi, List.getD, List.getElem?_eq_getElem hi]
    rfl
  simp only [Function.comp]
  rw [g _ (by omega), g _ (by omega), Nat.add_comm 1]
  rfl
theorem enum_wrong (z : Str) : ((enumP z).filter fun p => !hok (sgn p.2)).map (fun p => p.1) = (wrongL z.cps.toList 0).map V.int := by
  unfold enumP wrongL
  rw [List.filter_map, List.map_map, List.map_map]
  rfl
theorem signs_num (l : List Nat) : ((l.map fun c => V.str ⟨#[c]⟩).map fun v => V.int (hval (sgn v))) = (l.map fun c => (hval c : Int)).map V.int := by
  rw [List.map_map, List.map_map]
  rfl
end BJ

/-! defs called with keywords; loops that evaluate -/
namespace BJ
open PySem PySem.Spec PyProof.Rows L2 Evl
open PySem.W (Frag kitOne kitAny)
/-- positional values, then the keywords' (n and m of them) -/
def gKw (n m : Nat) {α : Type} (us ws : List α) : List α := if us.length = n ∧ ws.length = m then us ++ ws else []
section
variable {P : Program} {w : World} {K : Frag} {mg : Str → Option Value} {base : Heap}
theorem kb_of {x qual : Str} {st : Stmt} {f : Addr} {fd : FuncData} {ps ks : List Str} {n m : Nat} (F : Fun K x qual st f fd) (hne : 0 < ps.length)
    (h : ∀ (kV doc pm : Value) (an : Option Addr) (cdv ct : Value) (us ws : List Value), us.length = n → ws.length = m → bindArgs (PySem.W.fnOf x qual (defArgs st) (defBody st) (defScope st) .none kV doc pm an cdv ct) ⟨us, ks.zip ws⟩ = pure (ps.zip (us ++ ws))) :
    KBinds K fd ps ks (gKw n m) (gKw n m) := by
  obtain ⟨oc, od, kV, doc, pm, an, cdv, ct, osl, rfl, lk, hcd⟩ := F.ex
  refine ⟨fun s us ws _ hl => ?_, fun r rz => ?_⟩
  · by_cases hh : us.length = n ∧ ws.length = m
    · have e : gKw n m us ws = us ++ ws := if_pos hh
      rw [e]
      exact .of_eq (h kV doc pm an cdv ct us ws hh.1 hh.2)
    · have e : gKw n m us ws = [] := if_neg hh
      rw [e] at hl
      simp at hl
      omega
  · unfold gKw
    rw [r.length, rz.length]
    split
    · exact r.append rz
    · exact .nil
theorem fnP {x qual : Str} {st : Stmt} {f : Addr} {k : Nat} {ps : List Str} {sp : Sp} (h : ∃ fd, FnG P w K mg base k f fd ps sp ∧ Binds K fd ps [] ∧ Fun K x qual st f fd) : CallP P w K mg base k (.ref f) sp := by
  obtain ⟨fd, F, hb, _⟩ := h
  have q := F.callP (dvs := []) hb .nil
  rintro A outer s H us ws vs zs Q E room hg e0 rel relz ⟨hz, prom⟩
  exact q A outer s H us ws vs zs Q E room hg e0 rel relz ⟨hz, show sp (vs ++ []) H Q E by rw [List.append_nil]; exact prom⟩
theorem fnK {x qual : Str} {st : Stmt} {f : Addr} {k : Nat} {ps ks : List Str} {sp : Sp} {n m : Nat} (h : ∃ fd, FnG P w K mg base k f fd ps sp ∧ Binds K fd ps [] ∧ Fun K x qual st f fd) (hne : 0 < ps.length)
    (hk : ∀ (kV doc pm : Value) (an : Option Addr) (cdv ct : Value) (us ws : List Value), us.length = n → ws.length = m → bindArgs (PySem.W.fnOf x qual (defArgs st) (defBody st) (defScope st) .none kV doc pm an cdv ct) ⟨us, ks.zip ws⟩ = pure (ps.zip (us ++ ws))) :
    CallG P w K mg base k (.ref f) ks fun vs zs H Q E => sp (gKw n m vs zs) H Q E := by
  obtain ⟨fd, F, _, F2⟩ := h
  exact F.callK (kb_of F2 hne hk)
end
section
variable {K : Frag} {σ : L2.St} {H : Hp} {z : V} {tl te : TE} {tt : TT} {tb : TS} {wi : TI} {vs : List Nat} {xs : List V} {D : Ends}
/-- a for whose turns lay objects and change none; Pr: what stands of the slots -/
theorem s_forE {j : Nat} (Pr : L2.St → Prop) (hi : EvI wi σ H xs) (h0 : Pr σ)
    (hs : ∀ x ∈ xs, ∀ σ' H', Pr σ' → Ex H H' → ∀ N : L2.St → Hp → Prop, (∀ σ2 H2, Pr σ2 → Ex H' H2 → N σ2 H2) → tb { D with nx := N, ct := N, bk := D.nx } (σ'.set j (some x)) H')
    (hd : ∀ σ' H', Pr σ' → Ex H H' → D.nx σ' H') : tFor wi (gName j) tb D σ H :=
  hi H (Ex.refl H) _ fun H2 J G e w hG => for_it w (fun _ σ' H' => Pr σ' ∧ Ex H2 H') ⟨h0, Ex.refl _⟩ (fun i σ' H' _ p => hG H' p.2) (fun i x σ' H3 H4 hi p y => by
    obtain ⟨y1, y2⟩ := y
    subst y1
    exact hs x (List.mem_of_getElem? y2) σ' H4 p.1 (e.trans p.2) _ fun σ2 H2' q1 q2 => ⟨q1, p.2.trans q2⟩) fun σ' H' p => hd σ' H' p.1 (e.trans p.2)
theorem repS_eq {c n : Nat} : (repS c n).cps.toList = List.replicate n c := by simp [repS]
theorem find_rep {c : Nat} (h : hok c = true) : ∀ n, (List.replicate n c).findIdx? (fun c => !hok c) = none := fun n => by
  rw [List.findIdx?_eq_none_iff]
  intro d hd
  rw [(List.mem_replicate.mp hd).2, h]
  rfl
theorem pairs_rep (c : Nat) : ∀ m, pairs (List.replicate (2 * m) c) = List.replicate m (16 * (hval c : Int) + (hval c : Int))
  | 0 => rfl
  | m + 1 => by
    rw [show 2 * (m + 1) = 2 * m + 1 + 1 by omega, List.replicate_succ, List.replicate_succ]
    unfold pairs
    rw [pairs_rep c m, List.replicate_succ]
theorem hexL_rep (i : Int) : ∀ m, hexd (i / 16).toNat = hexd (i % 16).toNat → hexL (List.replicate m i) = List.replicate (2 * m) (hexd (i % 16).toNat)
  | 0, _ => rfl
  | m + 1, h => by
    have ih := hexL_rep i m h
    unfold hexL at ih ⊢
    rw [List.replicate_succ, List.flatMap_cons, ih, show 2 * (m + 1) = 2 * m + 1 + 1 by omega, List.replicate_succ, List.replicate_succ, h]
    rfl
theorem str_ext {x y : Str} (h : x.cps.toList = y.cps.toList) : x = y := by
  cases x with
  | mk a =>
    cases y with
    | mk b =>
      have : a = b := Array.toList_inj.mp h
      rw [this]
theorem hexS_rep (i : Int) (m : Nat) (h : hexd (i / 16).toNat = hexd (i % 16).toNat) : hexS (List.replicate m i) = repS (hexd (i % 16).toNat) (2 * m) := str_ext (by rw [hexS_tl, hexL_rep i m h, repS_eq])
end
end BJ

namespace BJ
open PySem PySem.Spec PyProof.Rows L2 Evl
open PySem.W (Frag kitOne kitAny)
section
variable {X : Cx} {K : Frag}
/-- the same rules where the Frag is named (inside a comprehension) -/
theorem op_eqD' (hK : X.K = K) (hu : X.A.units + 64 < cLine) : OpR X (compareOp .Eq) (rEqD K) := hK ▸ op_eqD hu
theorem op_neD' (hK : X.K = K) (hu : X.A.units + 64 < cLine) : OpR X (compareOp .NotEq) (rNeD K) := hK ▸ op_neD hu
theorem call_isG' (hK : X.K = K) : CallR X (.builtin "isinstance") (rIsG K) := hK ▸ call_isG
theorem call_reprQ' {k : Nat} (hK : X.K = K) (hr : Room k X.A) (hG : X.A.guards = some []) : CallR X (.builtin "repr") (rReprQ K) := hK ▸ call_reprQ hr hG
theorem ix_list' (hK : X.K = K) : IxR X (rIxL K) := hK ▸ ix_list
theorem ix_tup' (hK : X.K = K) : IxR X (rIxT K) := hK ▸ ix_tup
end
theorem dueD_rep {c n m : Nat} (hc : hok c = true) (hn : n = 2 * m) (hm : m ≤ 50000) : dueD (repS c n).cps.toList = dT (List.replicate m (16 * (hval c : Int) + (hval c : Int))) := by
  subst hn
  rw [repS_eq]
  unfold dueD due
  rw [find_rep hc, List.length_replicate]
  simp only
  rw [if_neg (by omega), if_neg (by omega), pairs_rep]
theorem dueD_big {c n : Nat} (hc : hok c = true) (hn : n % 2 = 0) (hm : 100000 < n) : dueD (repS c n).cps.toList = dL [100000] := by
  rw [repS_eq]
  unfold dueD due
  rw [find_rep hc, List.length_replicate]
  simp only
  rw [if_neg (by omega), if_pos hm]
section
variable {K : Frag} {σ : L2.St} {H : Hp} {z : V} {tl te : TE} {tt : TT} {tb tz : TS} {wi : TI} {vs : List Nat} {xs : List V} {D : Ends}
theorem q_forE {j : Nat} (Pr : L2.St → Prop) (hi : EvI wi σ H xs) (h0 : Pr σ)
    (hs : ∀ x ∈ xs, ∀ σ' H', Pr σ' → Ex H H' → ∀ N : L2.St → Hp → Prop, (∀ σ2 H2, Pr σ2 → Ex H' H2 → N σ2 H2) → tb { D with nx := N, ct := N, bk := tz D } (σ'.set j (some x)) H')
    (hd : ∀ σ' H', Pr σ' → Ex H H' → tz D σ' H') : tSeq (tFor wi (gName j) tb) tz D σ H :=
  s_forE (D := { D with nx := tz D }) Pr hi h0 hs hd
theorem rv_mulS {x : Str} {c n : Nat} (hx : x = ⟨#[c]⟩) (h2 : 2 ≤ n) (hn : n ≤ sizeLine) {H : Hp} : RV rMulS (.str x) (.int (n : Int)) H (.str (repS c n)) := fun H1 _ Q q => ⟨c, n, by rw [hx], rfl, h2, hn, q H1 (Ex.refl _)⟩
theorem eu_rep {n : Nat} {v : V} (h : Ev te σ H v) (h2 : 2 ≤ n) (hn : n ≤ 16777216) : EvU (tOp (rRep1 K) (tTup (tCons te tNil)) (tC (.int (n : Int)))) σ H (List.replicate n v) := fun H1 e Q q =>
  h H1 e _ fun H2 e2 => ⟨(by show 1 ≤ sizeLine; decide), fun p hp => ⟨p, n, v, rfl, rfl, st_of upd_same, h2, hn, fun r hr => q r _ (fresh_back (e2.trans (Ex.new hp)) hr) ((e2.trans (Ex.new hp)).trans (Ex.new hr)) upd_same⟩⟩
theorem lc_atA {J : It} {G : Hp → Prop} (w : Walk J xs.length G (YAt xs)) {j : Nat} {H1 : Hp} {Q : Addr → Hp → Prop} (f : V → Bool) (F : V → V) (hn : xs.length ≤ 1000000)
    (hG : ∀ H, Ex H1 H → G H) (hw : ∀ x, wipe ((wipe σ vs).set j (some x)) vs = wipe σ vs)
    (ht : ∀ x ∈ xs, EvT tt ((wipe σ vs).set j (some x)) H1 (f x)) (he : ∀ x ∈ xs, f x = true → Ev te ((wipe σ vs).set j (some x)) H1 (F x))
    (k : ∀ D H', H1 D = none → Ex H1 H' → H' D = some (.lst ((xs.filter f).map F)) → Q D H') :
    ∀ D, H1 D = none → ∃ W : Nat → Nat → Hp → Prop, (∃ m, W 0 m (upd H1 D (.lst []))) ∧ ∀ i m H, W i m H →
      (J.stop i H ∧ Q D H) ∨ (J.go i H ∧ ∃ Nx : Hp → Prop, (∀ H', Nx H' → ∃ m', m' < m ∧ W (i + 1) m' H') ∧ ∀ x H', J.yld i H x H' → gName j x (wipe σ vs) H' fun σ2 H2 => wipe σ2 vs = wipe σ vs ∧ tt σ2 H2 fun b H3 =>
        if b = true then te σ2 H3 fun y H4 => ∃ acc, H4 D = some (.lst acc) ∧ acc.length < sizeLine ∧ Nx (upd H4 D (.lst (acc ++ [y]))) else Nx H3) :=
  lc_at (Q := fun v H => match v with | .ref D => Q D H | _ => False) w f F hn hG hw ht he k
theorem rep_int (n : Nat) (i : Int) : List.replicate n (V.int i) = (List.replicate n i).map V.int := by rw [List.map_replicate]
end
end BJ

/-! own exceptions made with keywords; exceptions as values -/
namespace BJ
open PySem PySem.Spec Builtin Builtin.ObjectAttr
open PySem.W (Looks Frag findIn subIn nsIn typeIn keepIn codeIn hasDictIn clsIn takerIn excInitIn excOver excObj KxsFacts ksFn ksEnv ks_superIn isFn looks_findIn looks_clsIn InstAt kxs_mw)
open HandSPX
section
variable {M : Model} {A : Around} {E : Value → Shared → Prop} {h : Heap} {g : Array GenState} {d : Drawn} {t : Nat} {os : OsState}
variable {nm q : Str} {C N : Addr} {bs bm bmB : List Value} {hdct : Bool} {sn : List Str} {sub : List Value} {ab : Bool} {col : Option Bool} {dd : Option Addr} {k0 k1 k2 k3 k5 : Option Value} {B newId initId : String}
theorem check_new_kw (F : ExcBaseFacts B newId initId bmB) (hT : ∀ X : String, bm.contains (.type X) = bmB.contains (.type X)) {kw : List (Str × Value)} {Q : Unit → Shared → Prop}
    (hC : h.get? C = some (excClassObj nm q C N bs bm hdct sn sub ab col dd k0 k1 k2 k3 k5 newId)) (hq : Q () ⟨h, g, d, t, os⟩) : wpAny M A (checkBuiltinCall newId ⟨[.ref C], kw⟩) Q E ⟨h, g, d, t, os⟩ := by
  have hcont : (Value.ref C :: bm).contains (.type B) = true := by
    rw [List.contains_cons, hT, F.hasB, Bool.or_true]
  have hstar := F.noStar
  simp only [checkBuiltinCall, F.newKind, F.newSplit, F.newRow]
  repeat (first
    | refine wpAny_loadPart_at hC ?_
    | (refine wpAny_isSubtype_exc hC ?_; rw [hcont])
    | refine wpAny_staticBase_exc hC ?_
    | refine wpAny_madeBy_exc hC ?_
    | simp only [bne_self_eq_false, Bool.false_eq_true, if_false]
    | wp_step)
  exact hq
end
section
variable {prog : Program} {w : World} {A : Around} {E : Value → Shared → Prop} {R : Result → Shared → Prop} {h : Heap} {g : Array GenState} {d : Drawn} {t : Nat} {os : OsState}
variable {nm q : Str} {C N : Addr} {bs bm bmB : List Value} {hdct : Bool} {sn : List Str} {sub : List Value} {ab : Bool} {col : Option Bool} {dd : Option Addr} {k0 k1 k2 k3 k5 : Option Value} {B newId initId : String}
theorem new_kw (F : ExcBaseFacts B newId initId bmB) (hT : ∀ X : String, bm.contains (.type X) = bmB.contains (.type X)) {kw : List (Str × Value)}
    (hC : h.get? C = some (excClassObj nm q C N bs bm hdct sn sub ab col dd k0 k1 k2 k3 k5 newId))
    (hq : R (.ok (.ret (.ref (h.objs.size + 1)))) ⟨(h.push { cls := .type "tuple", data := .seq #[] }).push (excO C h.objs.size), g, d, t, os⟩) :
    codeAny (model prog w) A (.builtin newId ⟨[.ref C], kw⟩) R ⟨h, g, d, t, os⟩ := by
  have hends := F.ends
  have hcB : (Value.ref C :: bm).contains (.type B) = true := by
    rw [List.contains_cons, hT, F.hasB, Bool.or_true]
  have hcA : (Value.ref C :: bm).contains (.type "AttributeError") = false := by
    rw [List.contains_cons, hT, F.noAttr]; rfl
  have hcN : (Value.ref C :: bm).contains (.type "NameError") = false := by
    rw [List.contains_cons, hT, F.noName]; rfl
  refine codeAny_builtinAt F.entry ?_
  unfold Builtin.«BaseException.__new__»
  refine wpAt_bind ?_
  show wpAt _ _ _ (stack >>= _) _ _ _
  refine wpAt_bind (wpAt_stack fun p below => wpAt_of_wpAny ?_)
  wp_walk
  refine wpAt_of_wpAny ?_
  rw [F.owner]
  repeat (first
    | with_reducible refine wpAny_madeHere_exc F.canon hC ?_
    | with_reducible refine wpAny_loadPart_at hC ?_
    | (with_reducible refine wpAny_isSubtype_exc hC ?_; first | rw [hcB] | rw [hcA] | rw [hcN])
    | wp_step)
  show R _ _
  rw [Heap.size_push]
  exact hq
theorem type_call_kw (F : ExcBaseFacts B newId initId bmB) (hT : ∀ X : String, bm.contains (.type X) = bmB.contains (.type X)) {kw : List (Str × Value)} {fI : Addr} {Q : Fin → Shared → Prop}
    (hC : h.get? C = some (excClassObj nm q C N bs bm hdct sn sub ab col dd k0 k1 k2 k3 k5 newId))
    (hi : Looks (model prog w) h (typeLookup (.ref C) "__init__") (some (.ref fI))) (hb : ∀ self, Looks (model prog w) h (bindSpecial (.ref fI) self) (.ref fI, [self]))
    (hq : codeAny (model prog w) A (.call (.ref fI) ⟨[.ref (h.objs.size + 1)], kw⟩)
      (fun r s' => match r with | .ok (.ret v) => v = .none ∧ Q (.done (.ret (.ref (h.objs.size + 1)))) s' | .ok _ => False | .error e => E e s')
      ⟨(h.push (PySem.W.kdv_tup [])).push (excO C h.objs.size), g, d, t, os⟩) :
    wpAny (model prog w) A (Builtin.«type.__call__» ⟨[.ref C], kw⟩) Q E ⟨h, g, d, t, os⟩ := by
  repeat (first
    | with_reducible refine wpAny_loadPart_at hC ?_
    | with_reducible refine wpAny_madeBy_exc hC ?_
    | wp_step)
  refine codeAny_call_builtin_code (Code.quiet_builtin _ F.quiet) (check_new_kw F hT hC ?_)
  refine new_kw F hT hC ?_
  show wpAny _ _ _ _ _ _
  have k : ∀ b o, h.get? b = some o → ((h.push (PySem.W.kdv_tup [])).push (excO C h.objs.size)).get? b = some o := fun b o e => Heap.get?_push_of_some _ (Heap.get?_push_of_some _ e)
  have hC₁ := k _ _ hC
  have hget : ((h.push (PySem.W.kdv_tup [])).push (excO C h.objs.size)).get? (h.objs.size + 1) = some (excO C h.objs.size) := by heap_get
  have hcC : (Value.ref C :: bm).contains (.ref C) = true := by simp
  have i1 := hi.keeps k
  have b1 := (hb (.ref (h.objs.size + 1))).keeps k
  unfold isInstance
  repeat (first
    | with_reducible refine wpAny_loadPart_at hget ?_
    | (with_reducible refine wpAny_isSubtype_exc hC₁ ?_; rw [hcC])
    | wp_step)
  show wpAny _ _ (typeLookup (.ref C) _) _ _ _
  refine i1.at ?_
  refine wpAny_holding (wpAny_bind (b1.at ?_))
  refine wpAny_bind (wpAny_call (codeAny_mono hq fun r s' z => ?_))
  rcases r with e | (v | _ | _ | _)
  case error => exact z
  case ok.ret =>
    obtain ⟨rfl, z⟩ := z
    first
      | exact wpAny_pure (wpAny_pure z)
      | (wp_walk; exact z)
  all_goals exact z.elim
theorem check_tc_kw {M : Model} {E : Value → Shared → Prop} {kw : List (Str × Value)} {Q : Unit → Shared → Prop} (hC : h.get? C = some (excClassObj nm q C N bs bm hdct sn sub ab col dd k0 k1 k2 k3 k5 newId))
    (hq : Q () ⟨h, g, d, t, os⟩) : wpAny M A (checkBuiltinCall "type.__call__" ⟨[.ref C], kw⟩) Q E ⟨h, g, d, t, os⟩ := by
  have f3 := tc_sub
  have hTy : (⟨h, g, d, t, os⟩ : Shared).TypeIs (.ref C) "type" := ⟨_, hC, rfl⟩
  simp only [checkBuiltinCall, tc_kind, tc_split]
  repeat (any_goals (first
    | assumption
    | with_reducible refine wpAny_loadPart_at hC ?_
    | with_reducible refine wpAny_onRaise ?_
    | with_reducible refine wpAny_map ?_
    | wp_step))
theorem call_kw (F : ExcBaseFacts B newId initId bmB) (hT : ∀ X : String, bm.contains (.type X) = bmB.contains (.type X)) {kw : List (Str × Value)} {fI : Addr}
    (hC : h.get? C = some (excClassObj nm q C N bs bm hdct sn sub ab col dd k0 k1 k2 k3 k5 newId))
    (hi : Looks (model prog w) h (typeLookup (.ref C) "__init__") (some (.ref fI))) (hb : ∀ self, Looks (model prog w) h (bindSpecial (.ref fI) self) (.ref fI, [self]))
    (hq : codeAny (model prog w) (A.under (.builtin "type.__call__" ⟨[.ref C], kw⟩)) (.call (.ref fI) ⟨[.ref (h.objs.size + 1)], kw⟩) (PySem.W.InitBack (h.objs.size + 1) R)
      ⟨(h.push (PySem.W.kdv_tup [])).push (excO C h.objs.size), g, d, t, os⟩) :
    codeAny (model prog w) A (.call (.ref C) ⟨[], kw⟩) R ⟨h, g, d, t, os⟩ := by
  have f1 := tc_lookup
  have f2 := tc_bind (.ref C)
  have hTy : (⟨h, g, d, t, os⟩ : Shared).TypeIs (.ref C) "type" := ⟨_, hC, rfl⟩
  refine codeAny_of_tree ?_
  show wpAny _ _ (callAny (.ref C) _) _ _ _
  repeat (any_goals (first
    | assumption
    | with_reducible refine wpAny_loadPart_at hC ?_
    | wp_step))
  refine ⟨rfl, ?_⟩
  refine codeAny_call_builtin_at (Code.quiet_builtin _ (by decide +kernel)) entry_typeCall (check_tc_kw hC (type_call_kw F hT hC hi hb ?_))
  refine codeAny_mono hq fun r s' z => ?_
  rcases r with e | (v | _ | _ | _) <;> exact z
end
end BJ
namespace BJ
open PySem PySem.Spec PyProof.Rows L2 Builtin Builtin.ObjectAttr
open PySem.W (Looks Frag findIn subIn nsIn typeIn keepIn codeIn hasDictIn clsIn takerIn excInitIn excOver excObj KxsFacts ksFn ksEnv ks_superIn isFn looks_findIn looks_clsIn InstAt kxs_mw)
/-- how keywords ks bind to the fields (rev: the other way round) -/
def gR (rev : Bool) {α : Type} (ws : List α) : List α := if rev then ws.reverse else ws
theorem vals_rev : ∀ {vs : List V} {us : List Value}, Vals vs us → Vals vs.reverse us.reverse
  | _, _, .nil => .nil
  | _, _, .cons h t => by
    rw [List.reverse_cons, List.reverse_cons]
    exact (vals_rev t).append (.cons h .nil)
theorem gR_vals {rev : Bool} {vs : List V} {us : List Value} (h : Vals vs us) : Vals (gR rev vs) (gR rev us) := by
  cases rev with
  | true => exact vals_rev h
  | false => exact h
theorem gR_len {rev : Bool} {α : Type} (ws : List α) : (gR rev ws).length = ws.length := by cases rev <;> simp [gR]
structure IniKw (K : Frag) (fI : Addr) (fs ks : List Str) (rev : Bool) : Prop where
  len : ks.length = fs.length
  bind : ∀ fd, (∃ oc od osl, K.lookup fI = some ⟨oc, od, .func fd, osl⟩) → ∀ (u : Value) (ws : List Value), ws.length = fs.length → bindArgs fd ⟨[u], ks.zip ws⟩ = pure ((("self" : Str), u) :: fs.zip (gR rev ws))
section
variable {prog : Program} {w : World} {A : Around} {E : Value → Shared → Prop} {R : Result → Shared → Prop} {s : Shared} {K : Frag} {mg : Str → Option Value} {base : Heap}
  {B initId newId : String} {bm : List Value} {C fI cc cda x : Addr} {cn qual t : Str} {fs ks : List Str} {rev : Bool}
theorem err_madeK (T : ErrK prog K mg C fI cc cda B initId newId bm cn fs) (N : IniK K fI cc cda qual t fs) (N2 : IniKw K fI fs ks rev) (M0 : Mod K mg base) {ws : List Value} (hul : ws.length = fs.length)
    (kb : ∀ b o, base.get? b = some o → s.heap.get? b = some o) (hroom : A.depth + 1 < recursionLimit)
    (hq : ∀ h' tk e d, ErrMade s.heap h' e C d (putM fs (fun f => ((fs.zip (gR rev ws)).lookup f).getD .none) fun _ => none) → R (.ok (.ret (.ref e))) { s with heap := h', toks := tk }) :
    codeAny (model prog w) A (.call (.ref C) ⟨[], ks.zip ws⟩) R s := by
  have X : K.In s.heap := M0.kin.keeps kb
  obtain ⟨nm, N', qn, bs, bm', hdct, sn, sub, ab, col, dd, k0, k1, k2, k3, k5, hC, hT⟩ := PySem.W.excInit_of X T.ini
  obtain ⟨oI, hoI, hcI⟩ := err_fn T X
  obtain ⟨hp, g, dr, tk, os⟩ := s
  have old : ∀ b o, hp.get? b = some o → ((hp.push (PySem.W.kdv_tup [])).push (HandSPX.excO C hp.objs.size)).get? b = some o := fun b o e => Heap.get?_push_of_some _ (Heap.get?_push_of_some _ e)
  have hget : ((hp.push (PySem.W.kdv_tup [])).push (HandSPX.excO C hp.objs.size)).get? (hp.objs.size + 1) = some (HandSPX.excO C hp.objs.size) := by heap_get
  have hnx : K.lookup (hp.objs.size + 1) = none := by
    cases e : K.lookup (hp.objs.size + 1) with
    | none => rfl
    | some o => exact absurd (Nat.lt_of_succ_lt (Heap.lt_size (show hp.get? _ = some o from X _ _ e))) (Nat.lt_irrefl _)
  refine call_kw T.fam.FB hT hC (looks_findIn X T.iC) (fun self => PySem.W.exc_bind hoI hcI self) ?_
  refine err_init (x := hp.objs.size + 1) (t0 := hp.objs.size) (us := gR rev ws) (s := ⟨(hp.push (PySem.W.kdv_tup [])).push (HandSPX.excO C hp.objs.size), g, dr, tk, os⟩) T N M0 (by rw [gR_len, hul]) (fun b o e => old b o (kb b o e)) hget hnx ?_
    (fun fd hfd => BindsTo.of_eq (N2.bind fd hfd _ ws hul)) fun h' tk' d t1 k' dz hx n' => ?_
  · show A.depth + 1 < recursionLimit
    exact hroom
  · have dz' : hp.objs.size + 1 + 1 ≤ d := by
      have q := dz
      rw [Heap.size_push, Heap.size_push] at q
      exact q
    exact ⟨rfl, hq h' tk' (hp.objs.size + 1) d ⟨fun b o e => k' b o (Nat.ne_of_lt (Nat.lt_succ_of_lt (Heap.lt_size e))) (old b o e), Nat.le_succ _, ⟨_, hx⟩, Nat.le_trans (Nat.le_trans (Nat.le_succ _) (Nat.le_succ _)) dz', (Nat.ne_of_lt (Nat.lt_of_succ_le dz')).symm, n'⟩⟩
end
section
variable {X : Cx} {C fI cc cda : Addr} {B initId newId : String} {bm : List Value} {cn qual t : Str} {fs ks : List Str} {rev : Bool} {pins : List (Addr × Obj)} {σ : L2.St} {H : Hp} {s : Shared}
/-- a made exception is tracked -/
theorem Inv.made {h' : Heap} {a d : Addr} {tk' : Nat} {vs : List V} {us : List Value} (I : Inv X pins σ H s) (M : ErrMade s.heap h' a C d (putM fs (fun f => ((fs.zip us).lookup f).getD .none) fun _ => none)) (r : Vals vs us) (hvl : vs.length = fs.length) :
    ∃ H2, Inv X pins σ H2 { s with heap := h', toks := tk' } ∧ Evl.Ex H H2 ∧ H a = none ∧ ExcAt H2 a C d (fs.zip vs) := by
  obtain ⟨t0, ha'⟩ := M.obj
  obtain ⟨G', g1, g2⟩ := restrict h' fun b => decide (b ≠ a)
  have gk : ∀ b, b ≠ a → G'.get? b = h'.get? b := fun b hb => g1 b (decide_eq_true hb)
  have ge : G'.get? a = none := g2 a (by simp)
  have gold : ∀ b o, s.heap.get? b = some o → G'.get? b = some o := fun b o q => (gk b (Nat.ne_of_lt (Nat.lt_of_lt_of_le (Heap.lt_size q) M.new))).trans (M.keep b o q)
  have ob : ObjOk X.prog X.w (upd H d (.xd (fs.zip vs))) G' d (.xd (fs.zip vs)) := ⟨_, M.ns.at (fun o q => (gk d M.dne).trans q), relO_putM r hvl⟩
  have J : Inv X pins σ (upd H d (.xd (fs.zip vs))) { s with heap := G', toks := tk' } := I.laid (t' := tk') gold M.dnew ob
  have subs : ∀ b o, G'.get? b = some o → h'.get? b = some o := fun b o q => by
    by_cases hb : b = a
    · rw [hb, ge] at q; cases q
    · exact (gk b hb).symm.trans q
  have ha0 : H a = none := I.hok.fresh M.new
  have hd0 : H d = none := I.hok.fresh M.dnew
  have na : upd H d (.xd (fs.zip vs)) a = none := by rw [upd_ne (Ne.symm M.dne)]; exact ha0
  have J2 : Inv X pins σ (upd (upd H d (.xd (fs.zip vs))) a (ExcK a (.ref C) (some d))) { s with heap := h', toks := tk' } := J.laidN (h' := h') (t' := tk') subs ge na (excK_ok ha' ⟨rfl, rfl⟩ rfl)
  exact ⟨_, J2, (Evl.Ex.new hd0).trans (Evl.Ex.new na), ha0, upd_same, by rw [upd_ne M.dne]; exact upd_same⟩
/-- C(e, ..), the exception as a value -/
def tErrE (C : Addr) (fs : List Str) (ta : TA) : TE := fun σ H Q => ta σ H fun vs H1 => vs.length = fs.length ∧ ∀ a d H2, H1 a = none → Evl.Ex H1 H2 → ExcAt H2 a C d (fs.zip vs) → Q (.ref a) H2
theorem pe_err {e : Expr} {es : List Expr} {ta : TA} {p pos : Pos} (T : ErrK X.prog X.K X.mg C fI cc cda B initId newId bm cn fs) (N : IniK X.K fI cc cda qual t fs) (kC : keepIn X.K (.ref C) = true)
    {k : Nat} (hr : Room k X.A) (ha : PA X (e :: es) ta) (hg : Gl X cn) (hdb : (cn == ("__debug__" : Str)) = false := by decide)
    (he : starEach (e :: es) X.env = (false, eval e X.env) :: starEach es X.env := by rfl) (hpl : (backTo pos (starEach es X.env)).any (·.1) = false := by rfl) :
    PE X (.Call (.Name cn p) (e :: es) [] pos) (tErrE C fs ta) where
  run := by
    intro pins s σ H Q I h
    refine wpAny_Call_Name_kw (ld_glob I hg T.gC ?_ hdb)
    refine PySem.W.callWith_K (h₀ := X.base) I.ok.mod.kin kC (thn (ha.run pos pins s σ H _ I h) ?_) he hpl
    rintro us s1 ⟨vs, H1, I1, r1, hvl, q1⟩
    refine ⟨I1.kIn, ?_⟩
    show wpAny _ _ (call (.ref C) us) _ _ _
    have hul : us.length = fs.length := r1.length.symm.trans hvl
    have hbk := I1.bk
    refine wpAny_call (err_made T N I1.mod hul hbk (by have := hr.dp; omega) fun h' tk' a d M => ?_)
    obtain ⟨H2, J, e2, n2, at2⟩ := Inv.made (tk' := tk') I1 M r1 hvl
    exact ⟨.ref a, H2, J, rfl, q1 a d H2 n2 e2 at2⟩
/-- C(k = e, ..) -/
def tErrKw (C : Addr) (fs : List Str) (rev : Bool) (tk : TA) : TE := fun σ H Q => tk σ H fun zs H1 => zs.length = fs.length ∧ ∀ a d H2, H1 a = none → Evl.Ex H1 H2 → ExcAt H2 a C d (fs.zip (gR rev zs)) → Q (.ref a) H2
theorem pe_errK {kws : List Keyword} {tk : TA} {p pos : Pos} (T : ErrK X.prog X.K X.mg C fI cc cda B initId newId bm cn fs) (N : IniK X.K fI cc cda qual t fs) (N2 : IniKw X.K fI fs ks rev) (kC : keepIn X.K (.ref C) = true)
    {k : Nat} (hr : Room k X.A) (hkw : PK X kws tk) (hg : Gl X cn)
    (hall : (backToKw pos (keywordEach kws X.env)).all (·.1.isSome) = true := by rfl) (hks : (backToKw pos (keywordEach kws X.env)).filterMap (·.1) = ks := by rfl)
    (hdb : (cn == ("__debug__" : Str)) = false := by decide)
    (hpl : ((backTo pos (starEach [] X.env)).any (·.1) || (backToKw pos (keywordEach kws X.env)).any (·.1.isNone)) = false := by rfl) :
    PE X (.Call (.Name cn p) [] kws pos) (tErrKw C fs rev tk) where
  run := by
    intro pins s σ H Q I h
    refine wpAny_Call_Name_kw (ld_glob I hg T.gC ?_ hdb)
    refine PySem.W.callWith_KW0 (h₀ := X.base) I.ok.mod.kin kC hall (thn (hkw.run pos pins s σ H _ I h) ?_) hpl
    rintro ws s2 ⟨zs, H2, I2, rz, hvl, q2⟩
    rw [hks]
    have hul : ws.length = fs.length := rz.length.symm.trans hvl
    refine ⟨I2.kIn, wpAny_call (err_madeK T N N2 I2.mod hul I2.bk (by have := hr.dp; omega) fun h' tk' a d M => ?_)⟩
    obtain ⟨H3, J, e3, n3, at3⟩ := Inv.made (tk' := tk') I2 M (gR_vals rz) (by rw [gR_len, hvl])
    exact ⟨.ref a, H3, J, rfl, q2 a d H3 n3 e3 at3⟩
end
end BJ

/-! data with dicts in it, its repr; list.count(True) -/
namespace BJ
open PySem PySem.Spec PyProof.Rows L2 Evl
open PySem.W (Frag kitOne kitAny)
def keyD : Key → PyData
  | .inl i => .int i
  | .inr x => .str x
mutual
/-- data: atoms, lists, tuples, dicts whose keys are ints or texts -/
inductive Dz (K : Frag) (H : Hp) : V → PyData → Prop
  | non : Dz K H .non .none
  | bl (b : Bool) : Dz K H (.bl b) (.bool b)
  | int (i : Int) : Dz K H (.int i) (.int i)
  | str (x : Str) : Dz K H (.str x) (.str x)
  | lstN {a : Addr} {xs : List V} {ds : List PyData} : SqL K H a xs → sysModules ≠ a → DzAll K H xs ds → Dz K H (.ref a) (.list ds)
  | tup {a : Addr} {xs : List V} {ds : List PyData} : SqT K H a xs → DzAll K H xs ds → Dz K H (.ref a) (.tuple ds)
  | dict {a : Addr} {kvs : List (Key × V)} {ds : List PyData} : H a = some (.dK kvs) → DzAll K H (kvs.map (·.2)) ds → Dz K H (.ref a) (.dict ((kvs.map fun p => keyD p.1).zip ds))
inductive DzAll (K : Frag) (H : Hp) : List V → List PyData → Prop
  | nil : DzAll K H [] []
  | cons {v : V} {vs : List V} {d : PyData} {ds : List PyData} : Dz K H v d → DzAll K H vs ds → DzAll K H (v :: vs) (d :: ds)
end
mutual
theorem dz_ex {K : Frag} {H H' : Hp} (e : Ex H H') : ∀ {x : V} {d : PyData}, Dz K H x d → Dz K H' x d
  | _, _, .non => .non
  | _, _, .bl b => .bl b
  | _, _, .int i => .int i
  | _, _, .str x => .str x
  | _, _, .lstN h1 hs h2 => .lstN (ex_l e h1) hs (dzAll_ex e h2)
  | _, _, .tup h1 h2 => .tup (ex_t e h1) (dzAll_ex e h2)
  | _, _, .dict h1 h2 => .dict (e _ _ h1) (dzAll_ex e h2)
theorem dzAll_ex {K : Frag} {H H' : Hp} (e : Ex H H') : ∀ {xs : List V} {ds : List PyData}, DzAll K H xs ds → DzAll K H' xs ds
  | _, _, .nil => .nil
  | _, _, .cons h1 h2 => .cons (dz_ex e h1) (dzAll_ex e h2)
end
theorem Dz.lst {K : Frag} {H : Hp} {a : Addr} {xs : List V} {ds : List PyData} (h : SqL K H a xs) (hs : sysModules < a) (ha : DzAll K H xs ds) : Dz K H (.ref a) (.list ds) := .lstN h (Nat.ne_of_lt hs) ha
theorem dzAll_len {K : Frag} {H : Hp} : ∀ {xs : List V} {ds : List PyData}, DzAll K H xs ds → xs.length = ds.length
  | _, _, .nil => rfl
  | _, _, .cons _ h => by rw [List.length_cons, List.length_cons, dzAll_len h]
theorem dzAll_rep {K : Frag} {H : Hp} {x : V} {d : PyData} (h : Dz K H x d) : ∀ n, DzAll K H (List.replicate n x) (List.replicate n d)
  | 0 => .nil
  | n + 1 => .cons h (dzAll_rep h n)
theorem dz_ty {K : Frag} {H : Hp} {x : V} {d : PyData} (h : Dz K H x d) : TyX K H x (.type (tyN d)) := by
  cases h with
  | non => exact .base .non
  | bl b => exact .base (.bl b)
  | int i => exact .base (.int i)
  | str x => exact .base (.str x)
  | lstN h _ _ => exact ty_lst h
  | tup h _ => exact ty_tup h
  | dict h _ => exact .base (.dK h)
theorem key_reads {h : Heap} : ∀ {es : List DictEntry} {kvs : List (Key × Value)} {P : Program} {w : World}, Pairs (mixKind P w) es kvs → ReadsAll h (es.map (·.key)) (kvs.map fun p => keyD p.1) [] ∧ es.map (·.val) = kvs.map (·.2)
  | _, _, _, _, .nil => ⟨.nil, rfl⟩
  | _, _, _, _, .cons (e := e) (kv := kv) h1 h2 h3 => by
    obtain ⟨ih1, ih2⟩ := key_reads (h := h) h3
    refine ⟨?_, by rw [List.map_cons, List.map_cons, ih2, h2]⟩
    rw [List.map_cons, List.map_cons]
    obtain ⟨k, v⟩ := kv
    have rd : Reads h e.key (keyD k) [] := by
      rcases keyIs_shape h1 with ⟨i, t, rfl, h⟩ | ⟨x, t, rfl, h⟩
      · rw [h]; exact .int i t
      · rw [h]; exact .str x t
    exact .cons (as := []) (bs := []) rd ih1
section
variable {X : Cx} {pins : List (Addr × Obj)} {σ : L2.St} {H : Hp} {s : Shared}
theorem kv_of {kvs : List (Key × V)} {vs : List (Key × Value)} (h : KV kvs vs) : kvs.map (·.1) = vs.map (·.1) ∧ Vals (kvs.map (·.2)) (vs.map (·.2)) := by
  induction h with
  | nil => exact ⟨rfl, .nil⟩
  | cons h t ih => exact ⟨by rw [List.map_cons, List.map_cons, ih.1, h.1], .cons h.2 ih.2⟩
theorem dz_go {ds : List PyData} (ih : ∀ d ∈ ds, ∀ (v : V) (u : Value), Dz X.K H v d → RelV v u → ∃ as, Reads s.heap u d as ∧ sysModules ∉ as) :
    ∀ (es : List PyData) (ws : List V) (us : List Value), (∀ d ∈ es, d ∈ ds) → DzAll X.K H ws es → Vals ws us → ∃ bs, ReadsAll s.heap us es bs ∧ sysModules ∉ bs
  | [], _, _, _, h, r => by
    cases h
    cases r
    exact ⟨_, .nil, by simp⟩
  | d :: es, _, _, hm, h, r => by
    cases h with
    | cons h1 h2 =>
      cases r with
      | cons r1 r2 =>
        obtain ⟨as, q1, n1⟩ := ih d (hm d List.mem_cons_self) _ _ h1 r1
        obtain ⟨bs, q2, n2⟩ := dz_go ih es _ _ (fun d hd => hm d (List.mem_cons_of_mem _ hd)) h2 r2
        exact ⟨_, .cons q1 q2, fun z => (List.mem_append.mp z).elim n1 n2⟩
theorem dz_reads_n (I : Inv X pins σ H s) : ∀ (n : Nat) (d : PyData), sizeOf d ≤ n → ∀ (v : V) (u : Value), Dz X.K H v d → RelV v u → ∃ as, Reads s.heap u d as ∧ sysModules ∉ as := by
  intro n
  induction n with
  | zero =>
    intro d h
    cases d <;> simp at h
  | succ n ihn =>
    intro d hn v u h r
    cases h with
    | non =>
      cases r
      exact ⟨_, Reads.none, by simp⟩
    | bl b =>
      cases r
      exact ⟨_, Reads.bool b, by simp⟩
    | int i =>
      obtain ⟨t, rfl⟩ := r
      exact ⟨_, Reads.int i t, by simp⟩
    | str x =>
      obtain ⟨t, rfl⟩ := r
      exact ⟨_, Reads.str x t, by simp⟩
    | @lstN a xs ds hq hs ha =>
      cases r
      obtain ⟨its, rv, ⟨o, n, ho, hc, _, hd⟩, _⟩ := I.list hq
      obtain ⟨as, hr, hno⟩ := dz_go (fun d hd => ihn d (by have := List.sizeOf_lt_of_mem hd; simp at hn; omega)) ds _ its (fun _ h => h) ha rv
      refine ⟨_, Reads.list ho hc hd hr, fun hm => ?_⟩
      rcases List.mem_cons.mp hm with e | hm
      · exact absurd e hs
      · exact hno hm
    | @tup a xs ds hq ha =>
      cases r
      obtain ⟨its, rv, ⟨o, ho, hc, n, hd⟩, _⟩ := I.tuple hq
      obtain ⟨as, hr, hno⟩ := dz_go (fun d hd => ihn d (by have := List.sizeOf_lt_of_mem hd; simp at hn; omega)) ds _ its (fun _ h => h) ha rv
      exact ⟨_, Reads.tuple ho hc hd hr, hno⟩
    | @dict a kvs ds hq ha =>
      cases r
      obtain ⟨_, hsys, vs, hkv, o, es, ep, h1, h2, h3, _, h5, _⟩ := (show ObjOk X.prog X.w H s.heap a (.dK kvs) from I.hok a _ hq)
      obtain ⟨k1, k2⟩ := kv_of hkv
      obtain ⟨r1, r2⟩ := key_reads (h := s.heap) h5
      have hl : kvs.length = ds.length := by rw [← dzAll_len ha, List.length_map]
      have e1 : (((kvs.map fun p => keyD p.1).zip ds).map (·.1)) = vs.map fun p => keyD p.1 := by
        rw [List.map_fst_zip (by rw [List.length_map]; omega)]
        have := congrArg (List.map keyD) k1
        rw [List.map_map, List.map_map] at this
        exact this
      have e2 : (((kvs.map fun p => keyD p.1).zip ds).map (·.2)) = ds := List.map_snd_zip (by rw [List.length_map]; omega)
      have hsz : ∀ d ∈ ds, sizeOf d ≤ n := fun d hd => by
        have m1 : d ∈ ((kvs.map fun p => keyD p.1).zip ds).map (·.2) := by rw [e2]; exact hd
        obtain ⟨p, hp, rfl⟩ := List.mem_map.mp m1
        have := List.sizeOf_lt_of_mem hp
        obtain ⟨p1, p2⟩ := p
        simp only [PyData.dict.sizeOf_spec, Prod.mk.sizeOf_spec] at this hn
        show sizeOf p2 ≤ n
        omega
      obtain ⟨bs, q2, n2⟩ := dz_go (fun d hd => ihn d (hsz d hd)) ds _ _ (fun _ h => h) ha k2
      refine ⟨_, Reads.dict (as := []) (bs := bs) h1 h2.1 h3 (by rw [e1]; exact r1) (by rw [e2, r2]; exact q2), fun hm => ?_⟩
      rcases List.mem_cons.mp hm with e | hm
      · rw [← e] at hsys
        simp at hsys
      · exact n2 (by simpa using hm)
theorem dz_reads (I : Inv X pins σ H s) (d : PyData) (v : V) (u : Value) (h : Dz X.K H v d) (r : RelV v u) : ∃ as, Reads s.heap u d as ∧ sysModules ∉ as := dz_reads_n I _ d (Nat.le_refl _) v u h r
end
/-- what repr asks of data, dicts among it -/
structure ShowsZ (d : PyData) : Prop where
  s : d.showable = true
  p : d.depth ≤ 40
  z : d.shown.length ≤ sizeLine
section
variable {X : Cx} {K : Frag}
def rReprZ (K : Frag) : List V → Hp → VK → Prop := fun xs H Q => ∃ (x : V) (d : PyData), xs = [x] ∧ Dz K H x d ∧ ShowsZ d ∧ Q (.str d.shown) H
theorem call_reprZ {k : Nat} (hK : X.K = K) (hr : Room k X.A) (hG : X.A.guards = some []) : CallR X (.builtin "repr") (rReprZ K) := by
  subst hK
  rintro pins s σ H xs us Q I r ⟨x, d, rfl, hd, sh, q⟩
  obtain ⟨u, rfl, r1⟩ := vals1 r
  obtain ⟨as, hrd, hn⟩ := dz_reads I d x u hd r1
  have fin : ∀ (h' : Heap) (t : Tok) (tk : Nat), (∀ b o, s.heap.get? b = some o → h'.get? b = some o) → EP X pins σ Q (.str d.shown t) { s with heap := h', toks := tk } := fun h' t tk kk => ⟨.str d.shown, H, I.kept (t' := tk) kk, ⟨t, rfl⟩, q⟩
  have hsz := sh.z
  have hdep := sh.p
  cases hrd with
  | none => exact PySem.P.repr_of_none (by simpa [PyData.shown] using fin s.heap _ _ fun _ _ e => e)
  | bool b => exact PySem.P.repr_of_bool (by cases b <;> simpa [PyData.shown] using fin s.heap _ _ fun _ _ e => e)
  | int i t => exact PySem.P.repr_of_int (by simpa [PyData.showable] using sh.s) (by simpa [PyData.shown] using fin s.heap _ _ fun _ _ e => e)
  | str y t => exact PySem.P.repr_of_str (by simpa [PyData.shown] using fin s.heap _ _ fun _ _ e => e) (by simpa [PyData.shown] using hsz)
  | list h1 h2 h3 h4 => exact repr_of_reads' (.list h1 h2 h3 h4) sh.s (fun _ => hn) hG (by have := hr.un; omega) (fun _ _ e => e) (fun h' t tk kk => fin h' t tk kk) hsz
  | tuple h1 h2 h3 h4 => exact repr_of_reads' (.tuple h1 h2 h3 h4) sh.s (fun _ => hn) hG (by have := hr.un; omega) (fun _ _ e => e) (fun h' t tk kk => fin h' t tk kk) hsz
  | dict h1 h2 h3 h4 h5 => exact repr_of_reads' (.dict h1 h2 h3 h4 h5) sh.s (fun _ => hn) hG (by have := hr.un; omega) (fun _ _ e => e) (fun h' t tk kk => fin h' t tk kk) hsz

/-! ### bs.count(b), a list of bools -/
def eqb (k : Bool) (v : Value) : Bool := match v with
  | .bool n => n == k
  | _ => false
theorem bools_of_vals : ∀ {bs : List Bool} {us : List Value}, Vals (bs.map V.bl) us → us = bs.map Value.bool
  | [], _, h => by cases h; rfl
  | b :: bs, _, .cons h t => by
    cases (show _ = Value.bool b from h)
    rw [bools_of_vals t]
    rfl
theorem eqb_count (k : Bool) : ∀ bs : List Bool, (bs.map Value.bool).countP (eqb k) = bs.count k
  | [] => rfl
  | b :: bs => by
    rw [List.map_cons, List.countP_cons, List.count_cons, eqb_count k bs]
    rfl
def rCntB (K : Frag) : V → List V → Hp → VK → Prop := fun x xs H Q => ∃ (p : Addr) (bs : List Bool) (k : Bool), x = .ref p ∧ xs = [.bl k] ∧ SqL K H p (bs.map V.bl) ∧ Q (.int (bs.count k : Nat)) H
theorem mt_bcount : MtR X "list.count" (rCntB X.K) := by
  intro pins s σ H x xs v us Q I rx rxs h
  obtain ⟨p, bs, k, rfl, rfl, hs, q⟩ := h
  cases rx
  obtain ⟨u, rfl, ru⟩ := rxs.one
  cases (show u = Value.bool k from ru)
  obtain ⟨its, rv, ⟨⟨cls, dd, data, sl⟩, n, ho, hc, hdn, hd⟩, hlen⟩ := I.list hs
  simp only at hc hd
  subst hc hd
  have hi := bools_of_vals rv
  subst hi
  refine call_meets PySem.F.slot_list_count ⟨_, ho, rfl⟩ PySem.F.entry_list_count (PySem.F.args_list_count_2 _ _)
    (SeqAt.list_countAt p (bs.map Value.bool).toArray n dd sl (.bool k) (eqb k)) ⟨ho, fun y hy => ?_, ?_⟩
  · have hy' : y ∈ bs.map Value.bool := by simpa using hy
    obtain ⟨b, _, rfl⟩ := List.mem_map.mp hy'
    exact SeqAt.EqAt.bool_bool b k
  · refine ⟨.int (bs.count k : Nat), H, I.tok _, ⟨s.toks, ?_⟩, q⟩
    show Value.int (((bs.map Value.bool).toArray.toList.countP (eqb k) : Nat) : Int) s.toks = Value.int ((bs.count k : Nat) : Int) s.toks
    rw [show (bs.map Value.bool).toArray.toList = bs.map Value.bool from rfl, eqb_count]
end
end BJ

/-! lists of exceptions -/
namespace BJ
open PySem PySem.Spec PyProof.Rows L2 Evl
open PySem.W (Frag kitOne kitAny)
theorem excAt_ex {H H' : Hp} (e : Ex H H') {a C d : Addr} {fs : List (Str × V)} (h : ExcAt H a C d fs) : ExcAt H' a C d fs := ⟨e _ _ h.1, e _ _ h.2⟩
/-- the values vs are exceptions of the classes cs, their fields in turn the values ws -/
inductive EL (H : Hp) (ws : List V) : List (Addr × List Str) → List V → Prop
  | nil : EL H ws [] []
  | cons {C : Addr} {fs : List Str} {cs : List (Addr × List Str)} {e d : Addr} {vs : List V} : ExcAt H e C d (fs.zip ws) → EL H ws cs vs → EL H ws ((C, fs) :: cs) (.ref e :: vs)
theorem EL.mono {H H' : Hp} {ws : List V} (x : Ex H H') {cs : List (Addr × List Str)} {vs : List V} (h : EL H ws cs vs) : EL H' ws cs vs := by
  induction h with
  | nil => exact .nil
  | cons h t ih => exact .cons (excAt_ex x h) ih
theorem EL.append {H : Hp} {ws : List V} {cs cs' : List (Addr × List Str)} {vs vs' : List V} (h : EL H ws cs vs) (h' : EL H ws cs' vs') : EL H ws (cs ++ cs') (vs ++ vs') := by
  induction h with
  | nil => exact h'
  | cons h t ih => exact .cons h ih
theorem EL.length {H : Hp} {ws : List V} {cs : List (Addr × List Str)} {vs : List V} (h : EL H ws cs vs) : vs.length = cs.length := by
  induction h with
  | nil => rfl
  | cons h t ih => rw [List.length_cons, List.length_cons, ih]
theorem EL.get {H : Hp} {ws : List V} {cs : List (Addr × List Str)} {vs : List V} (h : EL H ws cs vs) : ∀ (i : Nat) (C : Addr) (fs : List Str), cs[i]? = some (C, fs) → ∃ e d, vs[i]? = some (.ref e) ∧ ExcAt H e C d (fs.zip ws) := by
  induction h with
  | nil => intro i C fs h; simp at h
  | cons h t ih =>
    intro i C fs hi
    cases i with
    | zero =>
      simp at hi
      obtain ⟨rfl, rfl⟩ := hi
      exact ⟨_, _, rfl, h⟩
    | succ i =>
      simp only [List.getElem?_cons_succ] at hi
      exact ih i C fs hi
section
variable {K : Frag} {σ : L2.St} {H : Hp} {te : TE} {ta tr : TA} {ws : List V} {cs cs' : List (Addr × List Str)}
def EvAE (ta : TA) (σ : L2.St) (H : Hp) (ws : List V) (cs : List (Addr × List Str)) : Prop := ∀ H1, Ex H H1 → ∀ Q : List V → Hp → Prop, (∀ vs H2, Ex H1 H2 → EL H2 ws cs vs → Q vs H2) → ta σ H1 Q
def EvLE (te : TE) (σ : L2.St) (H : Hp) (ws : List V) (cs : List (Addr × List Str)) : Prop := ∀ H1, Ex H H1 → ∀ Q : VK, (∀ p vs H2, Ex H1 H2 → H2 p = some (.lst vs) → EL H2 ws cs vs → Q (.ref p) H2) → te σ H1 Q
theorem eae_nil : EvAE tNil σ H ws [] := fun H1 _ _ q => q [] H1 (Ex.refl _) .nil
/-- C(x, ..), then the rest: the values given are the first of ws -/
theorem eae_cons {C : Addr} {fs : List Str} {zs : List V} (h : EvA ta σ H zs) (hl : zs.length = fs.length) (hz : fs.zip zs = fs.zip ws) (hr : EvAE tr σ H ws cs) : EvAE (tCons (tErrE C fs ta) tr) σ H ws ((C, fs) :: cs) := fun H1 e Q q =>
  h H1 e _ fun H2 e2 => ⟨hl, fun a d H3 ha e3 hat => hr H3 ((e.trans e2).trans e3) _ fun vs H4 e4 el => q _ H4 ((e2.trans e3).trans e4) (.cons (excAt_ex e4 (hz ▸ hat)) el)⟩
theorem ele_lst (h : EvAE ta σ H ws cs) (hl : cs.length ≤ 100000) : EvLE (tLst ta) σ H ws cs := fun H1 e Q q =>
  h H1 e _ fun vs H2 e2 el => ⟨sz_of (by rw [el.length]; exact hl), fun p hp => q p vs _ (e2.trans (Ex.new hp)) upd_same (el.mono (Ex.new hp))⟩
theorem ele_cat {t1 t2 : TE} (h1 : EvLE t1 σ H ws cs) (h2 : EvLE t2 σ H ws cs') (hl : cs.length + cs'.length ≤ 100000) : EvLE (tOp (rCatS K) t1 t2) σ H ws (cs ++ cs') := fun H1 e Q q =>
  h1 H1 e _ fun p vs H2 e2 hp el => h2 H2 (e.trans e2) _ fun p' vs' H3 e3 hp' el' => ⟨p, p', vs, vs', rfl, rfl, .inl (.inl (e3 _ _ hp)), .inl (.inl hp'), sz_of (by rw [el.length, el'.length]; exact hl), fun l hl' =>
    q l _ _ ((e2.trans e3).trans (Ex.new hl')) upd_same (((el.mono e3).append el').mono (Ex.new hl'))⟩
theorem ele_var {i : Nat} {p : Addr} {vs : List V} (h : σ[i]? = some (some (.ref p))) (hp : H p = some (.lst vs)) (el : EL H ws cs vs) : EvLE (tVar i) σ H ws cs := fun H1 e Q q => ⟨_, h, q p vs H1 (Ex.refl _) (e _ _ hp) (el.mono e)⟩
/-- list + list that evaluate -/
theorem el_cat {t1 t2 : TE} {xs ys : List V} (h1 : EvL t1 σ H xs) (h2 : EvL t2 σ H ys) (hl : xs.length + ys.length ≤ 100000) : EvL (tOp (rCatS K) t1 t2) σ H (xs ++ ys) := fun H1 e Q q =>
  h1 H1 e _ fun p H2 n2 e2 hp => h2 H2 (e.trans e2) _ fun p' H3 n3 e3 hp' => ⟨p, p', xs, ys, rfl, rfl, .inl (.inl (e3 _ _ hp)), .inl (.inl hp'), sz_of hl, fun l hl' => q l _ (fresh_back (e2.trans e3) hl') ((e2.trans e3).trans (Ex.new hl')) upd_same⟩
/-- a variable that holds a list, as the first of a sum -/
theorem el_catV {t2 : TE} {i : Nat} {p : Addr} {xs ys : List V} (h : σ[i]? = some (some (.ref p))) (hp : H p = some (.lst xs)) (h2 : EvL t2 σ H ys) (hl : xs.length + ys.length ≤ 100000) : EvL (tOp (rCatS K) (tVar i) t2) σ H (xs ++ ys) := fun H1 e Q q =>
  ⟨_, h, h2 H1 e _ fun p' H3 n3 e3 hp' => ⟨p, p', xs, ys, rfl, rfl, .inl (.inl (e3 _ _ (e _ _ hp))), .inl (.inl hp'), sz_of hl, fun l hl' => q l _ (fresh_back e3 hl') (e3.trans (Ex.new hl')) upd_same⟩⟩
/-- isinstance(e, C) of a held exception -/
theorem rc_isE {e C D d : Addr} {fs : List (Str × V)} {b : Bool} (h : ExcAt H e C d fs) (R : ErrR K C) (k : kitOne K (.ref C) (.ref D) = some b) : RC (rIsG K) [.ref e, .ref D] H (.bl b) :=
  fun H1 x Q q => ⟨_, _, .ref C, .ref D, b, rfl, .own D, .exc (excAt_ex x h) R, k, q H1 (Ex.refl _)⟩
theorem rc_isEt {e C d : Addr} {n : String} {fs : List (Str × V)} {b : Bool} (h : ExcAt H e C d fs) (R : ErrR K C) (k : kitOne K (.ref C) (.type n) = some b) : RC (rIsG K) [.ref e, .ty n] H (.bl b) :=
  fun H1 x Q q => ⟨_, _, .ref C, .type n, b, rfl, .ty n, .exc (excAt_ex x h) R, k, q H1 (Ex.refl _)⟩
/-- e.f -/
theorem ev_exf {e C d : Addr} {f : Str} {fs : List (Str × V)} {v : V} (he : Ev te σ H (.ref e)) (h : ExcAt H e C d fs) (R : ErrR K C) (nf : PySem.W.findIn K (.ref C) f = some none) (hl : fs.lookup f = some v) : Ev (tExf K te f) σ H v := fun H1 x Q q =>
  he H1 x _ fun H2 x2 => ⟨e, C, d, fs, v, rfl, excAt_ex (x.trans x2) h, R, nf, hl, q H2 x2⟩
end
end BJ

/-! new lists of which it is known that they are not the modules' dict -/
namespace BJ
open PySem PySem.Spec PyProof.Rows L2 Evl
open PySem.W (Frag kitOne kitAny)
section
variable {X : Cx}
/-- list + list -/
def rCatN (K : Frag) : R2 := fun x y H Q => ∃ l b xs zs, x = .ref l ∧ y = .ref b ∧ Scr K H l xs ∧ Scr K H b zs ∧ xs.length + zs.length ≤ sizeLine ∧ ∀ p, H p = none → sysModules < p → Q (.ref p) (upd H p (.lst (xs ++ zs)))
theorem op_catN : OpR X (binaryOp .Add) (rCatN X.K) := by
  rintro pins s σ H x y v u Q I rx ry ⟨l, b, xs, zs, rfl, rfl, hH, hB, hz, q⟩
  cases rx
  cases ry
  obtain ⟨its, n, r, e, hl⟩ := hH.at I
  obtain ⟨its2, n2, r2, e2, hl2⟩ := hB.at I
  have q1 := r.length
  have q2 := r2.length
  refine PySem.P.add_list e e2 ?_ (by rw [List.size_toArray, List.size_toArray]; omega)
  rw [show its.toArray ++ its2.toArray = (its ++ its2).toArray from by simp]
  exact ⟨.ref _, _, I.lnew (t' := s.toks) (r.append r2) (by rw [List.length_append]; omega), rfl, q _ I.fresh I.big⟩
/-- [..] -/
def tLstN (t : TA) : TE := fun σ H Q => t σ H fun xs H1 => xs.length ≤ sizeLine ∧ ∀ p, H1 p = none → sysModules < p → Q (.ref p) (upd H1 p (.lst xs))
theorem pe_lstN {es : List Expr} {t : TA} {pos : Pos} (h : PA X es t) : PE X (.List es pos) (tLstN t) where
  run := by
    intro pins s σ H Q I hq
    refine wpAny_List_spliced (thn (h.run pos pins s σ H _ I hq) ?_)
    rintro us s1 ⟨xs, H1, I1, r, z, q⟩
    refine ⟨by rw [← r.length]; exact z, ?_⟩
    refine ⟨.ref s1.heap.objs.size, upd H1 s1.heap.objs.size (.lst xs), I1.laid (t' := s1.toks) (fun b u e => Heap.get?_push_of_some _ e) (Nat.le_refl _) ?_, rfl, q _ (I1.hok.fresh (Nat.le_refl _)) I1.big⟩
    exact ⟨z, us, 0, r, Heap.get?_push_size _ rfl⟩
/-- [x] * n -/
def rRepN : R2 := fun x y H Q => ∃ (l : Addr) (n : Nat) (v : V), x = .ref l ∧ y = .int (n : Int) ∧ H l = some (.lst [v]) ∧ n ≤ 1000000 ∧ ∀ p, H p = none → sysModules < p → Q (.ref p) (upd H p (.lst (List.replicate n v)))
theorem op_repN : OpR X (binaryOp .Mult) rRepN := by
  rintro pins s σ H x y v u Q I rx ry ⟨l, m, w, rfl, rfl, hH, hm, q⟩
  cases rx
  obtain ⟨t, rfl⟩ := ry
  obtain ⟨z, its, n, r, hl, e⟩ := I.lstM hH
  have h1 : (1 : Nat) = its.length := hl
  obtain ⟨k, hk⟩ : ∃ k : Int, k = (m : Int) := ⟨_, rfl⟩
  have hkm : k.toNat = m := by omega
  rw [← hk]
  have hms : its.toArray.size * k.toNat ≤ sizeLine := by
    rw [List.size_toArray, ← h1, hkm, sizeLine_eq]
    omega
  have c1 : ¬ (!Builtin.List.listFitsIndex k) = true := by
    rw [fitsIndex_both (by omega) (by omega)]
    exact Bool.false_ne_true
  have c2 : ¬ its.toArray.size * k.toNat > (2 ^ 63 - 1) / 8 := by
    rw [List.size_toArray, ← h1, hkm]
    omega
  have c3 : ¬ Builtin.List.listTooLong (its.toArray.size * k.toNat) = true := by
    rw [notLongL hms]
    exact Bool.false_ne_true
  have ez : List.foldl (fun x1 x2 => x1 ++ x2) #[] (List.replicate (if its.toArray.isEmpty = true then 0 else k.toNat) its.toArray) = (List.replicate m its).flatten.toArray := by
    cases its with
    | nil => simp at h1
    | cons a r' => rw [if_neg (by simp), size_rep, hkm]
  refine wpAny_binaryOp_repeat_ref (T := "list") (U := "int") (by decide) ⟨_, e, rfl⟩ (fun s' => typeIs_int s' k t) noFill_list_mul F.fills_int_mul F.slot_int_rmul repeat_list F.slot_int_index.lookup
    (call_meets F.slot_int_rmul (typeIs_int s k t) F.entry_int_rmul (F.args_int_rmul_2 _ _)
      (int___rmul___int_list k t l its.toArray n) ⟨e, rfl, ⟨_, e, rfl⟩, call_meets F.slot_list_mul ⟨_, e, rfl⟩ F.entry_list_mul (F.args_list_mul_2 _ _)
        (AutoListH.list___mul___list_int_3 l its.toArray n k t c1 c2 c3) ⟨e, ?_⟩⟩)
  rw [ez]
  have rr : Vals (List.replicate m w) (List.replicate m its).flatten := by
    cases r with
    | cons rw' rn =>
      cases rn
      rw [flat1]
      exact vals_rep rw' m
  exact ⟨.ref _, _, I.lnew (t' := s.toks) rr (by rw [List.length_replicate]; rw [List.size_toArray, ← h1, hkm] at hms; omega), rfl, q _ I.fresh I.big⟩
end
section
variable {K : Frag} {σ : L2.St} {H : Hp} {te : TE}
def EvLN (te : TE) (σ : L2.St) (H : Hp) (xs : List V) : Prop := ∀ H1, Ex H H1 → ∀ Q : VK, (∀ p H2, H1 p = none → sysModules < p → Ex H1 H2 → H2 p = some (.lst xs) → Q (.ref p) H2) → te σ H1 Q
theorem eln_catV {t2 : TE} {i : Nat} {p : Addr} {xs ys : List V} (h : σ[i]? = some (some (.ref p))) (hp : H p = some (.lst xs)) (h2 : EvL t2 σ H ys) (hl : xs.length + ys.length ≤ 100000) : EvLN (tOp (rCatN K) (tVar i) t2) σ H (xs ++ ys) := fun H1 e Q q =>
  ⟨_, h, h2 H1 e _ fun p' H3 n3 e3 hp' => ⟨p, p', xs, ys, rfl, rfl, .inl (.inl (e3 _ _ (e _ _ hp))), .inl (.inl hp'), sz_of hl, fun l hl' hs => q l _ (fresh_back e3 hl') hs (e3.trans (Ex.new hl')) upd_same⟩⟩
theorem EvLN.l {xs : List V} (h : EvLN te σ H xs) : EvL te σ H xs := fun H1 e Q q => h H1 e Q fun p H2 n _ e2 hp => q p H2 n e2 hp
/-- [x] * n -/
theorem eln_rep {n : Nat} {v : V} (h : Ev te σ H v) (hn : n ≤ 1000000) : EvLN (tOp rRepN (tLst (tCons te tNil)) (tC (.int (n : Int)))) σ H (List.replicate n v) := fun H1 e Q q =>
  h H1 e _ fun H2 e2 => ⟨(by show 1 ≤ sizeLine; decide), fun p hp => ⟨p, n, v, rfl, rfl, upd_same, hn, fun r hr hs => q r _ (fresh_back (e2.trans (Ex.new hp)) hr) hs ((e2.trans (Ex.new hp)).trans (Ex.new hr)) upd_same⟩⟩
end
end BJ

/-! the law's call where the text makes lambdas: the tables of the code objects are tracked from the start -/
namespace BJ
open PySem PySem.Spec PyProof.Rows L2 LamX
open PySem.W (Frag)
/-- the tables, and the script unless it is written -/
def hpT (K : Frag) (T : List Addr) (a : Addr) (u : HO) : Hp := fun b => if b ∈ T then some (.tbl #[]) else if K.lookup a = none ∧ b = a then some u else none
theorem hpT_in {K : Frag} {T : List Addr} {a b : Addr} {u : HO} (h : b ∈ T) : hpT K T a u b = some (.tbl #[]) := if_pos h
theorem hpT_a {K : Frag} {T : List Addr} {a : Addr} {u : HO} (h : a ∉ T) (hk : K.lookup a = none) : hpT K T a u a = some u := (if_neg h).trans (if_pos ⟨hk, rfl⟩)
theorem hpT_some {K : Frag} {T : List Addr} {a b : Addr} {u v : HO} (h : hpT K T a u b = some v) : (b ∈ T ∧ v = .tbl #[]) ∨ (b ∉ T ∧ K.lookup a = none ∧ b = a ∧ v = u) := by
  unfold hpT at h
  by_cases hb : b ∈ T
  · rw [if_pos hb] at h
    cases h
    exact .inl ⟨hb, rfl⟩
  · rw [if_neg hb] at h
    by_cases h2 : K.lookup a = none ∧ b = a
    · rw [if_pos h2] at h
      cases h
      exact .inr ⟨hb, h2.1, h2.2, rfl⟩
    · rw [if_neg h2] at h
      cases h
theorem lawGT {P : Program} {w : World} {K : Frag} {mg mb : Str → Option Value} {k : Nat} {fa a : Addr} {cs : List (Addr × Addr)} {sp : Sp} {s₁ : Shared} {vs : List Value} {ns : List Int}
    (KX : K.In s₁.heap) (hns : s₁.heap.Ns mainGlobals mg) (hb : s₁.heap.Ns builtinsNs mb) (hbb : ∀ x : Str, x ≠ "__name__" → mb x = bootBuiltins x) (hlim : s₁.heap.NoLimit) (hg : s₁.gens = #[])
    (hT : ∀ p ∈ cs, s₁.heap.get? p.2 = some { cls := .none, data := .fields #[] }) (nT : ∀ p ∈ cs, K.lookup p.2 = none) (C : ∀ p ∈ cs, PySem.W.CodeHd s₁.heap p.1 p.2)
    (hbm : ∃ (bm : Addr) (ob : Obj), mg "__builtins__" = some (.ref bm) ∧ bm ≠ builtinsNs ∧ s₁.heap.get? bm = some ob ∧ ob.cls = .type "module" ∧ ob.dict = some builtinsNs ∧ ob.data = .plain)
    (ha : s₁.heap.get? a = some { cls := .type "list", data := .seq vs.toArray }) (hi : IntsAre vs ns) (hl : ns.length ≤ sizeLine) (hr : Room k callerA)
    (F : ∀ base : Heap, K.In base → base.Ns mainGlobals mg → (∀ p ∈ cs, TabB base mg p.1 p.2) → CallP P w K mg base k (.ref fa) sp)
    (hsp : ∀ H : Hp, (∀ p ∈ cs, H p.2 = some (.tbl #[])) → Scr K H a (ns.map V.int) → sp [.ref a] H (fun v _ => v = .bl true) fun _ _ _ => False) :
    codeAny (model P w) callerA (.call (.ref fa) ⟨[.ref a], []⟩) (fun r s' => r = .ok (.ret (.bool true)) ∧ OldK s₁.heap s'.heap ∧ s'.os = s₁.os ∧ AllBare s'.gens) s₁ := by
  have rv := vals_ints hi
  have lenV := hi.length
  generalize hTe : cs.map (·.2) = T
  have memT : ∀ p ∈ cs, p.2 ∈ T := fun p hp => hTe ▸ List.mem_map.mpr ⟨p, hp, rfl⟩
  have fromT : ∀ b ∈ T, ∃ p ∈ cs, p.2 = b := fun b hb => List.mem_map.mp (hTe ▸ hb)
  have isT : ∀ b ∈ T, s₁.heap.get? b = some { cls := .none, data := .fields #[] } := fun b hb => by
    obtain ⟨p, hp, rfl⟩ := fromT b hb
    exact hT p hp
  have aT : a ∉ T := fun z => by
    have q := (isT a z).symm.trans ha
    cases q
  obtain ⟨H, hH⟩ : ∃ H : Hp, H = hpT K T a (.frz { cls := .type "list", data := .seq vs.toArray } (.lst (ns.map V.int))) := ⟨_, rfl⟩
  -- what is tracked is a table or the script
  have free : ∀ {b : Addr} {o : Obj}, s₁.heap.get? b = some o → o.data ≠ .fields #[] → o.data ≠ .seq vs.toArray → H b = none := fun {b o} e h1 h2 => by
    cases q : H b with
    | none => rfl
    | some u =>
      rw [hH] at q
      rcases hpT_some q with ⟨hb', _⟩ | ⟨_, _, rfl, _⟩
      · rw [isT b hb'] at e
        cases e
        exact (h1 rfl).elim
      · rw [ha] at e
        cases e
        exact (h2 rfl).elim
  have keepB : ∀ {b : Addr} {o : Obj}, s₁.heap.get? b = some o → H b = none → (hidT s₁.heap H).get? b = some o := fun e n => hidT_get e n
  have nsK : ∀ {b : Addr} {m : Str → Option Value}, s₁.heap.Ns b m → (hidT s₁.heap H).Ns b m := by
    rintro b m ⟨o, es, ep, e, d, r⟩
    exact ⟨o, es, ep, keepB e (free e (fun z => by rw [d] at z; cases z) fun z => by rw [d] at z; cases z), d, r⟩
  have kin : K.In (hidT s₁.heap H) := by
    intro b o e
    refine keepB (KX b o e) ?_
    cases q : H b with
    | none => rfl
    | some u =>
      rw [hH] at q
      rcases hpT_some q with ⟨hb', _⟩ | ⟨_, hk, rfl, _⟩
      · obtain ⟨p, hp, rfl⟩ := fromT b hb'
        rw [nT p hp] at e
        cases e
      · rw [hk] at e
        cases e
  obtain ⟨mc, l1, l2⟩ := id hlim
  have md : Mod K mg (hidT s₁.heap H) := ⟨kin, nsK hns, ⟨mb, nsK hb, hbb⟩, ⟨mc, nsK l1, l2⟩⟩
  have TB : ∀ p ∈ cs, TabB (hidT s₁.heap H) mg p.1 p.2 := fun p hp => by
    have hTp := hT p hp
    obtain ⟨og, esg, epg, eg, dg, _⟩ := id hns
    refine ⟨?_, ?_, fun z => ?_⟩
    · obtain ⟨o, us, file, tf, flags, tg, inF, text, tt, e1, r1, r2, r3, r⟩ := C p hp
      exact ⟨o, us, file, tf, flags, tg, inF, text, tt, keepB e1 (free e1 (fun z => by rw [r2] at z; cases z; simp at r3) fun z => by rw [r2] at z; cases z), r1, r2, r3, r⟩
    · obtain ⟨bm, ob, b1, b2, b3, b4, b5, b6⟩ := hbm
      refine ⟨bm, ob, b1, b2, fun q => ?_, fun q => ?_, keepB b3 (free b3 (fun z => by rw [b6] at z; cases z) fun z => by rw [b6] at z; cases z), b4, b5, b6⟩
      · rw [q, eg] at b3
        cases b3
        rw [dg] at b6
        cases b6
      · rw [q, hTp] at b3
        cases b3
        cases b6
    · rw [z, hTp] at eg
      cases eg
      cases dg
  have hok : HOk P w H s₁.heap := fun b u z => by
    rw [hH] at z
    rcases hpT_some z with ⟨hb', rfl⟩ | ⟨_, _, rfl, rfl⟩
    · exact isT b hb'
    · exact ⟨ha, by rw [List.length_map]; exact hl, vs, _, rv, ha⟩
  have hS : Scr K H a (ns.map V.int) := by
    cases hk : K.lookup a with
    | some o =>
      have e := KX a o hk
      rw [ha] at e
      cases e
      exact .inr ⟨vs, 0, hk, rv, by rw [List.length_map]; exact hl⟩
    | none => exact .inl (.inr ⟨_, by rw [hH]; exact hpT_a aT hk⟩)
  have hHT : ∀ p ∈ cs, H p.2 = some (.tbl #[]) := fun p hp => by rw [hH]; exact hpT_in (memT p hp)
  have e0 : Env0 P w K mg (hidT s₁.heap H) callerA [] s₁ H :=
    ⟨rfl, md, fun b o e => of_hidT e, Nat.le_of_eq (hidT_size _ _), trivial, (fun b hb => absurd (show b ∈ ([] : List Addr) from hb) (by simp)), hok, AllBare.of_eq hg⟩
  refine codeAny_mono (F _ kin (nsK hns) TB callerA [] s₁ H [.ref a] [] [.ref a] [] _ _ hr rfl e0 (.cons rfl .nil) .nil ⟨rfl, hsp H hHT hS⟩) ?_
  intro r s' h
  match r, h with
  | .error e, ⟨_, _, _, _, _, _, _, _, _, _, _, _, z⟩ => exact z.elim
  | .ok (.ret u), ⟨v, H', os, bare, un, hok', r', q⟩ =>
    obtain rfl : v = .bl true := q
    obtain rfl : u = Value.bool true := r'
    have key : ∀ b o, b ∉ T → s₁.heap.get? b = some o → s'.heap.get? b = some o := fun b o nb e => by
      cases q : H b with
      | none => exact un.keep b o e q (fun z => nomatch (show b ∈ ([] : List Addr) from z)) (fun z => nomatch z)
      | some u =>
        have q' := q
        rw [hH] at q'
        rcases hpT_some q' with ⟨hb', _⟩ | ⟨_, _, rfl, rfl⟩
        · exact absurd hb' nb
        · have e1 := (hok b _ q).1
          have e2 := (hok' b _ (un.frzs b _ _ q)).1
          rw [e] at e1
          cases e1
          exact e2
    have grown : ∀ p ∈ cs, ∃ more : Array Value, s'.heap.get? p.2 = some { cls := .none, data := .fields more } := fun p hp => by
      obtain ⟨more, z⟩ := un.tbls p.2 #[] (hHT p hp)
      exact ⟨_, hok' p.2 _ z⟩
    refine ⟨rfl, ⟨fun b o e => ?_, fun b o e => ?_⟩, os, bare⟩
    · by_cases hb' : b ∈ T
      · obtain ⟨p, hp, rfl⟩ := fromT b hb'
        obtain ⟨more, hm⟩ := grown p hp
        rw [hT p hp] at e
        cases e
        exact .inr (.inl ⟨((C p hp).tab (hT p hp)).isCodeTable, rfl, #[], more, rfl, by rw [Array.empty_append]; exact hm⟩)
      · exact .inl (key b o hb' e)
    · by_cases hb' : b ∈ T
      · obtain ⟨p, hp, rfl⟩ := fromT b hb'
        obtain ⟨more, hm⟩ := grown p hp
        exact ⟨_, hm⟩
      · exact ⟨o, key b o hb' e⟩
open PySem.W in
/-- the end of a proof, the text making lambdas -/
theorem walkGT {l : OpenLaw} {n k : Nat} {q : Program} {loose : List Str} {XP : (Str → Option Value) → Heap → Prop} {YP : World → Heap → Prop} {d : DefRec} {K : Params → Frag}
    (hn : l.most = some n) (hn2 : n ≤ sizeLine) (hdf : d.params.defaults = []) (hr : Room k callerA) (hY : ∀ (w : World) (h : Heap), YP w h → (K w.params).In h)
    (F : ∀ (w : World) (mg : Str → Option Value) (fa : Addr) (h : Heap), YP w h → (K w.params).In h → h.Ns mainGlobals mg → mg d.name = some (.ref fa) →
      ∃ (cs : List (Addr × Addr)) (sp : Sp), (∀ p ∈ cs, h.get? p.2 = some { cls := .none, data := .fields #[] }) ∧ (∀ p ∈ cs, (K w.params).lookup p.2 = none) ∧ (∀ p ∈ cs, PySem.W.CodeHd h p.1 p.2) ∧
        (∀ (H : Hp) (a : Addr) (ns : List Int), ns.length ≤ n → (∀ z ∈ ns, Builtin.Int.intBits z ≤ 1048576) → (∀ p ∈ cs, H p.2 = some (.tbl #[])) → Scr (K w.params) H a (ns.map V.int) → sp [.ref a] H (fun v _ => v = .bl true) fun _ _ _ => False) ∧
        ∀ base : Heap, (K w.params).In base → base.Ns mainGlobals mg → (∀ p ∈ cs, TabB base mg p.1 p.2) → CallP l.prog w (K w.params) mg base k (.ref fa) sp) :
    WalkO q loose XP YP l.row.toRowW d [] (fun f vs => PySem.call f vs) := by
  refine Att.attach_callB hn hdf fun w s₀ s₁ mg mb fa o pm cd doc a vs ns G Y ho hd hcd hmg hobj hints hlen hbits hg => ?_
  have KX := hY w _ Y
  obtain ⟨cs, sp, hT, nT, C, hsp, hF⟩ := F w mg fa _ Y KX G.T.g hmg
  exact lawGT KX G.T.g G.T.b G.T.builtins G.T.nolimit hg hT nT C G.T.bmain hobj hints (Nat.le_trans hlen hn2) hr hF fun H hH hS => hsp H a ns hlen hbits hH hS
end BJ

/-! defs whose promise holds for every Around (they call no repr); written dicts of text keys -/
namespace BJ
open PySem PySem.Spec PyProof.Rows L2 Evl
open PySem.W (Frag)
/-- a promise for every Around -/
def CallO (P : Program) (w : World) (K : Frag) (mg : Str → Option Value) (base : Heap) (k : Nat) (u : Value) (sp : Sp) : Prop :=
  ∀ (A : Around) (outer : List Env) (s : Shared) (H : Hp) (us : List Value) (vs : List V) (Q : VK) (E : XK),
    Room k A → Env0 P w K mg base A outer s H → Vals vs us → sp vs H Q E → codeAny (model P w) A (.call u ⟨us, []⟩) (CR (L2.CX P w) outer P w H s Q E) s
section
variable {P : Program} {w : World} {K : Frag} {mg : Str → Option Value} {base : Heap}
theorem CallO.mono {j k : Nat} {u : Value} {sp : Sp} (F : CallO P w K mg base j u sp) (h : j ≤ k) : CallO P w K mg base k u sp := fun A o s H us vs Q E hr => F A o s H us vs Q E (hr.mono h)
theorem CallO.p {k : Nat} {u : Value} {sp : Sp} (F : CallO P w K mg base k u sp) : CallP P w K mg base k u sp := by
  rintro A outer s H us ws vs zs Q E room hg e0 rel relz ⟨rfl, prom⟩
  cases relz
  exact F A outer s H us vs Q E room e0 rel prom
theorem FnG.ofOk {k : Nat} {f : Addr} {fd : FuncData} {ps : List Str} {sp : Sp} (F : FnOk P w K mg base (L2.CX P w) k f fd ps sp) : FnG P w K mg base k f fd ps sp :=
  ⟨F.len, fun A o s H a us vs Q E hr _ => F.run A o s H a us vs Q E hr⟩
/-- the rule for a def, for every Around -/
theorem DefAt.okX {x qual : Str} {st : Stmt} {f : Addr} {N ps : List Str} {k : Nat} {sp : Sp} (D : DefAt K x qual st f ps) (S : FnScope N ps (defScope st))
    (len : ∀ vs H Q E, sp vs H Q E → vs.length = ps.length)
    (hbody : ∀ (cdv : Value) (A : Around) (outer : List Env) (s : Shared) (H : Hp) (vs : List V) (Q : VK) (E : XK),
      Room k (A.deeper (envOfC qual (defScope st) s.heap.objs.size f cdv)) → sp vs H Q E →
      ∃ t, PSs (cxOf (L2.CX P w) P w K mg base N qual (defScope st) f cdv A outer s H E) (defBody st) t ∧ t { nx := fun _ H' => Q .non H', rt := Q } (start N vs) H) :
    ∃ fd, FnOk P w K mg base (L2.CX P w) (k + 1) f fd ps sp ∧ Binds K fd ps [] ∧ Fun K x qual st f fd := by
  obtain ⟨fd, F, hb⟩ := D.fn
  exact ⟨fd, F.okX S len hbody, hb, F⟩
theorem fnO {x qual : Str} {st : Stmt} {f : Addr} {k : Nat} {ps : List Str} {sp : Sp} (h : ∃ fd, FnOk P w K mg base (L2.CX P w) k f fd ps sp ∧ Binds K fd ps [] ∧ Fun K x qual st f fd) : CallO P w K mg base k (.ref f) sp := by
  obtain ⟨fd, F, hb, _⟩ := h
  intro A outer s H us vs Q E room e0 rel prom
  have hl : (us ++ []).length = ps.length := by
    rw [List.append_nil]
    exact rel.length.symm.trans (F.len _ _ _ _ prom)
  have KX : K.In s.heap := e0.mod.kin.keeps fun b o e => (e0.bs b o e).1
  have b := hb s us KX hl
  rw [List.append_nil] at b
  exact F.run A outer s H ⟨us, []⟩ us vs Q E room e0 b rel prom
theorem fnOG {x qual : Str} {st : Stmt} {f : Addr} {k : Nat} {ps : List Str} {sp : Sp} (h : ∃ fd, FnOk P w K mg base (L2.CX P w) k f fd ps sp ∧ Binds K fd ps [] ∧ Fun K x qual st f fd) : ∃ fd, FnG P w K mg base k f fd ps sp ∧ Binds K fd ps [] ∧ Fun K x qual st f fd := by
  obtain ⟨fd, F, r⟩ := h
  exact ⟨fd, FnG.ofOk F, r⟩
end
section
variable {X : Cx} {k : Nat} {u : Value} {sp : Sp} {W : WX} {x : Str} {p pos : Pos} {e : Expr} {es : List Expr} {t : TA}
theorem run_callO {pins : List (Addr × Obj)} {σ : L2.St} {H : Hp} {s : Shared} {Q : VK} {us : List Value} {vs : List V}
    (F : CallO X.prog X.w X.K X.mg X.base k u sp) (hr : Room k X.A) (tkW : Takes X W) (I : Inv X pins σ H s) (r : Vals vs us) (h : sp vs H Q fun cls d H' => W cls d σ H') :
    wpAny (model X.prog X.w) X.A (call u us) (EP X pins σ Q) X.xe s := by
  refine wpAny_call (codeAny_mono (F X.A X.stack s H us vs Q _ hr I.env0 r h) ?_)
  intro res s' hq
  match res, hq with
  | .error e, hq => exact tkW e s' (XE.of_call I (fun _ _ _ z => z) hq)
  | .ok (.ret u), hq => exact I.after hq
/-- f(e, ..) by such a promise -/
theorem pe_co (F : CallO X.prog X.w X.K X.mg X.base k u sp) (hr : Room k X.A) (hg : Gl X x) (hm : X.mg x = some u)
    (hk : PySem.W.keepIn X.K u = true) (tkW : Takes X W) (ha : PA X (e :: es) t) (hdb : (x == ("__debug__" : Str)) = false := by decide)
    (he : starEach (e :: es) X.env = (false, eval e X.env) :: starEach es X.env := by rfl)
    (hpl : (backTo pos (starEach es X.env)).any (·.1) = false := by rfl) : PE X (.Call (.Name x p) (e :: es) [] pos) (tCa sp W t) where
  run := by
    intro pins s σ H Q I h
    refine wpAny_Call_Name_kw (ld_glob I hg hm ?_ hdb)
    refine PySem.W.callWith_K (h₀ := X.base) I.ok.mod.kin hk (thn (ha.run pos pins s σ H _ I h) ?_) he hpl
    rintro us s1 ⟨vs, H1, I1, r, q⟩
    exact ⟨I1.kIn, run_callO F hr tkW I1 r q⟩
end
/-- the written dict at a, its keys texts -/
structure KD (K : Frag) (w : World) (a : Addr) : Prop where
  ex : ∃ es n, K.lookup a = some ⟨.type "dict", none, .dict es n, #[]⟩ ∧ PySem.W.KeysLit w.params es.toList
  low : (a == sysModules) = false
section
variable {X : Cx}
/-- text in d, d written -/
def rInKD (K : Frag) (w : World) (neg : Bool) : R2 := fun x y H Q => ∃ (z : Str) (a : Addr) (r : Option Value), x = .str z ∧ y = .ref a ∧ KD K w a ∧ PySem.W.nsIn K a z = some r ∧ Q (.bl (if neg then !r.isSome else r.isSome)) H
theorem op_inKD : OpR X (compareOp .In) (rInKD X.K X.w false) := by
  rintro pins s σ H x y v u Q I rx ry ⟨z, a, r, rfl, rfl, ⟨⟨es, n, hl, hk⟩, low⟩, hn, q⟩
  obtain ⟨t, rfl⟩ := rx
  cases (show u = Value.ref a from ry)
  have hm := PySem.W.mapOf_K (prog := X.prog) (w := X.w) I.kIn hl hk
  refine wpAny_in_of (strKind_is X.prog X.w z t) low hm ⟨_, H, I.tok _, ?_, q⟩
  have e := PySem.W.find_K hl hn
  show Value.bool _ = Value.bool _
  rw [e]
  rfl
end
end BJ

/-! written tuples of tuples, written dicts of text keys: what they hold, read off the written part -/
namespace BJ
open PySem PySem.Spec PyProof.Rows L2 Evl
open PySem.W (Frag)
def atomV : Value → Option V
  | .int i _ => some (.int i)
  | .str x _ => some (.str x)
  | _ => none
theorem atomV_rel {u : Value} {v : V} (h : atomV u = some v) : RelV v u := by
  cases u <;> simp [atomV] at h
  · subst h; exact ⟨_, rfl⟩
  · subst h; exact ⟨_, rfl⟩
def tupIn (K : Frag) (a : Addr) : Option (List Value) := match K.lookup a with
  | some ⟨c, _, .seq its _, _⟩ => if (c == .type "tuple") && decide (its.size ≤ 1000) then some its.toList else none
  | _ => none
theorem tupIn_at {K : Frag} {a : Addr} {l : List Value} (h : tupIn K a = some l) : ∃ (o : Obj) (its : Array Value) (n : Nat), K.lookup a = some o ∧ o.cls = .type "tuple" ∧ o.data = .seq its n ∧ its.size ≤ sizeLine ∧ its.toList = l := by
  unfold tupIn at h
  split at h
  · rename_i c dd its n sl e
    split at h
    · rename_i hc
      rw [Bool.and_eq_true] at hc
      cases h
      exact ⟨_, its, n, e, eq_of_beq hc.1, rfl, Nat.le_trans (of_decide_eq_true hc.2) (by decide), rfl⟩
    · cases h
  · cases h
/-- a tuple of atoms -/
def rowIn (K : Frag) : Value → Option (List V)
  | .ref b => (tupIn K b).bind fun l => l.mapM atomV
  | _ => none
def rowsIn (K : Frag) (a : Addr) : Option (List (List V)) := (tupIn K a).bind fun l => l.mapM (rowIn K)
theorem mapM_vals : ∀ {l : List Value} {vs : List V}, l.mapM atomV = some vs → Vals vs l
  | [], vs, h => by
    simp at h
    subst h
    exact .nil
  | u :: l, vs, h => by
    rw [List.mapM_cons] at h
    simp only [Option.bind_eq_bind, Option.bind_eq_some_iff, Option.pure_def, Option.some.injEq] at h
    obtain ⟨v, hv, ws, hw, rfl⟩ := h
    exact .cons (atomV_rel hv) (mapM_vals hw)
theorem rowIn_at {K : Frag} {u : Value} {r : List V} (h : rowIn K u = some r) : ∃ b, u = .ref b ∧ ∀ H : Hp, SqT K H b r := by
  cases u with
  | ref b =>
    obtain ⟨l, h1, h2⟩ := Option.bind_eq_some_iff.mp (show (tupIn K b).bind (fun l => l.mapM atomV) = some r from h)
    obtain ⟨o, its, n, e1, e2, e3, e4, rfl⟩ := tupIn_at h1
    exact ⟨b, rfl, fun H => .inr ⟨o, its, n, e1, e2, e3, e4, mapM_vals h2⟩⟩
  | _ => simp [rowIn] at h
theorem mapM_rows {K : Frag} : ∀ {l : List Value} {rows : List (List V)}, l.mapM (rowIn K) = some rows → ∃ bs : List Addr, Vals (bs.map V.ref) l ∧ bs.length = rows.length ∧ ∀ (i : Nat) (r : List V), rows[i]? = some r → ∃ b, bs[i]? = some b ∧ ∀ H : Hp, SqT K H b r
  | [], rows, h => by
    simp at h
    subst h
    exact ⟨[], .nil, rfl, fun i r h => by simp at h⟩
  | u :: l, rows, h => by
    rw [List.mapM_cons] at h
    simp only [Option.bind_eq_bind, Option.bind_eq_some_iff, Option.pure_def, Option.some.injEq] at h
    obtain ⟨v, hv, ws, hw, rfl⟩ := h
    obtain ⟨bs, hv2, hl, hget⟩ := mapM_rows hw
    obtain ⟨b, rfl, hb⟩ := rowIn_at hv
    refine ⟨b :: bs, .cons rfl hv2, by rw [List.length_cons, List.length_cons, hl], fun i r hi => ?_⟩
    cases i with
    | zero =>
      simp at hi
      subst hi
      exact ⟨b, rfl, hb⟩
    | succ i =>
      simp only [List.getElem?_cons_succ] at hi ⊢
      exact hget i r hi
theorem rowsIn_at {K : Frag} {a : Addr} {rows : List (List V)} (h : rowsIn K a = some rows) : ∃ bs : List Addr, (∀ H : Hp, SqT K H a (bs.map V.ref)) ∧ bs.length = rows.length ∧ ∀ (i : Nat) (r : List V), rows[i]? = some r → ∃ b, bs[i]? = some b ∧ ∀ H : Hp, SqT K H b r := by
  unfold rowsIn at h
  simp only [Option.bind_eq_some_iff] at h
  obtain ⟨l, h1, h2⟩ := h
  obtain ⟨o, its, n, e1, e2, e3, e4, rfl⟩ := tupIn_at h1
  obtain ⟨bs, hv, hl, hg⟩ := mapM_rows h2
  exact ⟨bs, fun H => .inr ⟨o, its, n, e1, e2, e3, e4, hv⟩, hl, hg⟩
/-- the written dict at a, its keys texts, its values atoms, in their order -/
structure KDL (K : Frag) (P : Params) (a : Addr) (L : List (Str × V)) : Prop where
  ex : ∃ es n, K.lookup a = some ⟨.type "dict", none, .dict es n, #[]⟩ ∧ PySem.W.KeysLit P es.toList ∧ es.toList.any (·.refKey) = false ∧ es.toList.map (fun e => (match e.key with | .str x _ => x | _ => Str.empty, atomV e.val)) = L.map fun p => (p.1, some p.2)
  low : (a == sysModules) = false
theorem KDL.kd {K : Frag} {w : World} {a : Addr} {L : List (Str × V)} (h : KDL K w.params a L) : KD K w a := by
  obtain ⟨⟨es, n, h1, h2, _⟩, h3⟩ := h
  exact ⟨⟨es, n, h1, h2⟩, h3⟩
theorem find_of : ∀ {es : List DictEntry} {L : List (Str × V)} {P : Params}, PySem.W.KeysLit P es → es.map (fun e => (match e.key with | .str x _ => x | _ => Str.empty, atomV e.val)) = L.map (fun p => (p.1, some p.2)) → ∀ z : Str,
    match es.find? (·.key.isStr z), L.lookup z with
    | some e, some v => atomV e.val = some v
    | none, none => True
    | _, _ => False
  | [], [], _, _, _, z => trivial
  | e :: es, [], _, _, h, z => by simp at h
  | [], p :: L, _, _, h, z => by simp at h
  | e :: es, (x, v) :: L, P, ⟨⟨y, t, hk, hh⟩, hr⟩, h, z => by
    rw [List.map_cons, List.map_cons] at h
    injection h with h1 h2
    have ih := find_of hr h2 z
    rw [hk] at h1
    simp only [Prod.mk.injEq] at h1
    obtain ⟨rfl, h1⟩ := h1
    have ek : e.key.isStr z = (y == z) := by rw [hk]; rfl
    by_cases hz : z = y
    · subst hz
      rw [List.find?_cons_of_pos (by rw [ek]; simp), lookup_cons_if, if_pos rfl]
      exact h1
    · rw [List.find?_cons_of_neg (by rw [ek]; simpa using fun q => hz q.symm), lookup_cons_if, if_neg hz]
      exact ih
theorem KDL.look {K : Frag} {P : Params} {a : Addr} {L : List (Str × V)} (h : KDL K P a L) (z : Str) : match L.lookup z with
    | some v => ∃ u, PySem.W.nsIn K a z = some (some u) ∧ RelV v u
    | none => PySem.W.nsIn K a z = some none := by
  obtain ⟨⟨es, n, h1, h2, h3, h4⟩, _⟩ := h
  have f := find_of h2 h4 z
  have e : PySem.W.nsIn K a z = (match es.toList.find? (·.key.isStr z) with | some e => some (some e.val) | none => some none) := by
    unfold PySem.W.nsIn
    rw [h1]
    dsimp only
    rw [h3]
    rfl
  rw [e]
  cases hf : es.toList.find? (·.key.isStr z) with
  | some en =>
    rw [hf] at f
    cases hl : L.lookup z with
    | some v =>
      rw [hl] at f
      exact ⟨_, rfl, atomV_rel f⟩
    | none => rw [hl] at f; exact f.elim
  | none =>
    rw [hf] at f
    cases hl : L.lookup z with
    | some v => rw [hl] at f; exact f.elim
    | none => rfl
end BJ

/-! a def whose code object is known (it makes lambdas); its table -/
namespace BJ
open PySem PySem.Spec PyProof.Rows L2 Evl
open PySem.W (Frag)
structure DefAtC (K : Frag) (x qual : Str) (st : Stmt) (f c : Addr) (ps : List Str) : Prop where
  fn : ∃ (oc : Value) (od : Option Addr) (kV doc pm : Value) (an : Option Addr) (ct : Value) (osl : Array (Option Value)),
    K.lookup f = some ⟨oc, od, .func (PySem.W.fnOf x qual (defArgs st) (defBody st) (defScope st) .none kV doc pm an (.ref c) ct), osl⟩ ∧ PySem.W.codeIn K (.ref c) qual = true ∧
      Binds K (PySem.W.fnOf x qual (defArgs st) (defBody st) (defScope st) .none kV doc pm an (.ref c) ct) ps []
section
variable {P : Program} {w : World} {K : Frag} {mg : Str → Option Value} {base : Heap}
theorem DefAtC.ok {x qual : Str} {st : Stmt} {f c : Addr} {N ps : List Str} {k : Nat} {sp : Sp} (D : DefAtC K x qual st f c ps) (S : FnScope N ps (defScope st))
    (len : ∀ vs H Q E, sp vs H Q E → vs.length = ps.length)
    (hbody : ∀ (A : Around) (outer : List Env) (s : Shared) (H : Hp) (vs : List V) (Q : VK) (E : XK),
      Room k (A.deeper (envOfC qual (defScope st) s.heap.objs.size f (.ref c))) → A.guards = some [] → sp vs H Q E →
      ∃ t, PSs (cxOf (L2.CX P w) P w K mg base N qual (defScope st) f (.ref c) A outer s H E) (defBody st) t ∧ t { nx := fun _ H' => Q .non H', rt := Q } (start N vs) H) :
    CallP P w K mg base (k + 1) (.ref f) sp := by
  obtain ⟨oc, od, kV, doc, pm, an, ct, osl, lk, hcd, hb⟩ := D.fn
  have F : FnG P w K mg base (k + 1) f (PySem.W.fnOf x qual (defArgs st) (defBody st) (defScope st) .none kV doc pm an (.ref c) ct) ps sp :=
    fnG_of lk hcd S len fun A outer s H vs Q E hr hg hsp => hbody A outer s H vs Q E hr hg hsp
  have q := F.callP (dvs := []) hb .nil
  rintro A outer s H us ws vs zs Q E room hg e0 rel relz ⟨hz, prom⟩
  exact q A outer s H us ws vs zs Q E room hg e0 rel relz ⟨hz, show sp (vs ++ []) H Q E by rw [List.append_nil]; exact prom⟩
end
/-- the table's address in the code object at c -/
def tabOf (K : Frag) (c : Addr) : Option Addr := match K.lookup c with
  | some ⟨_, _, .fields vs, _⟩ => (match vs.getD 11 .none with | .ref p => some p | _ => none)
  | _ => none
end BJ

/-! x(lambda: body), the def that gets it knowing its own slots where the lambda's call raises -/
namespace BJ
open PySem PySem.Spec PyProof.Rows L2 LamX Evl
open PySem.W (Frag)
section
variable {X : Cx} {pins : List (Addr × Obj)} {σ : L2.St} {H : Hp} {s : Shared}
/-- call(), in the def that got the lambda; what is raised is wished at that def's slots -/
theorem pe_act2 {CXg : CXT} {Eg : XK} {Ng : List Str} {qg : Str} {sg : Scope} {g f c' : Addr} {cdg pm ctv : Value} {params : Arguments} {body : Expr} {scope : Scope} {k i : Nat} {a : Str}
    {pn : List (Addr × Obj)} {xe : Value → Shared → Prop} {W : WX} {t : XK → TE} {p1 p2 : Pos} (I : Inv X pins σ H s) (L : LamS X.env.scope scope)
    (hf : s.heap.get? f = some (PySem.W.kla_obj "<lambda>" (X.env.qual ++ "<lambda>") params body scope (cloFrom X.env.cells scope.names []) pm c' ctv)) (hfn : H f = none) (hfr : f ∉ frs X.stack)
    (hbind : bindArgs (PySem.W.kla_fn "<lambda>" (X.env.qual ++ "<lambda>") params body scope (cloFrom X.env.cells scope.names []) pm (.ref c') ctv) ⟨[], []⟩ = pure [])
    (tk : Takes ((cxOf CXg X.prog X.w X.K X.mg X.base Ng qg sg g cdg X.A X.stack s H Eg).tr pn xe) W) (hr : Room (k + 1) (X.A.deeper (envOfC qg sg s.heap.objs.size g cdg)))
    (hbody : ∀ (E : XK) (A : Around) (outer : List Env) (s : Shared) (H : Hp), Room k (A.deeper (lamEnv X scope s.heap.objs.size f c')) → PE (lamCx X A outer s H E scope f c') body (t E))
    (hN : Ng[i]? = some a) (hv : Vis sg a) (hd : (a == ("__debug__" : Str)) = false := by decide) (hcd : (a == ("__classdict__" : Str)) = false := by decide) :
    PE ((cxOf CXg X.prog X.w X.K X.mg X.base Ng qg sg g cdg X.A X.stack s H Eg).tr pn xe) (.Call (.Name a p1) [] [] p2)
      (fun σZ HZ Q => σZ[i]? = some (some (.ref f)) ∧ HZ c' = some (CodeO c' (X.env.qual ++ "<lambda>")) ∧ t (fun cls d H' => W cls d σZ H') σ HZ Q) where
  run := by
    rintro pinsZ sZ σZ HZ Q IZ ⟨hs, hc, ht⟩
    refine wpAny_Call_Name_kw (thn ((pe_var (pos := p1) (i := i) hN hv hd hcd).run pinsZ sZ σZ HZ (fun v H1 => v = .ref f ∧ H1 = HZ) IZ ⟨.ref f, hs, rfl, rfl⟩) ?_)
    rintro u s1 ⟨v, H1, I1, r1, rfl, eH⟩
    rw [eH] at I1
    cases (show u = Value.ref f from r1)
    have nof : f ∉ ([] : List Addr) := fun z => nomatch z
    have atF := I1.base.keep f _ hf hfn hfr nof
    refine PySem.W.callWith_F0 ⟨_, _, _, _, atF⟩ ?_
    have un : Un (frs X.stack) [] H HZ s.heap s1.heap := I1.base
    obtain ⟨⟨oc, cvs, ct, hoc, hdc, hvc⟩, _, _⟩ := I1.hok c' _ hc
    have go : codeAny (model X.prog X.w) (X.A.deeper (envOfC qg sg s.heap.objs.size g cdg)) (.call (.ref f) ⟨[], []⟩)
        (CR (L2.CX X.prog X.w) (envOfC qg sg s.heap.objs.size g cdg :: X.stack) X.prog X.w HZ s1 Q fun cls d H' => W cls d σZ H') s1 := by
      refine PySem.W.kla_callFunE hr.depth atF rfl L.co L.gen rfl ⟨c', oc, cvs, ct, rfl, hoc, hdc, hvc⟩ ?_
      rw [hbind]
      refine wpAny_pure (wpAny_newFunctionEnv (fun y hy => (L.own y hy).2) (fun y hy => absurd hy (by simp)) (fun h₁ hns hsb => ⟨I1.nolimit.fresh _ hsb, ?_⟩) L.kind)
      show codeAny _ _ (.expr body (lamEnv X scope s1.heap.objs.size f c')) _ _
      have grow : ∀ b o, s1.heap.get? b = some o → h₁.get? b = some o := fun b o e =>
        hsb.extBut b o (Nat.ne_of_lt (Heap.lt_size e)) (Heap.get?_push_of_some _ e)
      have J := lam_start2 (E := fun cls d H' => W cls d σZ H') (f := f) (c' := c') I L I1.env0 hr.hd un hns grow (tk := s1.toks + ([] : List (Str × Value)).length)
      refine PySem.W.kla_codeExpr (wpAny_mono ((hbody (fun cls d H' => W cls d σZ H') _ _ s1 HZ (hr.deeper _)).run [] _ _ HZ Q J ht) ?_ fun e s' hq => hq)
      rintro v s' ⟨w', H', J', rv, q⟩
      exact ⟨w', H', J'.os, J'.bare, J'.base, J'.hok, rv, q⟩
    refine wpAny_call (codeAny_mono go ?_)
    intro res s' hq
    match res, hq with
    | .error e, hq => exact tk e s' (XE.of_call I1 (fun _ _ _ z => z) hq)
    | .ok (.ret u), hq => exact I1.after hq
end
/-- what such a def gives, the lambda's call known by tl -/
def Gives2 (X : Cx) (Ng : List Str) (x : Str) (sg : Scope) (g : Addr) (cdg : Value) (bg : List Stmt) (a : Str) (q : Str) (TT : (XK → Hp → VK → Prop) → Hp → VK → Prop) : Prop :=
  ∀ (f c' : Addr) (s : Shared) (H : Hp) (Q : VK) (tl : XK → Hp → VK → Prop),
    (∀ (W : WX) (pn : List (Addr × Obj)) (xe : Value → Shared → Prop) (p1 p2 : Pos), Takes ((cxOf CX0 X.prog X.w X.K X.mg X.base Ng x sg g cdg X.A X.stack s H E0).tr pn xe) W →
      PE ((cxOf CX0 X.prog X.w X.K X.mg X.base Ng x sg g cdg X.A X.stack s H E0).tr pn xe) (.Call (.Name a p1) [] [] p2)
        (fun σZ HZ Q => σZ[0]? = some (some (.ref f)) ∧ HZ c' = some (CodeO c' q) ∧ tl (fun cls d H' => W cls d σZ H') HZ Q)) →
    H c' = some (CodeO c' q) → TT tl H Q →
    ∃ t, PSs (cxOf CX0 X.prog X.w X.K X.mg X.base Ng x sg g cdg X.A X.stack s H E0).nox bg t ∧ t { nx := fun _ H' => Q .non H', rt := Q } (L2.start Ng [.ref f]) H
section
variable {X : Cx}
/-- x(lambda: body) -/
theorem pe_lam2 {T : List (Addr × Str)} {TT : (XK → Hp → VK → Prop) → Hp → VK → Prop} {x a : Str} {g c P : Addr} {k : Nat} {pg : Arguments} {bg : List Stmt} {sg : Scope} {dV kV doc pm cdv ct oc : Value} {an od : Option Addr}
    {osl : Array (Option Value)} {Ng : List Str} {params : Arguments} {body : Expr} {scope : Scope} {t : XK → TE} {p lpos pos : Pos} (hg : Gl X x) (hm : X.mg x = some (.ref g)) (hk : PySem.W.keepIn X.K (.ref g) = true)
    (lk : X.K.lookup g = some ⟨oc, od, .func (PySem.W.fnOf x x pg bg sg dV kV doc pm an cdv ct), osl⟩) (hcg : PySem.W.codeIn X.K cdv x = true) (hb : L2.Binds X.K (PySem.W.fnOf x x pg bg sg dV kV doc pm an cdv ct) [a] [])
    (Sg : FnScope Ng [a] sg) (hNg : Ng[0]? = some a) (hva : Vis sg a) (hG : Gives2 X Ng x sg g cdv bg a (X.env.qual ++ "<lambda>") TT) (TB : TabB X.base X.mg c P) (hcode : X.env.code = .ref c)
    (hmT : (P, X.env.qual ++ "<lambda>") ∈ T) (hu : ∀ p ∈ T, p.1 = P → p.2 = X.env.qual ++ "<lambda>") (hr : Room (k + 2) X.A) (L : LamS X.env.scope scope) (hdef : defaultsOf params X.env = ([], []))
    (hbind : ∀ (q : Str) (cl : List (Str × Addr)) (pm cv ctv : Value), bindArgs (PySem.W.kla_fn "<lambda>" q params body scope cl pm cv ctv) ⟨[], []⟩ = pure [])
    (hbody : ∀ (E : XK) (A : Around) (outer : List Env) (s : Shared) (H : Hp) (f c' : Addr), Room k (A.deeper (lamEnv X scope s.heap.objs.size f c')) → PE (lamCx X A outer s H E scope f c') body (t E))
    (hdb : (x == ("__debug__" : Str)) = false := by decide) (hd : (a == ("__debug__" : Str)) = false := by decide) (hcd : (a == ("__classdict__" : Str)) = false := by decide) :
    PE X (.Call (.Name x p) [.Lambda params body scope lpos] [] pos) (tLam T TT t) where
  run := by
    rintro pins s σ H Q I ⟨hT, h⟩
    refine wpAny_Call_Name_kw (ld_glob I hg hm ?_ hdb)
    refine PySem.W.callWith_K (h₀ := X.base) I.ok.mod.kin hk ?_ (by rfl) (by rfl)
    show wpAny _ _ (spliced ((false, eval (.Lambda params body scope lpos) X.env) :: backTo pos (starEach [] X.env))) _ _ s
    refine Calls.spliced_cons (lam_make2 I TB hcode hmT hu hT hdef (L.has I.ok) ?_)
    intro f c' pm' ctv H1 s' I1 eN T1 hf hfn hfr hco
    refine Calls.spliced_nil ⟨I1.kIn, ?_⟩
    have go : codeAny (model X.prog X.w) X.A (.call (.ref g) ⟨[.ref f], []⟩) (CR CX0 X.stack X.prog X.w H1 s' Q E0) s' := by
      refine run_ofS (N := Ng) (ps := [a]) (us := [.ref f]) (vs := [.ref f]) lk hcg Sg hr I1.env0 (hb s' [.ref f] I1.kIn rfl) (.cons rfl .nil) rfl fun hr' => ?_
      obtain ⟨t', ht', hq'⟩ := hG f c' s' H1 Q (fun E H' Q' => t E σ H' Q') (fun W pn xe p1 p2 tk =>
        pe_act2 (i := 0) I1 L hf hfn hfr (hbind _ _ _ _ _) tk hr' (fun E A outer s H hr2 => hbody E A outer s H f c' hr2) hNg hva hd hcd) hco (h H1 eN T1)
      exact ⟨t', ht'.nox, hq'⟩
    refine wpAny_call (codeAny_mono go ?_)
    intro res s2 hq
    match res, hq with
    | .error e, hq => exact (show False from hq).elim
    | .ok (.ret u), hq => exact I1.after hq
end
end BJ

/-! a def whose body has a token (str.replace asks it); the part of a heap that stands while numbers are drawn and lambdas made -/
namespace BJ
open PySem PySem.Spec PyProof.Rows L2 Evl LamX
open PySem.W (Frag)
section
variable {X : Cx} {e : Expr} {es : List Expr} {te : TE} {t : TA} {pos : Pos}
theorem PAT.of' (h : PA X es t) : PAT X es t := fun pos pins s σ H Q _ I q => h.run pos pins s σ H Q I q
theorem pat_cons2 (h1 : PET X e te) (hr : PAT X es t) (hs : starEach (e :: es) X.env = (false, eval e X.env) :: starEach es X.env := by rfl) : PAT X (e :: es) (tCons te t) := by
  intro pos pins s σ H Q h0 I h
  rw [hs]
  show wpAny _ _ (spliced ((false, eval e X.env) :: backTo pos (starEach es X.env))) _ _ s
  refine Calls.spliced_cons (wpAny_mono (PySem.wpAny_toks (h1 pins s σ H _ h0 I h)) (fun u s1 q => ?_) fun _ _ z => z.2)
  obtain ⟨hk, x, H1, I1, r1, q1⟩ := q
  exact thn (hr pos pins s1 σ H1 _ (Nat.le_trans h0 hk) I1 q1) fun us s2 ⟨xs, H2, I2, r2, q2⟩ => ⟨x :: xs, H2, I2, .cons r1 r2, q2⟩
theorem pet_lst2 (h : PAT X es t) : PET X (.List es pos) (tLst t) := by
  intro pins s σ H Q h0 I hq
  refine wpAny_List_spliced (thn (h pos pins s σ H _ h0 I hq) fun us s1 ⟨xs, H1, I1, r, z, q⟩ => ⟨by rw [← r.length]; exact z, ?_⟩)
  have hf : H1 s1.heap.objs.size = none := I1.hok.fresh (Nat.le_refl _)
  refine ⟨.ref s1.heap.objs.size, upd H1 s1.heap.objs.size (.lst xs), I1.laid (t' := s1.toks) (fun b u e => Heap.get?_push_of_some _ e) (Nat.le_refl _) ?_, rfl, q _ hf⟩
  exact ⟨z, us, 0, r, Heap.get?_push_size _ rfl⟩
theorem pst_set2 {i : Nat} {x : Str} {pos' : Pos} (hN : X.N.Nodup) (hi : X.N[i]? = some x) (hx : Loc X.env.scope x) (he : PET X e te) (hs : swapsWith e (some (.Name x pos')) pos.line X.env = pure false := by rfl) (hf : X.fn x = true ∨ X.env.scope.names.lookup x = some .local := by first | exact .inl rfl | exact .inr rfl | assumption) :
    PST X (.Assign [.Name x pos'] e pos) (tAsg te (gName i)) := by
  intro pins s σ H D h0 I h
  refine wpAny_Assign_Name (thn (he pins s σ H _ h0 I h) fun v s1 ⟨y, H1, I1, r1, q1⟩ => ?_) hs
  exact store_ok I1 hN hi hx r1 (fun s2 I2 => ⟨_, H1, I2, q1⟩) hf
end
section
variable {P : Program} {w : World} {K : Frag} {mg : Str → Option Value} {base : Heap}
/-- the rule for a def of at least one parameter, none of its names a cell: a token is out when the body begins -/
theorem DefAt.okT {x qual : Str} {st : Stmt} {f : Addr} {N ps : List Str} {k : Nat} {sp : Sp} (D : DefAt K x qual st f ps) (S : FnScope N ps (defScope st)) (hnc : ∀ y ∈ (defScope st).names, y.2 ≠ .cell) (hps : 1 ≤ ps.length)
    (len : ∀ vs H Q E, sp vs H Q E → vs.length = ps.length)
    (hbody : ∀ (cdv : Value) (A : Around) (outer : List Env) (s : Shared) (H : Hp) (vs : List V) (Q : VK) (E : XK),
      Room k (A.deeper (envOfC qual (defScope st) s.heap.objs.size f cdv)) → sp vs H Q E →
      ∃ t, PSsT (cxOf (L2.CX P w) P w K mg base N qual (defScope st) f cdv A outer s H E) (defBody st) t ∧ t { nx := fun _ H' => Q .non H', rt := Q } (start N vs) H) :
    ∃ fd, FnOk P w K mg base (L2.CX P w) (k + 1) f fd ps sp ∧ Binds K fd ps [] ∧ Fun K x qual st f fd := by
  obtain ⟨fd, F, hb⟩ := D.fn
  refine ⟨fd, ?_, hb, F⟩
  obtain ⟨oc, od, kV, doc, pm, an, cdv, ct, osl, rfl, lk, hcd⟩ := F.ex
  exact fn_ofT lk hcd S hnc hps len fun A outer s H vs Q E hr hsp => hbody cdv A outer s H vs Q E hr hsp
end
/-! ### what stands while numbers are drawn and lambdas made -/
def cutH (d : Addr) (H : Hp) : Hp := fun p => if p = d then none else match H p with
  | some (.tbl _) => none
  | o => o
/-- S: the draws' dict is not in it, nor a table -/
structure Stab (d : Addr) (S : Hp) : Prop where
  off : S d = none
  tbl : ∀ p ps, S p ≠ some (.tbl ps)
theorem cut_stab (d : Addr) (H : Hp) : Stab d (cutH d H) := ⟨if_pos rfl, fun p ps h => by
  unfold cutH at h
  split at h
  · cases h
  · split at h
    · cases h
    · rename_i hh
      exact hh _ h⟩
theorem cut_ex (d : Addr) (H : Hp) : Ex (cutH d H) H := fun p o h => by
  unfold cutH at h
  split at h
  · cases h
  · split at h
    · cases h
    · exact h
theorem cut_at {d p : Addr} {H : Hp} {o : HO} (h : H p = some o) (hp : p ≠ d) (ht : ∀ ps, o ≠ .tbl ps) : cutH d H p = some o := by
  unfold cutH
  rw [if_neg hp, h]
  cases o <;> first | rfl | exact absurd rfl (ht _)
theorem Stab.to_cut {d : Addr} {S H : Hp} (st : Stab d S) (e : Ex S H) : Ex S (cutH d H) := fun p o h => cut_at (e p o h) (fun q => by rw [q, st.off] at h; cases h) (fun ps q => st.tbl p ps (q ▸ h))
theorem Stab.but {d : Addr} {S H H' : Hp} (st : Stab d S) (e : Ex S H) (b : SameBut d H H') : Ex S H' := fun p o h => b p o (fun q => by rw [q, st.off] at h; cases h) (e p o h)
theorem Stab.extN {d : Addr} {S H H' : Hp} (st : Stab d S) (e : Ex S H) (b : ExtN H H') : Ex S H' := fun p o h => b p o (e p o h) (fun ps q => st.tbl p ps (q ▸ h))
theorem Dr.extN {H H' : Hp} {d c : Addr} {cells : List Int} {n : Nat} (D : Dr H d c cells n) (s : ExtN H H') : Dr H' d c cells n := by
  obtain ⟨⟨a, l, u, h1, h2⟩, hl, hn, hz⟩ := D
  exact ⟨⟨a, l, u, s _ _ h1 (fun ps z => nomatch z), h2⟩, s _ _ hl (fun ps z => nomatch z), hn, hz⟩
theorem Tabs.but {T : List (Addr × Str)} {d : Addr} {H H' : Hp} {kvs : List (Key × V)} (t : Tabs T H) (hd : H d = some (.dK kvs)) (b : SameBut d H H') : Tabs T H' := fun p hp => by
  obtain ⟨ps, h1, h2, h3⟩ := t p hp
  refine ⟨ps, b _ _ (ne_of h1 hd (fun z => nomatch z)) h1, h2, fun pos cv hc => ?_⟩
  obtain ⟨c, e1, e2⟩ := h3 pos cv hc
  exact ⟨c, e1, b _ _ (ne_of e2 hd (fun z => nomatch z)) e2⟩
theorem Dr.atd {H : Hp} {d c : Addr} {cells : List Int} {n : Nat} (D : Dr H d c cells n) : ∃ kvs, H d = some (.dK kvs) := by
  obtain ⟨a, l, u, h, _⟩ := D.dict
  exact ⟨_, h⟩
end BJ

/-! calls by promises for every Around: keywords, stars, a class, a method, a property, a classmethod; the receiver's class is told by the reading -/
namespace BJ
open PySem PySem.Spec PyProof.Rows L2 Evl StX ClX
open PySem.W (Frag)
abbrev SpK := List V → List V → Hp → VK → XK → Prop
/-- a promise for every Around, with the keywords ks -/
def CallX (P : Program) (w : World) (K : Frag) (mg : Str → Option Value) (base : Heap) (k : Nat) (u : Value) (ks : List Str) (sp : SpK) : Prop :=
  ∀ (A : Around) (outer : List Env) (s : Shared) (H : Hp) (us ws : List Value) (vs zs : List V) (Q : VK) (E : XK),
    Room k A → Env0 P w K mg base A outer s H → Vals vs us → Vals zs ws → sp vs zs H Q E → codeAny (model P w) A (.call u ⟨us, ks.zip ws⟩) (CR (L2.CX P w) outer P w H s Q E) s
section
variable {P : Program} {w : World} {K : Frag} {mg : Str → Option Value} {base : Heap}
theorem CallX.mono {j k : Nat} {u : Value} {ks : List Str} {sp : SpK} (F : CallX P w K mg base j u ks sp) (h : j ≤ k) : CallX P w K mg base k u ks sp := fun A o s H us ws vs zs Q E hr => F A o s H us ws vs zs Q E (hr.mono h)
theorem CallX.imp {k : Nat} {u : Value} {ks : List Str} {sp sp' : SpK} (F : CallX P w K mg base k u ks sp) (h : ∀ vs zs H Q E, sp' vs zs H Q E → sp vs zs H Q E) : CallX P w K mg base k u ks sp' := fun A o s H us ws vs zs Q E hr e r rz q => F A o s H us ws vs zs Q E hr e r rz (h _ _ _ _ _ q)
theorem CallO.imp {k : Nat} {u : Value} {sp sp' : Sp} (F : BJ.CallO P w K mg base k u sp) (h : ∀ vs H Q E, sp' vs H Q E → sp vs H Q E) : BJ.CallO P w K mg base k u sp' := fun A o s H us vs Q E hr e r q => F A o s H us vs Q E hr e r (h _ _ _ _ q)
theorem CallO.x {k : Nat} {u : Value} {sp : Sp} (F : BJ.CallO P w K mg base k u sp) : CallX P w K mg base k u [] fun vs zs H Q E => zs = [] ∧ sp vs H Q E := by
  rintro A o s H us ws vs zs Q E hr e r rz ⟨rfl, q⟩
  cases rz
  exact F A o s H us vs Q E hr e r q
theorem CallX.o {k : Nat} {u : Value} {sp : SpK} (F : CallX P w K mg base k u [] sp) : BJ.CallO P w K mg base k u fun vs H Q E => sp vs [] H Q E := fun A o s H us vs Q E hr e r q => F A o s H us [] vs [] Q E hr e r .nil q
theorem CallX.g {k : Nat} {u : Value} {ks : List Str} {sp : SpK} (F : CallX P w K mg base k u ks sp) : CallG P w K mg base k u ks sp := fun A o s H us ws vs zs Q E hr _ e r rz q => F A o s H us ws vs zs Q E hr e r rz q
/-- from a def's promise by a way its parameters are bound -/
theorem callX_of {k : Nat} {f : Addr} {fd : FuncData} {ps ks : List Str} {sp : Sp} {n : Nat} {g : List Value → List Value → List Value} {gV : List V → List V → List V} (F : FnOk P w K mg base (L2.CX P w) k f fd ps sp)
    (hb : KBn K fd ps n ks g gV) : CallX P w K mg base k (.ref f) ks fun vs zs H Q E => vs.length = n ∧ zs.length = ks.length ∧ sp (gV vs zs) H Q E := by
  rintro A outer s H us ws vs zs Q E hr e0 r rz ⟨hn, hm, q⟩
  have KX : K.In s.heap := e0.mod.kin.keeps fun b o e => (e0.bs b o e).1
  have r2 := hb.rel r rz
  have hl : (g us ws).length = ps.length := r2.length.symm.trans (F.len _ _ _ _ q)
  exact F.run A outer s H ⟨us, ks.zip ws⟩ (g us ws) (gV vs zs) Q E hr e0 (hb.to s us ws KX (r.length.symm.trans hn) (rz.length.symm.trans hm)) r2 q
/-- a class by its __init__ -/
def spMk (C : Addr) (sp : SpK) : SpK := fun vs zs H Q E => ∀ x dx, H x = none → H dx = none → dx ≠ x → sysModules < x → sp (.ref x :: vs) zs (upd (upd H dx (.own x)) x (.ins C dx [])) (fun v H2 => v = .non ∧ Q (.ref x) H2) E
theorem CallX.make {k : Nat} {C f : Addr} {ks : List Str} {sp : SpK} (M : Mk K C f) (F : CallX P w K mg base k (.ref f) ks sp) : CallX P w K mg base (k + 1) (.ref C) ks (spMk C sp) := by
  intro A outer s H us ws vs zs Q E hr e0 r rz h
  have KX : K.In s.heap := e0.mod.kin.keeps fun b o e => (e0.bs b o e).1
  have n1 : H s.heap.objs.size = none := e0.hok.fresh (Nat.le_refl _)
  have n2 : H (s.heap.objs.size + 1) = none := e0.hok.fresh (Nat.le_succ _)
  have big := env0_big e0
  have hq := h (s.heap.objs.size + 1) s.heap.objs.size n2 n1 (Nat.ne_of_lt (Nat.lt_succ_self _)) (Nat.lt_succ_of_lt big)
  have e1' : (s.heap.push PySem.W.emptyDict).get? s.heap.objs.size = some PySem.W.emptyDict := Heap.get?_push_size s.heap rfl
  have z1 : (s.heap.push PySem.W.emptyDict).objs.size = s.heap.objs.size + 1 := Heap.size_push _ _
  have e2' : ((s.heap.push PySem.W.emptyDict).push (PySem.W.instObj C s.heap.objs.size)).get? (s.heap.objs.size + 1) = some (PySem.W.instObj C s.heap.objs.size) := by
    have := Heap.get?_push_size (s.heap.push PySem.W.emptyDict) (o := PySem.W.instObj C s.heap.objs.size) rfl
    rwa [Heap.size_push] at this
  have e3 : (s.heap.push PySem.W.emptyDict).Ns s.heap.objs.size (fun _ => none) := ⟨PySem.W.emptyDict, #[], _, e1', rfl, (fun e he => absurd he (by simp)), fun _ => rfl⟩
  have E1 := env0_laid (o := PySem.W.emptyDict) (u := .own (s.heap.objs.size + 1)) e0 ⟨_, e1'⟩
  have ne : s.heap.objs.size ≠ s.heap.objs.size + 1 := Nat.ne_of_lt (Nat.lt_succ_self _)
  have E2 : Env0 P w K mg base A outer { s with heap := (s.heap.push PySem.W.emptyDict).push (PySem.W.instObj C s.heap.objs.size) } (upd (upd H s.heap.objs.size (.own (s.heap.objs.size + 1))) (s.heap.objs.size + 1) (.ins C s.heap.objs.size [])) := by
    have new : ObjOk P w (upd (upd H s.heap.objs.size (.own (s.heap.objs.size + 1))) (s.heap.push PySem.W.emptyDict).objs.size (.ins C s.heap.objs.size [])) ((s.heap.push PySem.W.emptyDict).push (PySem.W.instObj C s.heap.objs.size)) (s.heap.push PySem.W.emptyDict).objs.size (.ins C s.heap.objs.size []) := by
      rw [z1]
      exact ⟨by rw [upd_ne ne, upd_same], Nat.zero_le _, ne, e2', fun _ => none, (Heap.Ns1.of_empty e3).at fun o q => Heap.get?_push_of_some _ q, fun _ => True.intro, fun y hy => absurd rfl hy⟩
    have := env0_laid (s := { s with heap := s.heap.push PySem.W.emptyDict }) (o := PySem.W.instObj C s.heap.objs.size) (u := .ins C s.heap.objs.size []) E1 new
    have e : ({ s with heap := s.heap.push PySem.W.emptyDict } : Shared).heap.objs.size = s.heap.objs.size + 1 := z1
    rw [e] at this
    exact this
  have un : Un (frs outer) [] H (upd (upd H s.heap.objs.size (.own (s.heap.objs.size + 1))) (s.heap.objs.size + 1) (.ins C s.heap.objs.size [])) s.heap ((s.heap.push PySem.W.emptyDict).push (PySem.W.instObj C s.heap.objs.size)) := by
    have u1 := un_laid (fs := frs outer) (s := s) (o := PySem.W.emptyDict) (u := .own (s.heap.objs.size + 1)) n1
    have u2 := un_laid (fs := frs outer) (s := { s with heap := s.heap.push PySem.W.emptyDict }) (H := upd H s.heap.objs.size (.own (s.heap.objs.size + 1))) (o := PySem.W.instObj C s.heap.objs.size) (u := .ins C s.heap.objs.size []) (by
      show upd H s.heap.objs.size (.own (s.heap.objs.size + 1)) (s.heap.push PySem.W.emptyDict).objs.size = none
      rw [z1, upd_ne ne.symm]
      exact n2)
    have e : ({ s with heap := s.heap.push PySem.W.emptyDict } : Shared).heap.objs.size = s.heap.objs.size + 1 := z1
    rw [e] at u2
    exact u1.trans u2
  refine make_map (f := f) KX M.makes M.init (beq_iff_eq.mp M.fn) (codeAny_mono (F _ outer _ _ (Value.ref (s.heap.objs.size + 1) :: us) ws (V.ref (s.heap.objs.size + 1) :: vs) zs _ E (hr.make C us (ks.zip ws)) (E2.make C us (ks.zip ws)) (.cons rfl r) rz hq) fun res s' hq' => ?_)
  cases res with
  | error e => exact cxUp (P := P) (w := w) outer s H { s with heap := (s.heap.push PySem.W.emptyDict).push (PySem.W.instObj C s.heap.objs.size) } _ E e s' un (fun b o q => Heap.get?_push_of_some _ (Heap.get?_push_of_some _ q)) rfl hq'
  | ok fl =>
    cases fl with
    | ret u =>
      obtain ⟨v, H', os, bare, u3, hok, rv, ev, q3⟩ := hq'
      subst ev
      exact ⟨rv, V.ref (s.heap.objs.size + 1), H', os, bare, un.trans u3, hok, rfl, q3⟩
    | next => exact False.elim hq'
    | brk => exact False.elim hq'
    | cont => exact False.elim hq'
end

section
variable {X : Cx} {k : Nat} {u : Value} {ks : List Str} {sp : Sp} {spk : SpK} {W : WX} {x m f : Str} {p p2 pos apos : Pos} {e o : Expr} {es : List Expr} {kws : List Keyword} {ta te : TE} {t tk : TA} {pl : Sem Bool}
theorem run_callX {pins : List (Addr × Obj)} {σ : L2.St} {H : Hp} {s : Shared} {Q : VK} {us ws : List Value} {vs zs : List V}
    (F : CallX X.prog X.w X.K X.mg X.base k u ks spk) (hr : Room k X.A) (tkW : Takes X W) (I : Inv X pins σ H s) (r : Vals vs us) (rz : Vals zs ws) (h : spk vs zs H Q fun cls d H' => W cls d σ H') :
    wpAny (model X.prog X.w) X.A (call u us (ks.zip ws)) (EP X pins σ Q) X.xe s := by
  refine wpAny_call (codeAny_mono (F X.A X.stack s H us ws vs zs Q _ hr I.env0 r rz h) ?_)
  intro res s' hq
  match res, hq with
  | .error e, hq => exact tkW e s' (XE.of_call I (fun _ _ _ z => z) hq)
  | .ok (.ret u), hq => exact I.after hq
/-- f(e, .., k = v, ..) | f(k = v, ..) | f() -/
theorem pe_cx (F : CallX X.prog X.w X.K X.mg X.base k u ks spk) (hr : Room k X.A) (hg : Gl X x) (hm : X.mg x = some u)
    (hk : PySem.W.keepIn X.K u = true) (tkW : Takes X W) (ha : PA X (e :: es) t) (hkw : PK X kws tk)
    (hall : (backToKw pos (keywordEach kws X.env)).all (·.1.isSome) = true := by rfl) (hks : (backToKw pos (keywordEach kws X.env)).filterMap (·.1) = ks := by rfl)
    (hdb : (x == ("__debug__" : Str)) = false := by decide) (he : starEach (e :: es) X.env = (false, eval e X.env) :: starEach es X.env := by rfl)
    (hpl : ((backTo pos (starEach (e :: es) X.env)).any (·.1) || (backToKw pos (keywordEach kws X.env)).any (·.1.isNone)) = false := by rfl) :
    PE X (.Call (.Name x p) (e :: es) kws pos) (tCaK spk W t tk) where
  run := by
    intro pins s σ H Q I h
    refine wpAny_Call_Name_kw (ld_glob I hg hm ?_ hdb)
    refine PySem.W.callWith_KW (h₀ := X.base) I.ok.mod.kin hk hall (thn (ha.run pos pins s σ H _ I h) ?_) hpl he
    rintro us s1 ⟨vs, H1, I1, r, q⟩
    refine thn (hkw.run pos pins s1 σ H1 _ I1 q) ?_
    rintro ws s2 ⟨zs, H2, I2, rz, q2⟩
    rw [hks]
    exact ⟨I2.kIn, run_callX F hr tkW I2 r rz q2⟩
theorem pe_cx0 (F : CallX X.prog X.w X.K X.mg X.base k u ks spk) (hr : Room k X.A) (hg : Gl X x) (hm : X.mg x = some u)
    (hk : PySem.W.keepIn X.K u = true) (tkW : Takes X W) (hkw : PK X kws tk)
    (hall : (backToKw pos (keywordEach kws X.env)).all (·.1.isSome) = true := by rfl) (hks : (backToKw pos (keywordEach kws X.env)).filterMap (·.1) = ks := by rfl)
    (hdb : (x == ("__debug__" : Str)) = false := by decide)
    (hpl : ((backTo pos (starEach [] X.env)).any (·.1) || (backToKw pos (keywordEach kws X.env)).any (·.1.isNone)) = false := by rfl) :
    PE X (.Call (.Name x p) [] kws pos) (tCaK spk W tNil tk) where
  run := by
    intro pins s σ H Q I h
    refine wpAny_Call_Name_kw (ld_glob I hg hm ?_ hdb)
    refine PySem.W.callWith_KW0 (h₀ := X.base) I.ok.mod.kin hk hall (thn (hkw.run pos pins s σ H _ I h) ?_) hpl
    rintro ws s2 ⟨zs, H2, I2, rz, q2⟩
    rw [hks]
    exact ⟨I2.kIn, run_callX (us := []) (vs := []) F hr tkW I2 .nil rz q2⟩
theorem pe_co0 (F : BJ.CallO X.prog X.w X.K X.mg X.base k u sp) (hr : Room k X.A) (hg : Gl X x) (hm : X.mg x = some u)
    (hk : PySem.W.keepIn X.K u = true) (tkW : Takes X W) (hdb : (x == ("__debug__" : Str)) = false := by decide) : PE X (.Call (.Name x p) [] [] pos) (tCa sp W tNil) where
  run := by
    intro pins s σ H Q I h
    refine wpAny_Call_Name_kw (ld_glob I hg hm ?_ hdb)
    exact PySem.W.callWith_K0 I.kIn hk (BJ.run_callO (us := []) (vs := []) F hr tkW I .nil h)
/-- v(*e), v() where v is a name of the def that holds a def or a class of the text -/
def tVs (X : Cx) (W : WX) (i : Nat) (te : TE) : TE := fun σ H Q => ∃ (u : Addr) (k : Nat) (sp : Sp), σ[i]? = some (some (.ref u)) ∧ PySem.W.keepIn X.K (.ref u) = true ∧ BJ.CallO X.prog X.w X.K X.mg X.base k (.ref u) sp ∧ Room k X.A ∧
  te σ H fun y H1 => ∃ a xs, y = V.ref a ∧ (SqT X.K H1 a xs ∨ SqL X.K H1 a xs) ∧ sp xs H1 Q fun cls d H' => W cls d σ H'
theorem pe_vs {i : Nat} {sp_ : Pos} (hN : X.N[i]? = some x) (hv : Vis X.env.scope x) (tkW : Takes X W) (he : PE X e te) (hd : (x == ("__debug__" : Str)) = false := by decide) (hcd : (x == ("__classdict__" : Str)) = false := by decide)
    (hst : starEach [.Starred e sp_] X.env = [(true, eval e X.env)] := by rfl) :
    PE X (.Call (.Name x p) [.Starred e sp_] [] pos) (tVs X W i te) where
  run := by
    rintro pins s σ H Q I ⟨u, k, sp, hi, hk, F, hr, h⟩
    refine wpAny_Call_Name_kw (thn ((pe_var (pos := p) (i := i) hN hv hd hcd).run pins s σ H (fun v H1 => v = .ref u ∧ H1 = H) I ⟨.ref u, hi, rfl, rfl⟩) ?_)
    rintro uu s1 ⟨v, H1, I1, r1, rfl, eH⟩
    subst eH
    cases (show uu = Value.ref u from r1)
    refine PySem.W.callWith_S (h₀ := X.base) I1.ok.mod.kin hk (thn (he.run pins s1 σ H1 _ I1 h) fun v s2 ⟨y, H2, I2, ry, a, xs, ey, hxs, q⟩ => ?_) hst
    subst ey
    obtain rfl : v = Value.ref a := ry
    exact star_any I2 hxs fun us s3 I3 rv => ⟨I3.kIn, BJ.run_callO F hr tkW I3 rv q⟩
def tV0 (X : Cx) (W : WX) (i : Nat) : TE := fun σ H Q => ∃ (u : Addr) (k : Nat) (sp : Sp), σ[i]? = some (some (.ref u)) ∧ PySem.W.keepIn X.K (.ref u) = true ∧ BJ.CallO X.prog X.w X.K X.mg X.base k (.ref u) sp ∧ Room k X.A ∧ sp [] H Q fun cls d H' => W cls d σ H'
theorem pe_v0 {i : Nat} (hN : X.N[i]? = some x) (hv : Vis X.env.scope x) (tkW : Takes X W) (hd : (x == ("__debug__" : Str)) = false := by decide) (hcd : (x == ("__classdict__" : Str)) = false := by decide) :
    PE X (.Call (.Name x p) [] [] pos) (tV0 X W i) where
  run := by
    rintro pins s σ H Q I ⟨u, k, sp, hi, hk, F, hr, h⟩
    refine wpAny_Call_Name_kw (thn ((pe_var (pos := p) (i := i) hN hv hd hcd).run pins s σ H (fun v H1 => v = .ref u ∧ H1 = H) I ⟨.ref u, hi, rfl, rfl⟩) ?_)
    rintro uu s1 ⟨v, H1, I1, r1, rfl, eH⟩
    subst eH
    cases (show uu = Value.ref u from r1)
    exact PySem.W.callWith_K0 I1.kIn hk (BJ.run_callO (us := []) (vs := []) F hr tkW I1 .nil h)
/-- o.m(..): the receiver's class and the method's promise are told by the reading -/
def tMe (X : Cx) (m : Str) (W : WX) (ta : TE) (t tk : TA) (ks : List Str) : TE := fun σ H Q => ta σ H fun x H1 => ∃ (a C dx g : Addr) (fs : List (Str × V)) (k : Nat) (spk : SpK), x = .ref a ∧ H1 a = some (.ins C dx fs) ∧ fs.lookup m = none ∧ Cls X.K C ∧ Meth X.K C m g ∧
  CallX X.prog X.w X.K X.mg X.base k (.ref g) ks spk ∧ Room k X.A ∧ t σ H1 fun vs H2 => tk σ H2 fun zs H3 => spk (x :: vs) zs H3 Q fun cls d H' => W cls d σ H'
theorem pe_me (he : PE X o ta) (tkW : Takes X W) (ha : PA X (e :: es) t) (hkw : PK X kws tk)
    (hall : (backToKw pos (keywordEach kws X.env)).all (·.1.isSome) = true := by rfl) (hks : (backToKw pos (keywordEach kws X.env)).filterMap (·.1) = ks := by rfl)
    (hst : starEach (e :: es) X.env = (false, eval e X.env) :: starEach es X.env := by rfl)
    (hpl : ((backTo pos (starEach (e :: es) X.env)).any (·.1) || (backToKw pos (keywordEach kws X.env)).any (·.1.isNone)) = false := by rfl)
    (ht : eval (.Call (.Attribute o m apos) (e :: es) kws pos) X.env = (do
      let ov ← eval o X.env
      standAt apos.atName
      let (f, first) ← holding [ov] (getMethod ov m pl)
      callWith pos f first (backTo pos (starEach (e :: es) X.env)) (backToKw pos (keywordEach kws X.env))) := by rfl) :
    PE X (.Call (.Attribute o m apos) (e :: es) kws pos) (tMe X m W ta t tk ks) := by
  refine ⟨fun pins s σ H Q I h => ?_⟩
  refine PySem.W.methodCall_KW (pl := pl) (thn (he.run pins s σ H _ I h) fun u s1 ⟨x, H1, I1, rx, a, C, dx, g, fs, k, spk, ex, ea, l, c, hm, F, hr, q⟩ => ?_) ht
  subst ex
  obtain rfl : u = Value.ref a := rx
  refine getmeth_ok I1 ea c hm l ?_
  refine PySem.W.callWith_KW (first := [.ref a]) (h₀ := X.base) I.ok.mod.kin hm.kp hall (thn (ha.run pos pins s1 σ H1 _ I1 q) fun us s2 ⟨vs, H2, I2, r, q2⟩ => ?_) hpl hst
  refine thn (hkw.run pos pins s2 σ H2 _ I2 q2) ?_
  rintro ws s3 ⟨zs, H3, I3, rz, q3⟩
  rw [hks]
  exact ⟨I3.kIn, run_callX (us := .ref a :: us) (vs := .ref a :: vs) F hr tkW I3 (.cons rfl r) rz q3⟩
theorem pe_me0 (he : PE X o ta) (tkW : Takes X W) (hkw : PK X kws tk)
    (hall : (backToKw pos (keywordEach kws X.env)).all (·.1.isSome) = true := by rfl) (hks : (backToKw pos (keywordEach kws X.env)).filterMap (·.1) = ks := by rfl)
    (hpl : ((backTo pos (starEach [] X.env)).any (·.1) || (backToKw pos (keywordEach kws X.env)).any (·.1.isNone)) = false := by rfl)
    (ht : eval (.Call (.Attribute o m apos) [] kws pos) X.env = (do
      let ov ← eval o X.env
      standAt apos.atName
      let (f, first) ← holding [ov] (getMethod ov m pl)
      callWith pos f first (backTo pos (starEach [] X.env)) (backToKw pos (keywordEach kws X.env))) := by rfl) :
    PE X (.Call (.Attribute o m apos) [] kws pos) (tMe X m W ta tNil tk ks) := by
  refine ⟨fun pins s σ H Q I h => ?_⟩
  refine PySem.W.methodCall_KW (pl := pl) (thn (he.run pins s σ H _ I h) fun u s1 ⟨x, H1, I1, rx, a, C, dx, g, fs, k, spk, ex, ea, l, c, hm, F, hr, q⟩ => ?_) ht
  subst ex
  obtain rfl : u = Value.ref a := rx
  refine getmeth_ok I1 ea c hm l ?_
  refine PySem.W.callWith_KW0 (first := [.ref a]) (h₀ := X.base) I.ok.mod.kin hm.kp hall (thn (hkw.run pos pins s1 σ H1 _ I1 q) ?_) hpl
  rintro ws s3 ⟨zs, H3, I3, rz, q3⟩
  rw [hks]
  exact ⟨I3.kIn, run_callX (us := [.ref a]) (vs := [.ref a]) F hr tkW I3 (.cons rfl .nil) rz q3⟩
/-- o.f, a property: its def raises nothing -/
def tPr (X : Cx) (f : Str) (ta : TE) : TE := fun σ H Q => ta σ H fun x H1 => ∃ (a C dx p g : Addr) (fs : List (Str × V)) (k : Nat) (sp : Sp), x = .ref a ∧ H1 a = some (.ins C dx fs) ∧ Cls X.K C ∧ PropOf X.K C f p g ∧
  BJ.CallO X.prog X.w X.K X.mg X.base k (.ref g) sp ∧ Room (k + 1) X.A ∧ sp [x] H1 Q fun _ _ _ => False
theorem pe_pr (he : PE X o ta) (hab : attributeBase o f X.env (eval o X.env) = eval o X.env := by rfl) : PE X (.Attribute o f pos) (tPr X f ta) := by
  refine ⟨fun pins s σ H Q I h => ?_⟩
  refine attr_of hab (thn (he.run pins s σ H _ I h) fun u s1 ⟨x, H1, I1, rx, a, C, dx, p, g, fs, k, sp, ex, ea, c, hp, F, hr, q⟩ => ?_)
  subst ex
  obtain rfl : u = Value.ref a := rx
  obtain ⟨mA, O, _, _, _, _⟩ := ins_get I1.hok ea
  obtain ⟨od, J, _⟩ := O.look
  obtain ⟨rest, hrec⟩ := hp.rec_
  have I2 := I1.tok (s1.toks + 1)
  have hc : (PySem.W.clsIn X.K C).isSome = true := by
    obtain ⟨cd, hc, _⟩ := PySem.W.any_some c.hd
    rw [hc]
    rfl
  refine PySem.W.get_bind I1.kIn J (PySem.W.plainGet_of (c.get f)).1 (PySem.W.findObj_data hc hp.at_ hp.get hp.tak) (PySem.W.plainGet_of (c.get f)).2 (wpAny_call (PySem.W.prop_get (s := { s1 with toks := s1.toks + 1 }) I1.kIn hrec ?_))
  refine codeAny_mono (F X.A.in1 X.stack { s1 with toks := s1.toks + 1 } H1 [.ref a] [.ref a] Q _ hr.in1 I2.env0.in1 (.cons rfl .nil) q) fun r s' hq => ?_
  cases r with
  | error er =>
    obtain ⟨_, _, _, _, _, _, _, _, _, _, _, _, z⟩ := hq
    exact z.elim
  | ok fl =>
    cases fl with
    | ret u =>
      obtain ⟨v, H', I3, rv, q3⟩ := I2.after hq
      show wpAny _ _ (handedOut u) _ _ _
      rw [PySem.W.handedOut_of (handed_of rv)]
      exact wpAny_pure ⟨v, H', I3, rv, q3⟩
    | next => exact False.elim hq
    | brk => exact False.elim hq
    | cont => exact False.elim hq
/-- C.m(..), a classmethod of the class at C -/
def tCm (sp : SpK) (C : Addr) (W : WX) (ta : TE) (t tk : TA) : TE := fun σ H Q => ta σ H fun x H1 => x = .ref C ∧ t σ H1 fun vs H2 => tk σ H2 fun zs H3 => sp (.ref C :: vs) zs H3 Q fun cls d H' => W cls d σ H'
theorem run_cmX {C g : Addr} {pins : List (Addr × Obj)} {σ : L2.St} {H : Hp} {s : Shared} {q : Addr} {Q : VK} {us ws : List Value} {vs zs : List V} (F : CallX X.prog X.w X.K X.mg X.base k (.ref g) ks spk) (hr : Room k X.A) (tkW : Takes X W) (I : Inv X ((q, PySem.W.methodObj (.ref g) (.ref C)) :: pins) σ H s)
    (r : Vals vs us) (rz : Vals zs ws) (h : spk (.ref C :: vs) zs H Q fun cls d H' => W cls d σ H') : wpAny (model X.prog X.w) X.A (call (.ref q) us (ks.zip ws)) (EP X pins σ Q) X.xe s := by
  have z : wpAny (model X.prog X.w) X.A (call (.ref q) us (ks.zip ws)) (EP X ((q, PySem.W.methodObj (.ref g) (.ref C)) :: pins) σ Q) X.xe s := by
    refine wpAny_call (PySem.W.method_call (pin_at I) (codeAny_mono (F X.A X.stack s H (.ref C :: us) ws (.ref C :: vs) zs Q _ hr I.env0 (.cons rfl r) rz h) ?_))
    intro res s' hq
    match res, hq with
    | .error e, hq => exact tkW e s' (XE.of_call I (fun _ _ _ z => z) hq)
    | .ok (.ret u), hq => exact I.after hq
  exact thn z fun _ _ y => unpinE y
theorem pe_cm {C p g : Addr} {mc : Value} (he : PE X o ta) (r : CRead X.K C mc) (c : CMet X.K C mc m p g) (F : CallX X.prog X.w X.K X.mg X.base k (.ref g) ks spk) (hr : Room k X.A) (tkW : Takes X W) (ha : PA X (e :: es) t) (hkw : PK X kws tk)
    (hall : (backToKw pos (keywordEach kws X.env)).all (·.1.isSome) = true := by rfl) (hks : (backToKw pos (keywordEach kws X.env)).filterMap (·.1) = ks := by rfl)
    (hst : starEach (e :: es) X.env = (false, eval e X.env) :: starEach es X.env := by rfl)
    (hpl : ((backTo pos (starEach (e :: es) X.env)).any (·.1) || (backToKw pos (keywordEach kws X.env)).any (·.1.isNone)) = false := by rfl)
    (ht : eval (.Call (.Attribute o m apos) (e :: es) kws pos) X.env = (do
      let ov ← eval o X.env
      standAt apos.atName
      let (f, first) ← holding [ov] (getMethod ov m pl)
      callWith pos f first (backTo pos (starEach (e :: es) X.env)) (backToKw pos (keywordEach kws X.env))) := by rfl) :
    PE X (.Call (.Attribute o m apos) (e :: es) kws pos) (tCm spk C W ta t tk) := by
  refine ⟨fun pins s σ H Q I h => ?_⟩
  refine PySem.W.methodCall_KW (pl := pl) (thn (he.run pins s σ H _ I h) fun u s1 ⟨x, H1, I1, rx, ex, q⟩ => ?_) ht
  subst ex
  obtain rfl : u = Value.ref C := rx
  refine getmethcm_ok I1 r c fun s2 I2 => ?_
  refine PySem.W.callWith_of hpl (PySem.W.keeps_M (self := .ref C) c.fi) (evalArgs_kw2 hall (thn (ha.run pos _ s2 σ H1 _ I2 q) fun us s3 ⟨vs, H2, I3, rv, q2⟩ => ?_) hst)
  refine thn (hkw.run pos _ s3 σ H2 _ I3 q2) ?_
  rintro ws s4 ⟨zs, H3, I4, rz, q3⟩
  rw [hks]
  exact ⟨⟨pin_at I4, I4.kIn⟩, run_cmX F hr tkW I4 rv rz q3⟩
theorem pe_cm0 {C p g : Addr} {mc : Value} (he : PE X o ta) (r : CRead X.K C mc) (c : CMet X.K C mc m p g) (F : CallX X.prog X.w X.K X.mg X.base k (.ref g) ks spk) (hr : Room k X.A) (tkW : Takes X W) (hkw : PK X kws tk)
    (hall : (backToKw pos (keywordEach kws X.env)).all (·.1.isSome) = true := by rfl) (hks : (backToKw pos (keywordEach kws X.env)).filterMap (·.1) = ks := by rfl)
    (hpl : ((backTo pos (starEach [] X.env)).any (·.1) || (backToKw pos (keywordEach kws X.env)).any (·.1.isNone)) = false := by rfl)
    (ht : eval (.Call (.Attribute o m apos) [] kws pos) X.env = (do
      let ov ← eval o X.env
      standAt apos.atName
      let (f, first) ← holding [ov] (getMethod ov m pl)
      callWith pos f first (backTo pos (starEach [] X.env)) (backToKw pos (keywordEach kws X.env))) := by rfl) :
    PE X (.Call (.Attribute o m apos) [] kws pos) (tCm spk C W ta tNil tk) := by
  refine ⟨fun pins s σ H Q I h => ?_⟩
  refine PySem.W.methodCall_KW (pl := pl) (thn (he.run pins s σ H _ I h) fun u s1 ⟨x, H1, I1, rx, ex, q⟩ => ?_) ht
  subst ex
  obtain rfl : u = Value.ref C := rx
  refine getmethcm_ok I1 r c fun s2 I2 => ?_
  refine PySem.W.callWith_of hpl (PySem.W.keeps_M (self := .ref C) c.fi) (evalArgs_kw2_nil hall (thn (hkw.run pos _ s2 σ H1 _ I2 q) ?_))
  rintro ws s4 ⟨zs, H3, I4, rz, q3⟩
  rw [hks]
  exact ⟨⟨pin_at I4, I4.kIn⟩, run_cmX (us := []) (vs := []) F hr tkW I4 .nil rz q3⟩
end
end BJ

/-! generators whose body is one «yield from»; what consumes them may change objects of its own between two items -/
namespace BJ
open PySem PySem.Spec PyProof.Rows L2 Evl GenW
open PySem.W (Frag)
/-- while a generator sleeps only the objects at ws change -/
structure Doze (ws : List Addr) (s t : Shared) : Prop where
  os : t.os = s.os
  bare : AllBare t.gens
  keep : ∀ b o, b ∉ ws → s.heap.get? b = some o → t.heap.get? b = some o
  there : ∀ b ∈ ws, ∃ o, t.heap.get? b = some o ∧ ∀ v, o.data ≠ .cell v
/-- what stands around a generator that was made at sc, its object go at a: the heap was H, is H' -/
structure Cn (P : Program) (w : World) (outer : List Env) (H H' : Hp) (sc : Shared) (ws : List Addr) (a : Addr) (go : Obj) (s : Shared) : Prop where
  os : s.os = sc.os
  bare : AllBare s.gens
  un : Un (frs outer) [] H H' sc.heap s.heap
  hok : HOk P w H' s.heap
  lim : s.heap.NoLimit
  gen : s.heap.get? a = some go
  off : ∀ b ∈ ws, H' b = none
section
variable {P : Program} {w : World} {outer : List Env} {H H' : Hp} {sc s t : Shared} {ws : List Addr} {a : Addr} {go : Obj}
/-- the objects at ch change, none of them known to anybody -/
theorem Cn.step (c : Cn P w outer H H' sc ws a go s) {ch : List Addr} (ho : t.os = s.os) (hb : AllBare t.gens) (k : ∀ b o, b ∉ ch → s.heap.get? b = some o → t.heap.get? b = some o)
    (hf : ∀ b ∈ ch, sc.heap.objs.size ≤ b ∧ H' b = none ∧ b ≠ cStatics ∧ b ≠ a) : Cn P w outer H H' sc ws a go t := by
  have old : ∀ b o, sc.heap.get? b = some o → b ∉ ch := fun b o e hm => absurd (Nat.lt_of_lt_of_le (Heap.lt_size e) (hf b hm).1) (Nat.lt_irrefl _)
  refine ⟨ho.trans c.os, hb, ⟨fun b o e n h1 h2 => k b o (old b o e) (c.un.keep b o e n h1 h2), fun b o e n h1 h2 => ?_, c.un.free, fun b o e hx => ?_, c.un.tups, c.un.frzs, c.un.tbls⟩, fun b u q => ?_, ?_, k a go (fun hm => (hf a hm).2.2.2 rfl) c.gen, c.off⟩
  · obtain ⟨sl, q⟩ := c.un.slot b o e n h1 h2
    exact ⟨sl, k b _ (old b o e) q⟩
  · obtain ⟨o', q⟩ := c.un.there b o e hx
    exact ⟨o', k b _ (old b o e) q⟩
  · refine (c.hok b u q).stay (fun x y hc e => k x y (fun hm => ?_) e) (fun _ z => z) (fun _ _ z => z)
    have n := (hf x hm).2.1
    rcases hc with z | z
    · rw [z, q] at n
      cases n
    · rw [z] at n
      cases n
  · obtain ⟨mc, hns, hnn⟩ := c.lim
    exact ⟨mc, hns.at' fun o e => k _ o (fun hm => (hf _ hm).2.2.1 rfl) e, hnn⟩
end
/-- the protocol of a generator that hands out xs: item n from the end -/
def YItm (P : Program) (w : World) (outer : List Env) (H : Hp) (sc : Shared) (ws : List Addr) (a : Addr) (go : Obj) (xs : List V) (Q : Hp → Prop) : Protocol := fun n s₀ v s kap =>
  ∃ (x : V) (H' : Hp), xs[xs.length - (n + 1)]? = some x ∧ RelV x v ∧ n < xs.length ∧ Cn P w outer H H' sc ws a go s ∧ Q H' ∧ (∀ b ∈ ws, ∀ o, s₀.heap.get? b = some o → s.heap.get? b = some o) ∧ ∀ t, Doze ws s t → kap (.send .none) t
def YEnd (P : Program) (w : World) (outer : List Env) (H : Hp) (sc : Shared) (ws : List Addr) (a : Addr) (go : Obj) (Q : Hp → Prop) : GenEnd := fun n s₀ r s =>
  (r = .ok (.ret .none) ∨ r = .ok .next) ∧ n = 0 ∧ ∃ H', Cn P w outer H H' sc ws a go s ∧ Q H' ∧ ∀ b ∈ ws, ∀ o, s₀.heap.get? b = some o → s.heap.get? b = some o
section
variable {X : Cx} {A : Around} {outer : List Env} {H H' : Hp} {sc : Shared} {ws : List Addr} {a it : Addr} {go : Obj} {fs : List Frame} {xs : List V} {St : Nat → Heap → Prop} {Q : Hp → Prop} {R : GenEnd}
/-- it hands out what is left of xs -/
theorem seg_yg (q : QIt X H' it xs St) (hq : Q H') (hw : ∀ b ∈ ws, sc.heap.objs.size ≤ b ∧ b ≠ cStatics ∧ b ≠ a) (hit : sc.heap.objs.size ≤ it) (hH : H' it = none) (hs : it ≠ cStatics) (hia : it ≠ a) (hiw : it ∉ ws)
    (ho : (A.over (.builtin "proto.yield_from" ⟨[.ref it, .bool false, .none], []⟩) fs).handled = none) (hsp : splitAtGen fs = none) (hgd : fs.any Frame.guarded = false)
    (hend : ∀ (s₀ s : Shared), Cn X.prog X.w outer H H' sc ws a go s → (∀ b ∈ ws, ∀ o, s₀.heap.get? b = some o → s.heap.get? b = some o) →
      Seg (model X.prog X.w) A R (YItm X.prog X.w outer H sc ws a go xs Q) 0 s₀ (.builtin "proto.yield_from" ⟨[.ref it, .bool false, .none], []⟩) (.pure (.done (.ret .none))) fs s) :
    ∀ (n : Nat) (s₀ s : Shared), n ≤ xs.length → Cn X.prog X.w outer H H' sc ws a go s → (∀ b ∈ ws, ∀ o, s₀.heap.get? b = some o → s.heap.get? b = some o) → St (xs.length - n) s.heap →
      Seg (model X.prog X.w) A R (YItm X.prog X.w outer H sc ws a go xs Q) n s₀ (.builtin "proto.yield_from" ⟨[.ref it, .bool false, .none], []⟩) ((model X.prog X.w).den (.builtin "proto.yield_from" ⟨[.ref it, .bool false, .none], []⟩)) fs s := by
  obtain ⟨T, hT, hcl, hng⟩ := q.ty
  have turn : ∀ {s : Shared} {h' : Heap} {tk : Nat}, Cn X.prog X.w outer H H' sc ws a go s → (∀ b o, b ≠ it → s.heap.get? b = some o → h'.get? b = some o) → Cn X.prog X.w outer H H' sc ws a go { s with heap := h', toks := tk } := fun {s h' tk} c k =>
    c.step (t := { s with heap := h', toks := tk }) (ch := [it]) rfl c.bare (fun b o hb e => k b o (fun z => hb (by rw [z]; exact List.mem_singleton.mpr rfl)) e) (fun b hb => by rw [List.mem_singleton.mp hb]; exact ⟨hit, hH, hs, hia⟩)
  intro n
  induction n with
  | zero =>
    intro s₀ s hn c k0 st
    rw [Nat.sub_zero] at st
    rw [den_yf]; unfold Builtin.«proto.yield_from»; (try dsimp only); refine seg_bind (wpAny_pure ?_); (try dsimp only)
    refine seg_bind (wpAny_attempt (wpAny_holding ?_)); rw [if_neg Bool.false_ne_true, if_pos (show (Value.none == Value.none) = true from rfl)]
    refine wpAny_bind (wpAny_rule (wpAny_bind ?_)); refine q.done _ s _ _ ho st fun e h' tk hS hk => ?_
    obtain ⟨x, o, vs, rfl, hoa, hcls, hdat, h5⟩ := hS
    (try dsimp only); refine seg_bind (wpAny_endsTurn hoa hcls ?_); (try dsimp only); rw [if_pos rfl]
    (first | refine seg_bind (wpAny_rule ?_) | (rw [if_neg Bool.false_ne_true]; refine seg_bind (wpAny_rule ?_)) | (rw [if_neg Bool.false_ne_true]; refine seg_bind (wpAny_pure ?_); refine seg_bind (wpAny_rule ?_)))
    refine seg_bind (wpAny_field hoa hdat h5 ?_)
    exact hend s₀ _ (turn c hk) fun b hb o e => hk b o (fun z => hiw (z ▸ hb)) (k0 b hb o e)
  | succ n ih =>
    intro s₀ s hn c k0 st
    obtain ⟨x, hx⟩ : ∃ x, xs[xs.length - (n + 1)]? = some x := ⟨xs[xs.length - (n + 1)]'(by omega), List.getElem?_eq_getElem (by omega)⟩
    rw [den_yf]; unfold Builtin.«proto.yield_from»; (try dsimp only); refine seg_bind (wpAny_pure ?_); (try dsimp only)
    refine seg_bind (wpAny_attempt (wpAny_holding ?_)); rw [if_neg Bool.false_ne_true, if_pos (show (Value.none == Value.none) = true from rfl)]
    refine wpAny_bind (wpAny_rule (wpAny_bind ?_)); refine q.item _ _ x s _ _ ho hx st fun v h' tk rv st' hk => ?_
    have e1 : xs.length - (n + 1) + 1 = xs.length - n := by omega
    rw [e1] at st'
    have c' := turn (tk := tk) c hk
    obtain ⟨oi, hoi, hoc⟩ := hT _ h' st'
    refine wpAny_pure ?_; (try dsimp only); refine seg_bind (wpAny_typeOf (T := T) ⟨oi, hoi, hoc⟩ ?_); (try dsimp only)
    (first | (refine seg_bind (wpAny_of_eq hcl ?_); refine seg_bind (wpAny_pure ?_)) | refine seg_bind (wpAny_bind (wpAny_of_eq hcl (wpAny_pure ?_))) | refine seg_bind (wpAny_of_eq hcl ?_))
    (try dsimp only); refine seg_bind (wpAny_sleptOver hoi hoc hng ?_); refine seg_yield hsp rfl hgd ?_
    refine ⟨x, H', hx, rv, by omega, c', hq, fun b hb o e => hk b o (fun z => hiw (z ▸ hb)) (k0 b hb o e), fun t z => ?_⟩
    have st2 : St (xs.length - n) t.heap := q.frame _ h' t.heap st' fun b o hb e => z.keep b o (fun hm => by
      rcases hb with y | y
      · exact hiw (y ▸ hm)
      · exact y (c'.off b hm)) e
    obtain ⟨oj, hoj, hojc⟩ := hT _ t.heap st2
    show Seg _ _ _ _ n t _ (Builtin.Generator.sleptOver (.ref it) false >>= fun _ => _) fs t
    refine seg_bind (wpAny_sleptOver hoj hojc hng ?_); (try dsimp only); refine seg_bind (wpAny_pure ?_)
    have c2 : Cn X.prog X.w outer H H' sc ws a go t := c'.step (ch := ws) z.os z.bare z.keep fun b hb => ⟨(hw b hb).1, c'.off b hb, (hw b hb).2.1, (hw b hb).2.2⟩
    exact seg_again (plainId_quiet plain_yf _) (ih t t (by omega) c2 (fun _ _ _ e => e) st2)
end
end BJ

/-! the call of such a generator's def -/
namespace BJ
open PySem PySem.Spec PyProof.Rows L2 Evl GenW
open PySem.W (Frag)
/-- a generator def's promise: the arguments, the heap, what it hands out, what is wanted of the heap -/
abbrev SpY := List V → Hp → List V → (Hp → Prop) → Prop
/-- a generator that has not begun, and how it goes on -/
def YMade (P : Program) (w : World) (k : Nat) (outer : List Env) (H : Hp) (s : Shared) (xs : List V) (Q : Hp → Prop) (u : Value) (s' : Shared) : Prop :=
  ∃ (a : Addr) (g : Nat) (c : Code) (go : Obj), u = .ref a ∧ s.heap.objs.size ≤ a ∧ a < s'.heap.objs.size ∧ s'.heap.get? a = some go ∧ (∀ h : Heap, h.get? a = some go → h.IsGen a g) ∧ s'.gens[g]? = some (.fresh c) ∧ s'.os = s.os ∧ AllBare s'.gens ∧ s'.heap.NoLimit ∧
    (∀ b o, s.heap.get? b = some o → s'.heap.get? b = some o) ∧ ∀ (A : Around) (ws : List Addr) (t : Shared), Room k A → A.frames = some outer → (∀ b ∈ ws, s'.heap.objs.size ≤ b) → (∀ b o, s'.heap.get? b = some o → t.heap.get? b = some o) →
      (∀ b ∈ ws, ∃ o, t.heap.get? b = some o ∧ ∀ v, o.data ≠ .cell v) → t.os = s.os → AllBare t.gens → Seg (model P w) A (YEnd P w outer H s ws a go Q) (YItm P w outer H s ws a go xs Q) xs.length t c ((model P w).den c) [] t
def YFn (P : Program) (w : World) (K : Frag) (mg : Str → Option Value) (base : Heap) (k : Nat) (f : Addr) (sp : SpY) : Prop :=
  ∀ (A : Around) (outer : List Env) (s : Shared) (H : Hp) (us : List Value) (vs xs : List V) (Q : Hp → Prop), Room k A → Env0 P w K mg base A outer s H → Vals vs us → sp vs H xs Q →
    codeAny (model P w) A (.call (.ref f) ⟨us, []⟩) (fun r s' => match r with | .ok (.ret u) => YMade P w k outer H s xs Q u s' | _ => False) s
section
variable {P : Program} {w : World} {K : Frag} {mg : Str → Option Value} {base : Heap}
theorem yfn_of {k : Nat} {f : Addr} {name qual : Str} {params : Arguments} {body : List Stmt} {e : Expr} {yp pos : Pos} {scope : Scope} {dV kV doc pm cdv ct oc : Value} {an od : Option Addr} {osl : Array (Option Value)} {N ps : List Str} {sp : SpY}
    (lk : K.lookup f = some ⟨oc, od, .func (PySem.W.fnOf name qual params body scope dV kV doc pm an cdv ct), osl⟩) (hbo : body = [.Expr (.YieldFrom e yp) pos]) (hcd : PySem.W.codeIn K cdv qual = true) (S : GScope N ps scope) (hi : ∀ n : Addr, interactive (envOfC qual scope n f cdv) = false) (hb : Binds K (PySem.W.fnOf name qual params body scope dV kV doc pm an cdv ct) ps [])
    (len : ∀ vs H xs Q, sp vs H xs Q → vs.length = ps.length)
    (hbody : ∀ (A : Around) (outer : List Env) (s : Shared) (H : Hp) (vs xs : List V) (Q : Hp → Prop) (pn : List (Addr × Obj)), Room k (A.deeper (envOfC qual scope s.heap.objs.size f cdv)) → sp vs H xs Q →
      ∃ t, YfE (gcxOf P w K mg base N qual scope f cdv A outer s H (fun _ _ _ => False) pn).nox e t ∧ t (L2.start N vs) H fun ys H' => ys = xs ∧ Q H') : YFn P w K mg base (k + 1) f sp := by
  subst hbo
  intro A outer s H us vs xs Q hr e0 r hsp
  have hl := len _ _ _ _ hsp
  have KX : K.In s.heap := e0.mod.kin.keeps fun b o e => (e0.bs b o e).1
  have lim : s.heap.NoLimit := e0.mod.nolimit.keeps fun b o e => (e0.bs b o e).1
  have hul : (us ++ []).length = ps.length := by rw [List.append_nil, ← r.length, hl]
  have hbind := hb s us KX hul
  rw [List.append_nil] at hbind
  refine codeAny_call_generator hr.depth (KX _ _ lk) rfl S.co S.gen rfl (PySem.W.codeRec_of KX hcd) (hbind _ _ _ _ ?_)
  refine wpAny_newFunctionEnv_cells S.kind (fun y hy => ?_) fun env he s1 x => ?_
  · rcases S.par y.1 (List.of_mem_zip (show (y.1, y.2) ∈ _ from hy)).1 with q | q
    · exact .inl q
    · exact .inr ⟨q, PySem.W.cellsFrom_some _ _ _ (.inl q)⟩
  subst he
  have lim1 : s1.heap.NoLimit := lim.keeps x.toInCall.keep
  refine ⟨lim1, ?_⟩
  obtain ⟨h1, tk, es1, hk1⟩ := x.done
  have os1 : s1.os = s.os := by rw [es1]
  have gen1 : s1.gens = s.gens := by rw [es1]
  have lt1 : s.heap.objs.size < s1.heap.objs.size := x.toInCall.ns.lt
  have kp1 : ∀ b o, s.heap.get? b = some o → s1.heap.get? b = some o := x.toInCall.keep
  have main : ∀ (go : Obj) (nm qn : Value) (tk2 : Nat), go.cls = .type "generator" → go.data = .fields #[.int s1.gens.size 0, nm, qn] → go.slots = #[] → (∀ h : Heap, (h.push go).get? h.objs.size = some go) →
      YMade P w (k + 1) outer H s xs Q (.ref s1.heap.objs.size) { s1 with gens := s1.gens.push (.fresh (.func [.Expr (.YieldFrom e yp) pos] (envOfC qual scope s.heap.objs.size f cdv))), toks := tk2, heap := s1.heap.push go } := by
    intro go nm qn tk2 hgc hgd0 hgs hgp
    have hpushed : (s1.heap.push go).get? s1.heap.objs.size = some go := hgp _
    refine ⟨s1.heap.objs.size, s1.gens.size, _, go, rfl, Nat.le_of_lt lt1, ?_, hpushed, fun h e => ⟨go, nm, qn, e, hgc, hgd0, hgs⟩, Array.getElem?_push_size .., os1, AllBare.push (by rw [gen1]; exact e0.bare) rfl, lim1.keeps fun b o e => Heap.get?_push_of_some _ e, fun b o e => Heap.get?_push_of_some _ (kp1 b o e), ?_⟩
    · show _ < (s1.heap.push _).objs.size
      rw [Heap.size_push]
      exact Nat.lt_succ_self _
    intro Aw ws t hrw hfr hws hkt hwo hos hba
    have hws' : ∀ b ∈ ws, s1.heap.objs.size < b := fun b hb => by
      have := hws b hb
      have z : (s1.heap.push go).objs.size ≤ b := this
      rw [Heap.size_push] at z
      exact z
    have e0w : Env0 P w K mg base Aw outer s H := ⟨hfr, e0.mod, e0.bs, e0.bsz, e0.funs, e0.frf, e0.hok, e0.bare⟩
    have I1 : Inv (gcxOf P w K mg base N qual scope f cdv Aw outer s H (fun _ _ _ => False) []) [] (L2.start N vs) H s1 := inv_startG S hrw.hd e0w hl r x
    have kpt : ∀ b o, s1.heap.get? b = some o → t.heap.get? b = some o := fun b o e => hkt b o (Heap.get?_push_of_some _ e)
    have I2 : Inv (gcxOf P w K mg base N qual scope f cdv Aw outer s H (fun _ _ _ => False) []) [] (L2.start N vs) H t := I1.call' (ch := []) (hos.trans os1.symm) (Un.kept kpt) (I1.hok.kept kpt) hba fun b z => by simp at z
    have hea : t.heap.get? s1.heap.objs.size = some go := hkt s1.heap.objs.size go hpushed
    have young : ∀ b, s1.heap.objs.size ≤ b → H b = none ∧ b ≠ s.heap.objs.size ∧ b ∉ frs outer := fun b hb => ⟨I1.hok.fresh hb, Nat.ne_of_gt (Nat.lt_of_lt_of_le lt1 hb), I1.nofs hb⟩
    have I3 : Inv (gcxOf P w K mg base N qual scope f cdv Aw outer s H (fun _ _ _ => False) [(s1.heap.objs.size, go)]) (pinsAt ws t.heap) (L2.start N vs) H t := Inv.pinnedG I2 fun p hp => by
      rcases List.mem_append.mp hp with z | z
      · rw [List.mem_singleton.mp z]
        obtain ⟨y1, y2, y3⟩ := young s1.heap.objs.size (Nat.le_refl _)
        exact ⟨hea, y1, y2, y3, fun v q => by rw [hgd0] at q; cases q⟩
      · obtain ⟨hb, e⟩ := of_pinsAt z
        obtain ⟨y1, y2, y3⟩ := young p.1 (Nat.le_of_lt (hws' p.1 hb))
        obtain ⟨o, e2, hd⟩ := hwo p.1 hb
        rw [e] at e2
        cases e2
        exact ⟨e, y1, y2, y3, hd⟩
    obtain ⟨ty, hty, hq⟩ := hbody Aw outer s H vs xs Q [(s1.heap.objs.size, go)] (hrw.deeper _) hsp
    have hcs : cStatics < s.heap.objs.size := by
      obtain ⟨mc, hns, _⟩ := lim
      exact hns.lt
    refine seg_func (seg_execs_cons ?_)
    rw [exec_Expr _ _ pos (hi _) rfl]
    refine seg_at (segw_bind2 ?_)
    rw [over_func]
    refine wpAny_mono (hty.run (pinsAt ws t.heap) t _ H _ (I3.wish _) hq) (fun v s3 hv => ?_) fun x s' hx => (show False from hx).elim
    obtain ⟨T, hT, hne, hit⟩ := hv
    refine seg_at ?_
    show Seg _ _ _ _ _ _ _ ((yieldFrom _ v).wrap _ _ id id) [] s3
    unfold yieldFrom
    refine seg_bind_wrap (wpAny_typeOf hT ?_)
    rw [if_neg (by rw [hne]; exact Bool.false_ne_true)]
    refine seg_bind_wrap (wpAny_holding ?_)
    rw [over_func]
    refine wpAny_mono hit (fun u s4 hu => ?_) fun x s' hx => (show False from hx).elim
    obtain ⟨it, H', ys, St, rfl, I4, q1, q2, q3, q4, q5, q6, q7, rfl, hQ⟩ := hu
    refine seg_call fun p => ?_
    have q1' : s.heap.objs.size ≤ it := q1.resolve_left (fun z => by cases z)
    have c4 : Cn P w outer H H' s ws s1.heap.objs.size go s4 := ⟨I4.os, I4.bare, I4.base, I4.hok, I4.nolimit, (I4.pin (s1.heap.objs.size, go) (List.mem_append_left _ (List.mem_singleton.mpr rfl))).1, fun b hb => by
      obtain ⟨o, e, _⟩ := hwo b hb
      exact (I4.pin (b, o) (List.mem_append_right _ (mem_pinsAt hb e))).2.1⟩
    have hitw : it ∉ ws := fun hm => by
      obtain ⟨o, e, _⟩ := hwo it hm
      exact q5 (it, o) (List.mem_append_right _ (mem_pinsAt hm e)) rfl
    have hita : it ≠ s1.heap.objs.size := fun z => q5 (s1.heap.objs.size, go) (List.mem_append_left _ (List.mem_singleton.mpr rfl)) z.symm
    refine seg_yg (X := (gcxOf P w K mg base N qual scope f cdv Aw outer s H (fun _ _ _ => False) [(s1.heap.objs.size, go)]).nox) (outer := outer) (H := H) (sc := s) (ws := ws) (a := s1.heap.objs.size) (go := go) (Q := Q) q7 hQ (fun b hb => ⟨Nat.le_trans (Nat.le_of_lt lt1) (Nat.le_of_lt (hws' b hb)), Nat.ne_of_gt (Nat.lt_of_lt_of_le hcs (Nat.le_trans (Nat.le_of_lt lt1) (Nat.le_of_lt (hws' b hb)))), Nat.ne_of_gt (hws' b hb)⟩)
      q1' q4 (Nat.ne_of_gt (Nat.lt_of_lt_of_le hcs q1')) hita hitw ?_ rfl rfl (fun s₀ s' c k0 => ?_) ys.length t s4 (Nat.le_refl _) c4 (fun b hb o e => (I4.pin (b, o) (List.mem_append_right _ (mem_pinsAt hb e))).1) (by rw [Nat.sub_self]; exact q6)
    · show (Aw.over (.func [.Expr (.YieldFrom e yp) pos] (envOfC qual scope s.heap.objs.size f cdv)) []).handled = none
      rw [over_func]
      exact hrw.hd
    · have fin : Seg (model P w) Aw (YEnd P w outer H s ws s1.heap.objs.size go Q) (YItm P w outer H s ws s1.heap.objs.size go ys Q) 0 s₀ (.func [.Expr (.YieldFrom e yp) pos] (envOfC qual scope s.heap.objs.size f cdv)) (leafOf (.ok (.ret .none))) [] s' :=
        seg_end (.ok (.ret .none)) ⟨.inl rfl, rfl, H', c, hQ, k0⟩
      exact seg_leaf (.ok (.ret .none)) fin
  exact main _ _ _ _ rfl rfl rfl fun h => Heap.get?_push_size _ rfl
end
end BJ

/-! [x for x in g] where g is such a generator -/
namespace BJ
open PySem PySem.Spec PyProof.Rows L2 Evl GenW
open PySem.W (Frag)
/-- an expression whose value is such a generator, not begun -/
abbrev TYx := L2.St → Hp → (List V → Hp → Prop) → Prop
structure PY (X : Cx) (k : Nat) (e : Expr) (ty : TYx) : Prop where
  run : ∀ (pins : List (Addr × Obj)) (s : Shared) (σ : L2.St) (H : Hp) (cont : List V → Hp → Prop), Inv X pins σ H s → ty σ H cont → wpAny (model X.prog X.w) X.A (eval e X.env)
    (fun u s1 => ∃ sc H1 xs, Inv X pins σ H1 sc ∧ YMade X.prog X.w k X.stack H1 sc xs (cont xs) u s1) X.xe s
/-- the comprehension's list and its names are no cells -/
theorem two_there {h : Heap} {D : Addr} {acc : Array Value} {cc : Nat} {m : Str → Option Value} (h1 : h.get? D = some (lstObj acc cc)) (h2 : h.Ns (D + 1) m) : ∀ b ∈ [D, D + 1], ∃ o, h.get? b = some o ∧ ∀ v, o.data ≠ .cell v := fun b hb => by
  simp only [List.mem_cons, List.not_mem_nil, or_false] at hb
  rcases hb with rfl | rfl
  · exact ⟨_, h1, fun v z => nomatch z⟩
  · obtain ⟨o, es, ep, e, d, _⟩ := h2
    exact ⟨o, e, fun v z => by rw [d] at z; cases z⟩
def tLcY (ty : TYx) : TE := fun σ H Q => ty σ H fun xs H1 => xs.length ≤ sizeLine ∧ ∀ D, H1 D = none → sysModules < D → Q (.ref D) (upd H1 D (.lst xs))
section
variable {X : Cx} {k : Nat} {iter : Expr} {ty : TYx} {x : Str} {p1 p2 pos : Pos} {scope : Scope}
theorem pe_lcY (hc : X.calm = true) (h : PY X k iter ty) (hr : Room (k + 1) X.A) (hk : scope.kind = .function) (hn : scope.names = [((".0" : Str), NameKind.local), (x, NameKind.local)]) (hx0 : (x == (".0" : Str)) = false := by decide) (hd : (x == ("__debug__" : Str)) = false := by decide)
    (hs : ∀ y, foldedSetIterable iter X.env y = pure y := by intro _; rfl) : PE X (.ListComp (.Name x p1) [⟨.Name x p2, iter, [], 0⟩] scope pos) (tLcY ty) := by
  refine ⟨fun pins s σ H Q I hq => ?_⟩
  have lk0 : scope.names.lookup (".0" : Str) = some .local := by rw [hn]; rfl
  have lkx : scope.names.lookup x = some .local := by rw [hn, List.lookup_cons, hx0, List.lookup_cons_self]
  refine wpAny_ListComp (fun y hy => ?_) hk (fun y hy e => ?_) (thn (h.run pins s σ H _ I hq) fun u s1 hu => ?_) hs
  · rw [hn] at hy
    simp only [List.mem_cons, List.not_mem_nil, or_false] at hy
    rcases hy with rfl | rfl <;> exact fun z => nomatch z
  · rw [hn] at hy
    simp only [List.mem_cons, List.not_mem_nil, or_false] at hy
    rcases hy with rfl | rfl
    · exact lk0
    · exact lkx
  obtain ⟨sc, H1, xs, Ic, a, g, c, go, rfl, ha1, ha2, hgo, hgen, hgs, hos, hb, hl, hkp, wake⟩ := hu
  refine wpAny_pyIter_gen (hgen _ hgo) ?_
  refine wpAny_newObj_type (newEnv_comp ?_) (by show 0 ≤ sizeLine; decide)
  have hcs : cStatics < s1.heap.objs.size := by
    obtain ⟨mc, hns, _⟩ := hl
    exact hns.lt
  have hsz : sc.heap.objs.size ≤ s1.heap.objs.size := Nat.le_of_lt (Nat.lt_of_le_of_lt ha1 ha2)
  generalize hD : s1.heap.objs.size = D at *
  have zC : (s1.heap.push ({ cls := .type "list", data := .seq ([] : List Value).toArray } : Obj)).objs.size = D + 1 := by rw [Heap.size_push, hD]
  have ec : ∀ (n : Nat), cellsFrom n scope.names [] = [] := fun n => by rw [hn]; rfl
  have pc : ∀ hh : Heap, pushCells hh scope.names = hh := fun hh => by rw [hn]; rfl
  show codeAny _ _ (.compStart _ 0 (.ref a) (.ref D) { newEnv scope (s1.heap.push ({ cls := .type "list", data := .seq ([] : List Value).toArray } : Obj)).objs.size X.env.globals (cellsFrom ((s1.heap.push ({ cls := .type "list", data := .seq ([] : List Value).toArray } : Obj)).objs.size + 1) scope.names []) X.env.qual none .none (some X.env) builtinsNs with scope := scope }) _
    { s1 with heap := pushCells ((s1.heap.push ({ cls := .type "list", data := .seq ([] : List Value).toArray } : Obj)).push { cls := .type "dict", data := .dict #[] }) scope.names }
  rw [zC, ec, pc]
  generalize hce : ({ newEnv scope (D + 1) X.env.globals [] X.env.qual none .none (some X.env) builtinsNs with scope := scope } : Env) = ce
  have cL : ce.locals = D + 1 := by rw [← hce]; rfl
  have csc : ce.scope = scope := by rw [← hce]
  have hko : ce.kindOf x = some .local := by
    unfold Env.kindOf
    rw [csc]
    exact lkx
  generalize hh4 : (s1.heap.push ({ cls := .type "list", data := .seq ([] : List Value).toArray } : Obj)).push { cls := .type "dict", data := .dict #[] } = h4
  have k4 : ∀ b o, s1.heap.get? b = some o → h4.get? b = some o := fun b o e => by rw [← hh4]; exact Heap.get?_push_of_some _ (Heap.get?_push_of_some _ e)
  have gD : h4.get? D = some (lstObj #[] 0) := by
    rw [← hh4, ← hD]
    exact Heap.get?_push_of_some _ (Heap.get?_push_size _ rfl)
  have gC : h4.get? (D + 1) = some { cls := .type "dict", data := .dict #[] } := by
    rw [← hh4, ← zC]
    exact Heap.get?_push_size _ rfl
  have nC : h4.Ns (D + 1) (fun _ => none) := ⟨_, #[], _, gC, rfl, fun e he => absurd he (by simp), fun _ => rfl⟩
  have hcalm : X.A.handled = none := I.ok.hd hc
  -- the run's end, its steps
  have Dne : D ≠ cStatics := Nat.ne_of_gt hcs
  have Cne : D + 1 ≠ cStatics := Nat.ne_of_gt (Nat.lt_succ_of_lt hcs)
  have aD : a ≠ D := Nat.ne_of_lt ha2
  have aC : a ≠ D + 1 := Nat.ne_of_lt (Nat.lt_succ_of_lt ha2)
  let F : Nat → Shared → Shared → Prop := fun n s₀ s => n = 0 ∧ ∃ H', Cn X.prog X.w X.stack H1 H' sc [D, D + 1] a go s ∧ (xs.length ≤ sizeLine ∧ ∀ D, H' D = none → sysModules < D → Q (.ref D) (upd H' D (.lst xs))) ∧ ∀ b ∈ [D, D + 1], ∀ o, s₀.heap.get? b = some o → s.heap.get? b = some o
  let R' : GenEnd := fun n s₀ r s => ((r = .ok (.ret .none) ∨ r = .ok .next) ∧ F n s₀ s) ∨ ∃ e, r = .error e ∧ False
  let Y' : Protocol := YItm X.prog X.w X.stack H1 sc [D, D + 1] a go xs fun H' => xs.length ≤ sizeLine ∧ ∀ D, H' D = none → sysModules < D → Q (.ref D) (upd H' D (.lst xs))
  have wf : ∀ b ∈ [D, D + 1], sc.heap.objs.size ≤ b ∧ b ≠ cStatics ∧ b ≠ a := fun b hb => by
    simp only [List.mem_cons, List.not_mem_nil, or_false] at hb
    rcases hb with rfl | rfl
    · exact ⟨hsz, Dne, aD.symm⟩
    · exact ⟨Nat.le_succ_of_le hsz, Cne, aC.symm⟩
  let LI : Nat → Shared → Prop := fun n t => n ≤ xs.length ∧ ∃ (acc : Array Value) (cc : Nat) (m : Str → Option Value) (gs : GenState), t.heap.get? D = some (lstObj acc cc) ∧ Vals (xs.take (xs.length - n)) acc.toList ∧ t.heap.Ns (D + 1) m ∧ t.heap.get? a = some go ∧ t.heap.NoLimit ∧
    t.gens[g]? = some gs ∧ gs.Goes (model X.prog X.w) X.A.in1 R' Y' n (.send .none) (t.setGen g .running)
  have gsz : g < s1.gens.size := (Array.getElem?_eq_some_iff.mp hgs).1
  have start : LI xs.length { s1 with heap := h4 } := by
    refine ⟨Nat.le_refl _, #[], 0, _, _, gD, by rw [Nat.sub_self]; exact .nil, nC, k4 _ _ hgo, hl.keeps k4, hgs, rfl, ?_⟩
    have w0 := wake X.A.in1 [D, D + 1] ({ s1 with heap := h4 }.setGen g .running) hr.in1 (show X.A.in1.frames = some X.stack from I.ok.frames) (fun b hb => ?_) k4 (fun b hb => ?_) hos (allBare_setGen (s := { s1 with heap := h4 }) hb rfl)
    · exact seg_imp (fun n s₀ r s hR => .inl ⟨hR.1, hR.2.1, hR.2.2⟩) (fun n s₀ v s kap kap' hkk hY => by
        obtain ⟨x, H', y1, y2, y3, y4, y5, y6, y7⟩ := hY
        exact ⟨x, H', y1, y2, y3, y4, y5, y6, fun t z => hkk _ _ (y7 t z)⟩) _ w0
    · simp only [List.mem_cons, List.not_mem_nil, or_false] at hb
      rcases hb with rfl | rfl
      · exact Nat.le_refl _
      · exact Nat.le_succ _
    · simp only [List.mem_cons, List.not_mem_nil, or_false] at hb
      rcases hb with rfl | rfl
      · exact ⟨_, gD, fun v z => nomatch z⟩
      · exact ⟨_, gC, fun v z => nomatch z⟩
  have loop : codeAny (model X.prog X.w) X.A (.compLoop (.ListComp (.Name x p1) [⟨.Name x p2, iter, [], 0⟩] scope pos) 0 (.ref a) (.ref D) ce) (fun r s' => ∃ m, s'.heap.Ns (D + 1) m ∧ ∀ h', Heap.SameBut (D + 1) s'.heap h' →
      match r with | .ok _ => EP X pins σ Q (.ref D) { s' with heap := h' } | .error x => wpAny (model X.prog X.w) X.A (passOn "comprehension.variables-let-go" x ce) (EP X pins σ Q) X.xe { s' with heap := h' }) { s1 with heap := h4 } := by
    refine compLoop_any LI ?_ xs.length start
    rintro n t ⟨hnl, acc, cc, m, gs, tD, tV, tN, ta, tl, tg, tgo⟩
    have tsz := (Array.getElem?_eq_some_iff.mp tg).1
    have mD : D ∈ [D, D + 1] := List.mem_cons_self
    have mC : D + 1 ∈ [D, D + 1] := List.mem_cons_of_mem _ List.mem_cons_self
    refine wpAny_gsz (n := g + 1) tsz (next_genG (F := F) (Er := fun _ _ => False) (Y := Y') hcalm tl hr.depth (hgen _ ta) tg tgo (fun v s₁ gs' hbare hY => ?_) (fun s₁ hF h' hk' => ?_) fun e s₁ he => he.elim)
    · intro hsz2
      obtain ⟨y, H', y1, y2, y3, y4, y5, y6, y7⟩ := hY
      cases n with
      | zero => exact (show False from y7 s₁ ⟨rfl, y4.bare, fun _ _ _ e => e, two_there (y6 D mD _ tD) (let ⟨o, es, ep, ho, r⟩ := tN; ⟨o, es, ep, y6 (D + 1) mC _ ho, r⟩)⟩).elim
      | succ n =>
        have e1 : xs.length - (n + 1 - 1 + 1) = xs.length - (n + 1) := by omega
        rw [e1] at y1
        have gD1 : s₁.heap.get? D = some (lstObj acc cc) := y6 D mD _ tD
        have nC1 : s₁.heap.Ns (D + 1) m := by
          obtain ⟨o, es, ep, ho, r⟩ := tN
          exact ⟨o, es, ep, y6 (D + 1) mC _ ho, r⟩
        have al : acc.size = xs.length - (n + 1) := by
          have q1 := tV.length
          rw [List.length_take] at q1
          have q2 : acc.toList.length = acc.size := by simp
          omega
        refine wpAny_pure ?_
        refine wpAny_assign_Name (wpAny_storeName_local hko (m := m) (by rw [cL]; exact nC1) (fun h' hn' sb => ?_) (by rw [csc, hk]; rfl))
        rw [cL] at hn' sb
        refine wpAny_tests_nil ?_
        rw [if_pos rfl]
        refine wpAny_Name (wpAny_loadName_local (m := fun z => if z = x then some v else m z) (v := v) (by rw [csc]; exact hk) hko (by rw [cL]; exact hn') (if_pos rfl) ?_) hd
        have gD2 : h'.get? D = some (lstObj acc cc) := (sb.2 D (Nat.ne_of_lt (Nat.lt_succ_self _))).trans gD1
        refine append_at (hsz := by have := y5.1; omega) gD2 fun h2 sb2 hD2 => ⟨n, Nat.lt_succ_self _, ?_⟩
        have g1 : g < s₁.gens.size := by
          have q := setGen_size s₁ g gs'
          have q2 : g + 1 ≤ (s₁.setGen g gs').gens.size := hsz2
          omega
        have keep : ∀ b o, b ∉ [D, D + 1] → s₁.heap.get? b = some o → h2.get? b = some o := fun b o hb e => by
          have b1 : b ≠ D := fun z => hb (z ▸ mD)
          have b2 : b ≠ D + 1 := fun z => hb (z ▸ mC)
          exact (sb2.2 b b1).trans ((sb.2 b b2).trans e)
        have aw : a ∉ [D, D + 1] := fun hm => (wf a hm).2.2 rfl
        have etk : xs.take (xs.length - n) = xs.take (xs.length - (n + 1)) ++ [y] := by
          rw [show xs.length - n = xs.length - (n + 1) + 1 by omega, List.take_add_one, y1]
          rfl
        refine ⟨Nat.le_of_succ_le hnl, acc.push v, cc + 1, _, gs', hD2, ?_, hn'.sameBut sb2 (Nat.ne_of_gt (Nat.lt_succ_self _)), keep a go aw y4.gen, ?_, setGen_at g1, ?_⟩
        · rw [etk, Array.toList_push]
          exact tV.append (.cons y2 .nil)
        · obtain ⟨mc, hns, hnn⟩ := y4.lim
          exact ⟨mc, hns.at' fun o e => keep _ o (fun hm => (wf _ hm).2.1 rfl) e, hnn⟩
        · exact y7 _ ⟨rfl, allBare_setGen (allBare_setGen y4.bare hbare) rfl, keep, two_there hD2 (hn'.sameBut sb2 (Nat.ne_of_gt (Nat.lt_succ_self _)))⟩
    · intro hsz2
      obtain ⟨hn0, H', c', ⟨hl1, hq'⟩, same⟩ := hF
      subst hn0
      rw [Nat.sub_zero, List.take_length] at tV
      have gD1 : s₁.heap.get? D = some (lstObj acc cc) := same D mD _ tD
      refine ⟨m, ?_, fun h2 sb => ?_⟩
      · obtain ⟨o, es, ep, ho, r⟩ := tN
        exact ⟨o, es, ep, hk' _ _ (same (D + 1) mC _ ho), r⟩
      have gD2 : h2.get? D = some (lstObj acc cc) := (sb.2 D (Nat.ne_of_lt (Nat.lt_succ_self _))).trans (hk' _ _ gD1)
      have c2 := c'.step (t := { s₁.setGen g .finished with heap := h2 }) (ch := [D + 1]) rfl (allBare_setGen c'.bare rfl) (fun b o hb e => (sb.2 b (fun z => hb (by rw [z]; exact List.mem_singleton.mpr rfl))).trans (hk' _ _ e)) (fun b hb => by
        rw [List.mem_singleton.mp hb]
        exact ⟨(wf _ mC).1, c'.off _ mC, (wf _ mC).2.1, (wf _ mC).2.2⟩)
      exact ⟨.ref D, _, Inv.drained Ic hsz hl1 gD2 tV ExOk.nil c2.os c2.bare c2.un c2.hok (c2.off D mD), rfl, hq' D (c2.off D mD) (Nat.lt_of_lt_of_le Ic.big hsz)⟩
  exact codeAny_compStart_list loop (wpAny_pyIter_gen (hgen _ (k4 _ _ hgo)) loop)
end
end BJ

/-! «yield from» a list; o.m() of a generator method -/
namespace BJ
open PySem PySem.Spec PyProof.Rows L2 Evl GenW
open PySem.W (Frag)
section
variable {prog : Program} {w : World} {A : Around} {E : Value → Shared → Prop} {s : Shared}
theorem lit_item {it l : Addr} {i : Nat} {items : Array Value} {x : Value} {Q : Option Value → Shared → Prop} (hit : s.heap.IsListIter it l i) (ht : s.heap.IsList l items) (hx : items[i]? = some x)
    (hQ : ∀ h', h'.IsListIter it l (i + 1) → Heap.SameBut it s.heap h' → Q (some x) { s with heap := h' }) : wpAny (model prog w) A (callSpecial? (.ref it) "__next__") Q E s := by
  obtain ⟨o, ho, hc, hd⟩ := id hit
  obtain ⟨ol, hol, _, nl, hdl⟩ := ht
  refine wpAny_callSpecial?_slot (name := Str.ofString "__next__") hit.typeIs slot_listiter_next (wpAny_call_entry slot_listiter_next hit.typeIs entry_listiter_next ?_ (args_listiter_next _)); show wpAny _ _ (field (.ref it) 0 >>= _) _ _ s
  refine wpAny_bind (wpAny_field ho hd (x := .ref l) rfl ?_); show wpAny _ _ (if (Value.ref l == Value.none) = true then _ else _) _ _ s
  rw [if_neg (show ¬ ((Value.ref l == Value.none) = true) from Bool.false_ne_true)]; show wpAny _ _ (field (.ref it) 1 >>= _) _ _ s
  refine wpAny_bind (wpAny_field ho hd (x := .int i 0) rfl ?_); show wpAny _ _ (seqItems? (.ref l) >>= _) _ _ s
  refine wpAny_bind (wpAny_seqItems hol hdl ?_); simp only [Int.toNat_natCast, hx]
  refine wpAny_bind (wpAny_setField ho hd (by simp) (wpAny_pure ⟨x, rfl, hQ _ ⟨_, Heap.get?_update_self _ ho (Obj.isFreed_of_fields (Obj.data_mapFields hd _)), (Obj.cls_mapFields ..).trans hc, by rw [Obj.data_mapFields hd]; simp [rawInt]⟩ (Heap.SameBut.update ..)⟩))
theorem lit_end {it l : Addr} {i : Nat} {items : Array Value} {Q : Option Value → Shared → Prop} (hh : A.handled = none) (hit : s.heap.IsListIter it l i) (ht : s.heap.IsList l items) (hx : items[i]? = none)
    (hE : ∀ e h', StopX e h' → Heap.ExtBut it s.heap h' → E e { s with heap := h' }) : wpAny (model prog w) A (callSpecial? (.ref it) "__next__") Q E s := by
  obtain ⟨o, ho, hc, hd⟩ := id hit
  obtain ⟨ol, hol, _, nl, hdl⟩ := ht
  refine wpAny_callSpecial?_slot (name := Str.ofString "__next__") hit.typeIs slot_listiter_next (wpAny_call_entry slot_listiter_next hit.typeIs entry_listiter_next ?_ (args_listiter_next _)); show wpAny _ _ (field (.ref it) 0 >>= _) _ _ s
  refine wpAny_bind (wpAny_field ho hd (x := .ref l) rfl ?_); show wpAny _ _ (if (Value.ref l == Value.none) = true then _ else _) _ _ s
  rw [if_neg (show ¬ ((Value.ref l == Value.none) = true) from Bool.false_ne_true)]; show wpAny _ _ (field (.ref it) 1 >>= _) _ _ s
  refine wpAny_bind (wpAny_field ho hd (x := .int i 0) rfl ?_); show wpAny _ _ (seqItems? (.ref l) >>= _) _ _ s
  refine wpAny_bind (wpAny_seqItems hol hdl ?_); simp only [Int.toNat_natCast, hx]
  refine wpAny_bind (wpAny_rule (wpAny_bind (wpAny_setField ho hd (by simp) ?_))); show wpAny _ _ (newExc (.type "StopIteration") [] >>= _) _ _ _
  refine wpAny_bind ?_; simp only [newExc, newTuple]; refine wpAny_bind (wpAny_newObj_type ?_ (by size_fits))
  refine wpAny_bind (m := firstArgMember _ _) (wpAny_of_eq (a := Value.none) (by first | rfl | (simp only [firstArgMember]; rfl)) ?_); refine wpAny_newObj_type ?_ (by size_fits)
  simp only [raiseNew]; refine wpAny_bind (wpAny_handled ?_); first | rw [show A.in1.handled = none from hh] | rw [hh]
  refine wpAny_bind (wpAny_pure (wpAny_throw ?_)); refine hE _ _ ⟨_, _, _, rfl, Heap.get?_push_size _ rfl, rfl, rfl, ?_⟩ (((Heap.SameBut.update ..).extBut.push _).push _)
  first | rfl | (rw [Array.getElem?_append_left (by decide)]; rfl) | kernel_rfl
end
theorem close_lst : typeLookup (.type "list_iterator") "close" = pure none := by rw [typeLookup_type, builtinLookup_eq_fast]; kernel_rfl
section
variable {X : Cx} {e o : Expr} {te ta : TE} {m : Str} {apos pos : Pos} {k : Nat} {pl : Sem Bool}
def tYfLst (te : TE) : TYf := fun σ H Q => te σ H fun x H1 => ∃ a xs, x = .ref a ∧ H1 a = some (.lst xs) ∧ Q xs H1
theorem yf_lst (he : PE X e te) : YfE X e (tYfLst te) := by
  refine ⟨fun pins s σ H Q I h => ?_⟩
  refine thn (he.run pins s σ H _ I h) fun v s1 ⟨x, H1, I1, r1, a, xs, ex, ha, hq⟩ => ?_
  subst ex
  obtain rfl : v = Value.ref a := r1
  obtain ⟨hlen, its, nn, rits, hea⟩ := I1.hok a _ ha
  have ht : s1.heap.IsList a its.toArray := ⟨_, hea, rfl, nn, rfl⟩
  refine ⟨"list", ht.typeIs, by decide, wpAny_pyIter_list ht ?_⟩
  have ksz : ∀ b o, s1.heap.get? b = some o → b ≠ s1.heap.objs.size := fun b o e => Nat.ne_of_lt (Heap.lt_size e)
  have kp : ∀ b o, s1.heap.get? b = some o → (s1.heap.push { cls := .type "list_iterator", data := .fields #[.ref a, .int 0 0] }).get? b = some o := fun b o e => Heap.get?_push_of_some _ e
  refine ⟨s1.heap.objs.size, H1, xs, fun j h => h.IsListIter s1.heap.objs.size a j ∧ h.get? a = some { cls := .type "list", data := .seq its.toArray nn }, rfl, I1.kept (t' := s1.toks) kp, .inr I1.sz, Nat.ne_of_gt I1.lt, fun y c hy => ?_, I1.hok.fresh (Nat.le_refl _), fun p hp => ?_,
    ⟨⟨_, Heap.get?_push_size _ rfl, rfl, rfl⟩, kp _ _ hea⟩, ⟨⟨"list_iterator", fun j h q => ?_, close_lst, by decide⟩, fun j h h' q hk => ?_, fun A' j x s2 Q' E' hA hx q hQ => ?_, fun A' s2 Q' E' hA q hE => ?_⟩, hq⟩
  · obtain ⟨v, o, ho, _⟩ := I1.cell y c hy
    exact ksz c o ho
  · exact ksz p.1 _ (I1.pin p hp).1
  · obtain ⟨⟨o, ho, hc, _⟩, _⟩ := q
    exact ⟨o, ho, hc⟩
  · obtain ⟨⟨o, ho, r⟩, q2⟩ := q
    exact ⟨⟨o, hk _ o (.inl rfl) ho, r⟩, hk _ _ (.inr (by rw [ha]; exact fun z => nomatch z)) q2⟩
  · obtain ⟨q1, q2⟩ := q
    obtain ⟨u, hu, ru⟩ := rits.get hx
    have hne : a ≠ s1.heap.objs.size := Nat.ne_of_lt (Heap.lt_size hea)
    exact lit_item q1 ⟨_, q2, rfl, nn, rfl⟩ (x := u) (by simpa using hu) fun h' q1' hs => hQ u h' s2.toks ru ⟨q1', (hs.2 a hne).trans q2⟩ fun b o hb eb => hs.extBut b o hb eb
  · obtain ⟨q1, q2⟩ := q
    have hnone : its.toArray[xs.length]? = none := by
      have e := rits.length
      have e2 : its[xs.length]? = none := List.getElem?_eq_none_iff.mpr (by omega)
      simpa using e2
    exact lit_end hA q1 ⟨_, q2, rfl, nn, rfl⟩ hnone fun e h' hS hk => hE e h' s2.toks hS fun b o hb eb => hk b o hb eb
/-- o.m(), m a generator method; the receiver's class is told by the reading -/
def tYMe (X : Cx) (m : Str) (k : Nat) (ta : TE) : TYx := fun σ H cont => ta σ H fun x H1 => ∃ (a C dx g : Addr) (fs : List (Str × V)) (sp : SpY) (xs : List V), x = .ref a ∧ H1 a = some (.ins C dx fs) ∧ fs.lookup m = none ∧ Cls X.K C ∧ Meth X.K C m g ∧
  YFn X.prog X.w X.K X.mg X.base k g sp ∧ sp [x] H1 xs (cont xs)
theorem py_me0 (he : PE X o ta) (hr : Room k X.A)
    (ht : eval (.Call (.Attribute o m apos) [] [] pos) X.env = (do
      let ov ← eval o X.env
      standAt apos.atName
      let (f, first) ← holding [ov] (getMethod ov m pl)
      callWith pos f first (backTo pos (starEach [] X.env)) (backToKw pos (keywordEach [] X.env))) := by rfl) : PY X k (.Call (.Attribute o m apos) [] [] pos) (tYMe X m k ta) := by
  refine ⟨fun pins s σ H cont I h => ?_⟩
  refine PySem.W.methodCall_KW (pl := pl) (thn (he.run pins s σ H _ I h) fun u s1 ⟨x, H1, I1, rx, a, C, dx, g, fs, sp, xs, ex, ea, l, c, hm, F, q⟩ => ?_) ht
  subst ex
  obtain rfl : u = Value.ref a := rx
  refine getmeth_ok I1 ea c hm l (PySem.W.callWith_K0 (first := [.ref a]) I1.kIn hm.kp (wpAny_call (codeAny_mono (F X.A X.stack s1 H1 [.ref a] [.ref a] xs (cont xs) hr I1.env0 (.cons rfl .nil) q) fun r s' hq => ?_)))
  match r, hq with
  | .ok (.ret u), hq => exact ⟨s1, H1, xs, I1, hq⟩
end
end BJ

/-! defs with one default, with a star, generator defs of one yield from, as they stand in the text -/
namespace BJ
open PySem PySem.Spec PyProof.Rows L2 Evl GenW StX
open PySem.W (Frag)
/-- def m(self, q=dv) -/
structure DefD (K : Frag) (x qual : Str) (st : Stmt) (f : Addr) (p q : Str) (dv : V) : Prop where
  ex : ∃ (oc : Value) (od : Option Addr) (T : Addr) (kV doc pm : Value) (an : Option Addr) (cdv ct : Value) (osl : Array (Option Value)) (o : Obj) (d : Value) (n : Nat),
    K.lookup f = some ⟨oc, od, .func (PySem.W.fnOf x qual (defArgs st) (defBody st) (defScope st) (.ref T) kV doc pm an cdv ct), osl⟩ ∧ PySem.W.codeIn K cdv qual = true ∧ K.lookup T = some o ∧ o.data = .seq #[d] n ∧ RelV dv d ∧
    (∀ u v z : Value, ∃ k, bindArgs (PySem.W.fnOf x qual (defArgs st) (defBody st) (defScope st) (.ref T) kV doc pm an cdv ct) ⟨[u, v], []⟩ = seqItems? (.ref T) >>= k ∧ k (some #[z]) = pure [(p, u), (q, v)]) ∧
    (∀ u v z : Value, ∃ k, bindArgs (PySem.W.fnOf x qual (defArgs st) (defBody st) (defScope st) (.ref T) kV doc pm an cdv ct) ⟨[u], [(q, v)]⟩ = seqItems? (.ref T) >>= k ∧ k (some #[z]) = pure [(p, u), (q, v)]) ∧
    (∀ u v : Value, ∃ k, bindArgs (PySem.W.fnOf x qual (defArgs st) (defBody st) (defScope st) (.ref T) kV doc pm an cdv ct) ⟨[u], []⟩ = seqItems? (.ref T) >>= k ∧ k (some #[v]) = pure [(p, u), (q, v)])
/-- def m(self, .., *pv) -/
structure DefS (K : Frag) (x qual : Str) (st : Stmt) (f : Addr) (ps : List Str) (pv : Str) : Prop where
  ex : ∃ (oc : Value) (od : Option Addr) (dV kV doc pm : Value) (an : Option Addr) (cdv ct : Value) (osl : Array (Option Value)),
    K.lookup f = some ⟨oc, od, .func (PySem.W.fnOf x qual (defArgs st) (defBody st) (defScope st) dV kV doc pm an cdv ct), osl⟩ ∧ PySem.W.codeIn K cdv qual = true ∧
    (∀ us rest : List Value, us.length = ps.length → bindArgs (PySem.W.fnOf x qual (defArgs st) (defBody st) (defScope st) dV kV doc pm an cdv ct) ⟨us ++ rest, []⟩ = (newTuple rest >>= fun t => pure (ps.zip us ++ [(pv, t)])))
section
variable {P : Program} {w : World} {K : Frag} {mg : Str → Option Value} {base : Heap} {x qual : Str} {st : Stmt} {f : Addr} {p q : Str} {dv : V} {N : List Str} {k : Nat} {sp : Sp}
/-- the three ways it is called -/
theorem DefD.ok (D : DefD K x qual st f p q dv) (S : FnScope N [p, q] (defScope st)) (len : ∀ vs H Q E, sp vs H Q E → vs.length = [p, q].length)
    (hbody : ∀ (cdv : Value) (A : Around) (outer : List Env) (s : Shared) (H : Hp) (vs : List V) (Q : VK) (E : XK),
      Room k (A.deeper (envOfC qual (defScope st) s.heap.objs.size f cdv)) → sp vs H Q E →
      ∃ t, PSs (cxOf (L2.CX P w) P w K mg base N qual (defScope st) f cdv A outer s H E) (defBody st) t ∧ t { nx := fun _ H' => Q .non H', rt := Q } (start N vs) H) :
    (CallX P w K mg base (k + 1) (.ref f) [] fun vs zs H Q E => vs.length = 2 ∧ zs.length = 0 ∧ sp vs H Q E) ∧
    (CallX P w K mg base (k + 1) (.ref f) [q] fun vs zs H Q E => vs.length = 1 ∧ zs.length = 1 ∧ sp (vs ++ zs) H Q E) ∧
    (CallX P w K mg base (k + 1) (.ref f) [] fun vs zs H Q E => vs.length = 1 ∧ zs.length = 0 ∧ sp (vs ++ [dv]) H Q E) := by
  obtain ⟨oc, od, T, kV, doc, pm, an, cdv, ct, osl, o, d, n, lk, hcd, lT, oT, rd, b2, b1k, b1⟩ := D.ex
  have F : FnOk P w K mg base (L2.CX P w) (k + 1) f _ [p, q] sp := fn_of lk hcd S len fun A outer s H vs Q E hr hsp => hbody cdv A outer s H vs Q E hr hsp
  refine ⟨(callX_of F (n := 2) (g := fun us ws => us) (gV := fun vs zs => vs) ⟨fun s us ws X hu hw => ?_, fun r _ => r⟩), (callX_of F (n := 1) (g := fun us ws => us ++ ws) (gV := fun vs zs => vs ++ zs) ⟨fun s us ws X hu hw => ?_, fun r r2 => r.append r2⟩),
    (callX_of F (n := 1) (g := fun us ws => us ++ [d]) (gV := fun vs zs => vs ++ [dv]) ⟨fun s us ws X hu hw => ?_, fun r _ => r.append (.cons rd .nil)⟩)⟩
  · match us, ws, hu, hw with
    | [u, v], [], _, _ =>
      obtain ⟨k, e1, e2⟩ := b2 u v d
      refine BindsTo.of_looks fun M => ?_
      show PySem.W.Looks M s.heap (bindArgs _ ⟨[u, v], []⟩) _
      rw [e1]
      exact looks_items X lT oT (.of_pure e2)
  · match us, ws, hu, hw with
    | [u], [v], _, _ =>
      obtain ⟨k, e1, e2⟩ := b1k u v d
      refine BindsTo.of_looks fun M => ?_
      show PySem.W.Looks M s.heap (bindArgs _ ⟨[u], [(q, v)]⟩) _
      rw [e1]
      exact looks_items X lT oT (.of_pure e2)
  · match us, ws, hu, hw with
    | [u], [], _, _ =>
      obtain ⟨k, e1, e2⟩ := b1 u d
      refine BindsTo.of_looks fun M => ?_
      show PySem.W.Looks M s.heap (bindArgs _ ⟨[u], []⟩) _
      rw [e1]
      exact looks_items X lT oT (.of_pure e2)
theorem DefS.ok {ps : List Str} {pv : Str} (D : DefS K x qual st f ps pv) (S : FnScope N (ps ++ [pv]) (defScope st))
    (hbody : ∀ (cdv : Value) (A : Around) (outer : List Env) (s : Shared) (H : Hp) (vs : List V) (Q : VK) (E : XK),
      Room k (A.deeper (envOfC qual (defScope st) s.heap.objs.size f cdv)) → sp vs H Q E →
      ∃ t, PSs (cxOf (L2.CX P w) P w K mg base N qual (defScope st) f cdv A outer s H E) (defBody st) t ∧ t { nx := fun _ H' => Q .non H', rt := Q } (start N vs) H) :
    BJ.CallO P w K mg base (k + 1) (.ref f) fun vs H Q E => ∃ ws rest, vs = ws ++ rest ∧ ws.length = ps.length ∧ rest.length ≤ sizeLine ∧ ∀ p, H p = Option.none → sp (ws ++ [V.ref p]) (upd H p (.tup rest)) Q E := by
  obtain ⟨oc, od, dV, kV, doc, pm, an, cdv, ct, osl, lk, hcd, hb⟩ := D.ex
  exact fn_star lk hcd S cxUp hb fun A outer s H vs Q E hr hsp => hbody cdv A outer s H vs Q E hr hsp
/-- a generator def whose body is one yield from -/
theorem DefAt.okY {e : Expr} {yp pos : Pos} {ps : List Str} {sp : SpY} (D : DefAt K x qual st f ps) (S : GScope N ps (defScope st)) (hi : ∀ n c, interactive (envOfC qual (defScope st) n f c) = false) (hbo : defBody st = [.Expr (.YieldFrom e yp) pos]) (len : ∀ vs H xs Q, sp vs H xs Q → vs.length = ps.length)
    (hbody : ∀ (cdv : Value) (A : Around) (outer : List Env) (s : Shared) (H : Hp) (vs xs : List V) (Q : Hp → Prop) (pn : List (Addr × Obj)), Room k (A.deeper (envOfC qual (defScope st) s.heap.objs.size f cdv)) → sp vs H xs Q →
      ∃ t, YfE (gcxOf P w K mg base N qual (defScope st) f cdv A outer s H (fun _ _ _ => False) pn).nox e t ∧ t (L2.start N vs) H fun ys H' => ys = xs ∧ Q H') : YFn P w K mg base (k + 1) f sp := by
  obtain ⟨fd, F, hb⟩ := D.fn
  obtain ⟨oc, od, kV, doc, pm, an, cdv, ct, osl, rfl, lk, hcd⟩ := F.ex
  exact yfn_of lk hbo hcd S (fun n => hi n cdv) hb len fun A outer s H vs xs Q pn hr hsp => hbody cdv A outer s H vs xs Q pn hr hsp
end
end BJ

/-! == of two instances of one class without an __eq__ of its own -/
namespace BJ
open PySem PySem.Spec PyProof.Rows PySem.SeqAt
open PySem.W (Frag)
section
variable {prog : Program} {w : World} {A : Around} {E : Value → Shared → Prop} {s : Shared} {K : PySem.W.Frag} {x y C : Addr} {ox oy : Obj} {od oe : Option Obj}
theorem rc_insSame (hu : A.units < cLine) (X : K.In s.heap) (I : PySem.W.InstAt s.heap x ox C od) (hm : PySem.W.mroIn K C (.type "object") = some true) (hs : PySem.W.findIn K (.ref C) "__eq__" = some (some (.builtin "object.__eq__"))) :
    RcAt A s (.ref x) (.ref x) true := fun prog w E Q h => by
  have one : wpAny (model prog w) A (tryCompare (.ref x) "__eq__" (.ref x)) (fun r s' => r = some (.bool true) ∧ s' = s) E s := by
    unfold tryCompare
    exact wpAny_bind (HN.ifBound_objEq X I hs (wpAny_call (codeAny_call_builtin F.cmp_object.eq.plain F.cmpEntry_eq (PySem.W.check_slot F.cmpKind_eq F.cmpSplit_eq (I.type.andThen (PySem.W.looks_mroIn X hm)) (F.cmpArgs_eq _ _) (objEq_entry_same (wpAny_pure ⟨rfl, rfl⟩))))))
  simp only [richCompare, cmpInfo_Eq, oneThing_ref]
  refine wpAny_holding (wpAny_bind (wpAny_cRoomFor hu ?_))
  refine wpAny_bind (I.type.here ?_)
  refine wpAny_bind (I.type.here ?_)
  split
  · rename_i q
    simp at q
  · refine wpAny_bind (wpAny_pure ?_)
    simp only [Bool.false_eq_true, if_false, Bool.not_false, if_true]
    refine wpAny_bind (m := tryCompare (.ref x) _ (.ref x)) (wpAny_mono one (fun r s1 z => ?_) fun _ _ e => e)
    obtain ⟨z1, z2⟩ := z
    subst z1
    subst z2
    exact wpAny_pure h
theorem rc_insOther (hu : A.units < cLine) (X : K.In s.heap) (I : PySem.W.InstAt s.heap x ox C od) (J : PySem.W.InstAt s.heap y oy C oe) (hxy : x ≠ y) (hm : PySem.W.mroIn K C (.type "object") = some true) (hs : PySem.W.findIn K (.ref C) "__eq__" = some (some (.builtin "object.__eq__"))) :
    RcAt A s (.ref x) (.ref y) false := fun prog w E Q h => by
  have nt : ox.cls ≠ .type "tuple" := by rw [I.cls]; exact fun z => nomatch z
  have nt2 : oy.cls ≠ .type "tuple" := by rw [J.cls]; exact fun z => nomatch z
  have one : wpAny (model prog w) A (tryCompare (.ref x) "__eq__" (.ref y)) (fun r s' => r = none ∧ s' = s) E s := by
    unfold tryCompare
    exact wpAny_bind (HN.ifBound_objEq X I hs (wpAny_call (codeAny_call_builtin F.cmp_object.eq.plain F.cmpEntry_eq (PySem.W.check_slot F.cmpKind_eq F.cmpSplit_eq (I.type.andThen (PySem.W.looks_mroIn X hm)) (F.cmpArgs_eq _ _) (objEq_entry_other hxy I.at_ J.at_ nt (wpAny_pure ⟨rfl, rfl⟩))))))
  have two : wpAny (model prog w) A (tryCompare (.ref y) "__eq__" (.ref x)) (fun r s' => r = none ∧ s' = s) E s := by
    unfold tryCompare
    exact wpAny_bind (HN.ifBound_objEq X J hs (wpAny_call (codeAny_call_builtin F.cmp_object.eq.plain F.cmpEntry_eq (PySem.W.check_slot F.cmpKind_eq F.cmpSplit_eq (J.type.andThen (PySem.W.looks_mroIn X hm)) (F.cmpArgs_eq _ _) (objEq_entry_other hxy.symm J.at_ I.at_ nt2 (wpAny_pure ⟨rfl, rfl⟩))))))
  simp only [richCompare, cmpInfo_Eq, oneThing_ref]
  refine wpAny_holding (wpAny_bind (wpAny_cRoomFor hu ?_))
  refine wpAny_bind (I.type.here ?_)
  refine wpAny_bind (J.type.here ?_)
  split
  · rename_i q
    simp at q
  · refine wpAny_bind (wpAny_pure ?_)
    simp only [Bool.false_eq_true, if_false, Bool.not_false, if_true]
    refine wpAny_bind (m := tryCompare (.ref x) _ (.ref y)) (wpAny_mono one (fun r s1 z => ?_) fun _ _ e => e)
    obtain ⟨z1, z2⟩ := z
    subst z1
    subst z2
    refine wpAny_bind (m := tryCompare (.ref y) _ (.ref x)) (wpAny_mono two (fun r s2 z => ?_) fun _ _ e => e)
    obtain ⟨z1, z2⟩ := z
    subst z1
    subst z2
    exact wpAny_bind (wpAny_rule (wpAny_bind (wpAny_isSame_ref_other hxy I.at_ J.at_ nt (wpAny_pure h))))
end
/-- what the text says of a class whose instances are equal only to themselves -/
structure IdEq (K : Frag) (C : Addr) : Prop where
  m : PySem.W.mroIn K C (.type "object") = some true
  e : PySem.W.findIn K (.ref C) "__eq__" = some (some (.builtin "object.__eq__"))
open L2 in
def rEqI (K : Frag) : R2 := fun x y H Q => ∃ a b C dx dy fs gs, x = .ref a ∧ y = .ref b ∧ H a = some (.ins C dx fs) ∧ H b = some (.ins C dy gs) ∧ IdEq K C ∧ Q (.bl (decide (a = b))) H
open L2 in
theorem op_eqI {X : Cx} (hu : X.A.units < cLine) : OpR X (compareOp .Eq) (rEqI X.K) := by
  rintro pins s σ H x y v u Q I rx ry ⟨a, b, C, dx, dy, fs, gs, rfl, rfl, ha, hb, ie, q⟩
  cases rx
  cases ry
  obtain ⟨mA, O, _⟩ := ins_get I.hok ha
  obtain ⟨od, J, _⟩ := O.look
  obtain ⟨mB, O2, _⟩ := ins_get I.hok hb
  obtain ⟨oe, J2, _⟩ := O2.look
  by_cases e : a = b
  · subst e
    refine rc_insSame hu I.kIn J ie.m ie.e _ _ _ _ ⟨.bl _, H, I, rfl, ?_⟩
    rw [decide_eq_true rfl] at q
    exact q
  · refine rc_insOther hu I.kIn J J2 e ie.m ie.e _ _ _ _ ⟨.bl _, H, I, rfl, ?_⟩
    rw [decide_eq_false e] at q
    exact q
end BJ

/-! sorted of ints, of texts, as functions; list(d) -/
namespace BJ
open PySem PySem.Spec PyProof.Rows L2 Evl
open PySem.W (Frag)
def srtI (ns : List Int) : List Int := ns.mergeSort (fun x y => decide (x ≤ y))
theorem uniq_int : ∀ {l m : List Int}, l.Perm m → l.Pairwise (· ≤ ·) → m.Pairwise (· ≤ ·) → l = m := fun h h1 h2 => List.Perm.eq_of_pairwise (le := (· ≤ ·)) (fun a b _ _ q1 q2 => Int.le_antisymm q1 q2) h1 h2 h
theorem srtI_is {ns ns' : List Int} (h : ns'.Perm ns) (hs : ns'.Pairwise (· ≤ ·)) : ns' = srtI ns := by
  have h2 : (srtI ns).Pairwise (· ≤ ·) := (List.pairwise_mergeSort (le := fun x y => decide (x ≤ y)) (fun a b c q1 q2 => by simp only [decide_eq_true_eq] at *; omega) (fun a b => by simp only [Bool.or_eq_true, decide_eq_true_eq]; omega) ns).imp (fun q => by simpa using q)
  exact uniq_int (h.trans (List.mergeSort_perm ns _).symm) hs h2
def leS (x y : Str) : Bool := decide (x.cps.toList ≤ y.cps.toList)
def srtS (xs : List Str) : List Str := xs.mergeSort leS
theorem rising_le {x y : Str} (h : (!PySem.Spec.ltCps y.cps.toList x.cps.toList) = true) : leS x y = true := by
  rw [ltCps_eq] at h
  simp only [leS, decide_eq_true_eq]
  simpa using h
theorem risingS_pw : ∀ {l : List Str} {x : Str}, risingS x l = true → (x :: l).Pairwise (fun x y => leS x y = true)
  | [], x, _ => List.pairwise_singleton _ _
  | y :: l, x, h => by
    simp only [risingS, Bool.and_eq_true] at h
    have h1 := rising_le h.1
    have ih := risingS_pw h.2
    refine List.pairwise_cons.mpr ⟨fun z hz => ?_, ih⟩
    rcases List.mem_cons.mp hz with e | hz
    · rw [e]
      exact h1
    · have h2 := (List.pairwise_cons.mp ih).1 z hz
      simp only [leS, decide_eq_true_eq] at *
      exact List.le_trans h1 h2
theorem sortedS_pw : ∀ {l : List Str}, sortedS l = true → l.Pairwise (fun x y => leS x y = true)
  | [], _ => .nil
  | x :: l, h => risingS_pw h
theorem srtS_is {xs ys : List Str} (h : ys.Perm xs) (hs : sortedS ys = true) : ys = srtS xs := by
  have h2 : (srtS xs).Pairwise (fun x y => leS x y = true) := List.pairwise_mergeSort (fun a b c q1 q2 => by simp only [leS, decide_eq_true_eq] at *; exact List.le_trans q1 q2) (fun a b => by simp only [leS, Bool.or_eq_true, decide_eq_true_eq]; exact List.le_total _ _) xs
  exact List.Perm.eq_of_pairwise (le := fun x y => leS x y = true) (fun a b _ _ q1 q2 => by
    simp only [leS, decide_eq_true_eq] at *
    exact str_ext (List.le_antisymm q1 q2)) (sortedS_pw hs) h2 (h.trans (List.mergeSort_perm xs _).symm)
/-- a ** b, a of any size -/
def CPowB (i j : Int) : Prop := 0 ≤ j ∧ Builtin.Int.intBits i * j ≤ 1000000
theorem op_powB {X : Cx} : OpR X (binaryOp .Pow) (rI CPowB fun i j => .int (i ^ j.toNat)) := opI fun _ _ _ _ _ _ _ hc q => pow_int hc.1 (by have := hc.2; omega) q
section
variable {K : Frag} {σ : L2.St} {H : Hp} {te : TE}
theorem el_sortI {ns : List Int} (h : EvL te σ H (ns.map V.int)) : EvL (tCB (rSortedI K) (tCons te tNil)) σ H ((srtI ns).map V.int) := fun H1 e Q q => h H1 e _ fun p H2 hp e2 hx => ⟨p, ns, rfl, sq_of hx, fun ns' q' hperm hs hq' => by
  rw [srtI_is hperm hs]
  exact q q' _ (fresh_back e2 hq') (e2.trans (Ex.new hq')) upd_same⟩
theorem el_sortS {xs : List Str} (h : EvL te σ H (xs.map V.str)) (hl : xs.length < 64) : EvL (tCB (rSortedS K) (tCons te tNil)) σ H ((srtS xs).map V.str) := fun H1 e Q q => h H1 e _ fun p H2 hp e2 hx => ⟨p, xs, rfl, sq_of hx, hl, fun ys q' hperm hs hq' => by
  rw [srtS_is hperm hs]
  exact q q' _ (fresh_back e2 hq') (e2.trans (Ex.new hq')) upd_same⟩
theorem el_keys {p : Addr} {kvs : List (Key × V)} (h : Ev te σ H (.ref p)) (hp : H p = some (.dK kvs)) : EvL (tCB rListD (tCons te tNil)) σ H (kvs.map fun kv => kV kv.1) := fun H1 e Q q =>
  h H1 e _ fun H2 e2 => ⟨p, kvs, rfl, (e.trans e2) _ _ hp, fun l hl => q l _ (fresh_back e2 hl) (e2.trans (Ex.new hl)) upd_same⟩
end
end BJ

/-! tuples by what is in them (slices and sums may be old objects); list(x) that tells its place; the part of a heap that stands -/
namespace BJ
open PySem PySem.Spec PyProof.Rows L2 Evl
open PySem.W (Frag)
def rListN (K : Frag) : List V → Hp → VK → Prop := fun xs H Q => ∃ p ys, xs = [.ref p] ∧ (SqL K H p ys ∨ SqT K H p ys) ∧ ∀ l, H l = none → sysModules < l → Q (.ref l) (upd H l (.lst ys))
theorem call_list_ofN {X : Cx} : CallR X (.type "list") (rListN X.K) := by
  intro pins s σ H xs us Q I r h
  obtain ⟨p, ys, rfl, hq, q⟩ := h
  obtain ⟨u, rfl, rx⟩ := vals1 r
  cases rx
  have fin : ∀ (its : List Value), Vals ys its → ys.length ≤ sizeLine → ∀ (h' : Heap) (c' : Nat), (∀ b o', s.heap.get? b = some o' → h'.get? b = some o') →
      h'.get? s.heap.objs.size = some { cls := .type "list", dict := none, data := .seq its.toArray c', slots := #[] } → EP X pins σ Q (.ref s.heap.objs.size) { s with heap := h' } := fun its r' hz h' c' kp e =>
    ⟨.ref s.heap.objs.size, _, I.laid (t' := s.toks) kp (Nat.le_refl _) (show ObjOk X.prog X.w _ h' _ (.lst ys) from ⟨hz, its, c', r', e⟩), rfl, q _ (I.hok.fresh (Nat.le_refl _)) I.big⟩
  rcases hq with hq | hq
  · obtain ⟨its, r', pl, hz⟩ := I.list hq
    have hlen := r'.length
    obtain ⟨o, ho, hc, n, hd⟩ := pl.isList
    exact call_list_seq p (.inl rfl) ho hc hd (fun h' c' kp e => fin its r' hz h' c' kp e) (by simp only [List.size_toArray] <;> omega)
  · obtain ⟨its, r', pl, hz⟩ := I.tuple hq
    have hlen := r'.length
    obtain ⟨o, ho, hc, n, hd⟩ := pl
    exact call_list_seq p (.inr rfl) ho hc hd (fun h' c' kp e => fin its r' hz h' c' kp e) (by simp only [List.size_toArray] <;> omega)
section
variable {K : Frag} {σ : L2.St} {H : Hp} {te t1 t2 : TE} {xs ys : List V}
/-- a tuple of xs, new or old -/
def EvS (K : Frag) (te : TE) (σ : L2.St) (H : Hp) (xs : List V) : Prop := ∀ H1, Ex H H1 → ∀ Q : VK, (∀ p H2, Ex H1 H2 → SqT K H2 p xs → Q (.ref p) H2) → te σ H1 Q
theorem es_var {i : Nat} {p : Addr} (h : σ[i]? = some (some (.ref p))) (hs : SqT K H p xs) : EvS K (tVar i) σ H xs := fun H1 e Q q => ⟨_, h, q p H1 (Ex.refl _) (ex_t e hs)⟩
theorem es_U (h : EvU te σ H xs) : EvS K te σ H xs := fun H1 e Q q => h H1 e _ fun p H2 _ e2 hp => q p H2 e2 (st_of hp)
theorem EvS.mono {H' : Hp} (h : EvS K te σ H xs) (e : Ex H H') : EvS K te σ H' xs := fun H1 e1 Q q => h H1 (e.trans e1) Q q
theorem cutV_all {lo hi : Option Int} (h : HT.sIx xs.length 0 lo = 0 ∧ HT.sIx xs.length xs.length hi = xs.length) : cutV xs lo hi = xs := by
  unfold cutV
  rw [h.1, h.2, List.drop_zero, Nat.sub_zero, List.take_length]
theorem es_sl {tl th : TO} {lo hi : Option Int} (h : EvS K te σ H xs) (h1 : EvO tl σ H lo) (h2 : EvO th σ H hi) : EvS K (tSl (rSlA K) te tl th) σ H (cutV xs lo hi) := fun H1 e Q q =>
  h H1 e _ fun p H2 e2 hp => h1 H2 (e.trans e2) _ fun H3 e3 => h2 H3 ((e.trans e2).trans e3) _ fun H4 e4 => ⟨p, xs, rfl, ex_t (e3.trans e4) hp,
    fun hw => by
      refine q p H4 ((e2.trans e3).trans e4) ?_
      rw [cutV_all hw]
      exact ex_t (e3.trans e4) hp,
    fun _ z hz => q z _ (((e2.trans e3).trans e4).trans (Ex.new hz)) (st_of upd_same)⟩
theorem es_cat (h1 : EvS K t1 σ H xs) (h2 : EvS K t2 σ H ys) (hl : xs.length + ys.length ≤ 1000000) : EvS K (tOp (rCatA K) t1 t2) σ H (xs ++ ys) := fun H1 e Q q =>
  h1 H1 e _ fun p H2 e2 hp => h2 H2 (e.trans e2) _ fun r H3 e3 hr => ⟨p, r, xs, ys, rfl, rfl, ex_t e3 hp, hr, (by rw [sizeLine_eq]; omega),
    fun hx => by
      subst hx
      exact q r H3 (e2.trans e3) hr,
    fun _ hy => by
      subst hy
      refine q p H3 (e2.trans e3) ?_
      rw [List.append_nil]
      exact ex_t e3 hp,
    fun _ _ z hz => q z _ ((e2.trans e3).trans (Ex.new hz)) (st_of upd_same)⟩
end
section
variable {K : Frag} {H : Hp} {d p : Addr} {kvs : List (Key × V)} {xs : List V}
theorem sqT_cut (hd : H d = some (.dK kvs)) (h : SqT K H p xs) : SqT K (cutH d H) p xs := by
  rcases h with (h | ⟨o, h⟩) | h
  · exact .inl (.inl (cut_at h (ne_of h hd (fun z => nomatch z)) (fun ps z => nomatch z)))
  · exact .inl (.inr ⟨o, cut_at h (ne_of h hd (fun z => nomatch z)) (fun ps z => nomatch z)⟩)
  · exact .inr h
theorem sqL_cut (hd : H d = some (.dK kvs)) (h : SqL K H p xs) : SqL K (cutH d H) p xs := by
  rcases h with (h | ⟨o, h⟩) | h
  · exact .inl (.inl (cut_at h (ne_of h hd (fun z => nomatch z)) (fun ps z => nomatch z)))
  · exact .inl (.inr ⟨o, cut_at h (ne_of h hd (fun z => nomatch z)) (fun ps z => nomatch z)⟩)
  · exact .inr h
end
end BJ

/-! lists compared that may hold anything: a list with itself, lists of different lengths, empty lists -/
namespace BJ
open PySem PySem.Spec PyProof.Rows L2 Evl
open PySem.W (Frag)
section
variable {X : Cx} {K : Frag}
def rNeSelf (K : Frag) : R2 := fun x y H Q => ∃ p xs, x = .ref p ∧ y = .ref p ∧ SqL K H p xs ∧ Q (.bl false) H
theorem op_neSelf (hK : X.K = K) (hu : X.A.units < cLine) : OpR X (compareOp .NotEq) (rNeSelf K) := by
  subst hK
  rintro pins s σ H x y v u Q I rx ry ⟨p, xs, rfl, rfl, hs, q⟩
  cases rx
  cases ry
  obtain ⟨us, r1, p1, _⟩ := I.list hs
  refine SeqAt.RcNeAt.lists (e := fun _ => true) p1.isList p1.isList rfl hu (fun j h1 h2 => SeqAt.EqAt.same _) X.prog X.w _ _ ?_
  refine ⟨.bl false, H, I, ?_, q⟩
  rw [show ((List.range us.toArray.size).all fun _ => true) = true from List.all_eq_true.mpr fun _ _ => rfl]
  rfl
/-- lists of different lengths, or both empty -/
def rEqLen (K : Frag) : R2 := fun x y H Q => ∃ p q xs ys, x = .ref p ∧ y = .ref q ∧ SqL K H p xs ∧ SqL K H q ys ∧ ((xs.length ≠ ys.length ∧ Q (.bl false) H) ∨ (xs = [] ∧ ys = [] ∧ Q (.bl true) H))
theorem op_eqLen (hK : X.K = K) (hu : X.A.units < cLine) : OpR X (compareOp .Eq) (rEqLen K) := by
  subst hK
  rintro pins s σ H x y v u Q I rx ry ⟨p, p2, xs, ys, rfl, rfl, hs, hs2, h⟩
  cases rx
  cases ry
  obtain ⟨us, r1, p1, _⟩ := I.list hs
  obtain ⟨ws, r2, p2, _⟩ := I.list hs2
  rcases h with ⟨hl, q⟩ | ⟨rfl, rfl, q⟩
  · refine SeqAt.RcAt.lists_lengths p1.isList p2.isList ?_ hu X.prog X.w _ _ ⟨.bl false, H, I, rfl, q⟩
    rw [List.size_toArray, List.size_toArray, ← r1.length, ← r2.length]
    simpa using hl
  · cases r1
    cases r2
    refine SeqAt.RcAt.lists (e := fun _ => true) p1.isList p2.isList rfl hu (fun j h1 h2 => absurd h1 (Nat.not_lt_zero j)) X.prog X.w _ _ ?_
    exact ⟨.bl true, H, I, rfl, q⟩
end
end BJ

/-! the dict of the modules is tracked from the law's call on: what is new is not it -/
namespace BJ
open PySem PySem.Spec PyProof.Rows L2 Evl
open PySem.W (Frag)
/-- the dict of the modules is known -/
def Tr (H : Hp) : Prop := ∃ o, H sysModules = some (.frz o (.ext fun _ => True))
theorem Tr.ex {H H' : Hp} (t : Tr H) (e : Ex H H') : Tr H' := t.imp fun _ h => e _ _ h
theorem Tr.ne {H : Hp} (t : Tr H) {p : Addr} (h : H p = none) : sysModules ≠ p := fun z => by
  obtain ⟨o, q⟩ := t
  rw [z, h] at q
  cases q
theorem Tr.but {H H' : Hp} {d : Addr} {kvs : List (Key × V)} (t : Tr H) (hd : H d = some (.dK kvs)) (b : SameBut d H H') : Tr H' := by
  obtain ⟨o, h⟩ := t
  exact ⟨o, b _ _ (ne_of h hd fun z => nomatch z) h⟩
theorem Tr.cut {H : Hp} {d : Addr} {kvs : List (Key × V)} (t : Tr H) (hd : H d = some (.dK kvs)) : Tr (cutH d H) := by
  obtain ⟨o, h⟩ := t
  exact ⟨o, cut_at h (ne_of h hd fun z => nomatch z) fun ps z => nomatch z⟩
theorem lawG2 {P : Program} {w : World} {K : Frag} {mg mb : Str → Option Value} {k : Nat} {fa a : Addr} {sp : Sp} {s₁ : Shared} {vs : List Value} {ns : List Int}
    (KX : K.In s₁.heap) (k1 : K.lookup sysModules = none) (hm : ∃ mm, s₁.heap.Ns sysModules mm) (hns : s₁.heap.Ns mainGlobals mg) (hb : s₁.heap.Ns builtinsNs mb) (hbb : ∀ x : Str, x ≠ "__name__" → mb x = bootBuiltins x) (hlim : s₁.heap.NoLimit) (hg : s₁.gens = #[])
    (ha : s₁.heap.get? a = some { cls := .type "list", data := .seq vs.toArray }) (hi : IntsAre vs ns) (hl : ns.length ≤ sizeLine) (hr : Room k callerA)
    (F : ∀ base : Heap, K.In base → base.Ns mainGlobals mg → CallP P w K mg base k (.ref fa) sp)
    (hsp : ∀ H : Hp, Tr H → Scr K H a (ns.map V.int) → sp [.ref a] H (fun v _ => v = .bl true) fun _ _ _ => False) :
    codeAny (model P w) callerA (.call (.ref fa) ⟨[.ref a], []⟩) (fun r s' => r = .ok (.ret (.bool true)) ∧ OldK s₁.heap s'.heap ∧ s'.os = s₁.os ∧ AllBare s'.gens) s₁ := by
  have rv := vals_ints hi
  obtain ⟨mm, om, em, pm, gm, dm, _⟩ := hm
  have ea : a ≠ sysModules := fun z => by
    rw [← z, ha] at gm
    cases gm
    cases dm
  -- what is tracked: the modules' dict; the script, if it is no object of the top
  have core : ∀ H : Hp, (∀ b u, H b = some u → (b = sysModules ∨ (b = a ∧ K.lookup a = none)) ∧ ∃ o x, u = .frz o x) → HOk P w H s₁.heap → Tr H → Scr K H a (ns.map V.int) →
      codeAny (model P w) callerA (.call (.ref fa) ⟨[.ref a], []⟩) (fun r s' => r = .ok (.ret (.bool true)) ∧ OldK s₁.heap s'.heap ∧ s'.os = s₁.os ∧ AllBare s'.gens) s₁ := by
    intro H hA hok hT hS
    have seen : ∀ {b : Addr} {o : Obj}, s₁.heap.get? b = some o → H b = none → (hidT s₁.heap H).get? b = some o := fun e n => hidT_get e n
    have spaces : ∀ {b : Addr} {m : Str → Option Value}, b ≠ sysModules → s₁.heap.Ns b m → (hidT s₁.heap H).Ns b m := by
      rintro b m hb ⟨o, es, ep, e, d, r⟩
      refine ⟨o, es, ep, seen e ?_, d, r⟩
      cases q : H b with
      | none => rfl
      | some u =>
        obtain ⟨z | ⟨rfl, _⟩, _⟩ := hA b u q
        · exact absurd z hb
        · rw [ha] at e
          cases e
          cases d
    have inK : K.In (hidT s₁.heap H) := by
      intro b o e
      refine seen (KX b o e) ?_
      cases q : H b with
      | none => rfl
      | some u =>
        obtain ⟨z | ⟨rfl, z⟩, _⟩ := hA b u q
        · rw [z, k1] at e
          cases e
        · rw [z] at e
          cases e
    obtain ⟨mc, l1, l2⟩ := id hlim
    have facts : Mod K mg (hidT s₁.heap H) := ⟨inK, spaces (by decide) hns, ⟨mb, spaces (by decide) hb, hbb⟩, ⟨mc, spaces (by decide) l1, l2⟩⟩
    have start : Env0 P w K mg (hidT s₁.heap H) callerA [] s₁ H :=
      ⟨rfl, facts, fun b o e => of_hidT e, Nat.le_of_eq (hidT_size _ _), trivial, (fun b hb => absurd (show b ∈ ([] : List Addr) from hb) (by simp)), hok, AllBare.of_eq hg⟩
    refine codeAny_mono (F _ inK (spaces (by decide) hns) callerA [] s₁ H [.ref a] [] [.ref a] [] _ _ hr rfl start (.cons rfl .nil) .nil ⟨rfl, hsp H hT hS⟩) ?_
    intro r s' h
    match r, h with
    | .error e, ⟨_, _, _, _, _, _, _, _, _, _, _, _, z⟩ => exact z.elim
    | .ok (.ret u), ⟨v, H', os, bare, un, hok', r', q⟩ =>
      obtain rfl : v = .bl true := q
      obtain rfl : u = Value.bool true := r'
      refine ⟨rfl, OldK.of_keep fun b o e => ?_, os, bare⟩
      cases q : H b with
      | none => exact un.keep b o e q (fun z => nomatch (show b ∈ ([] : List Addr) from z)) (fun z => nomatch z)
      | some u =>
        obtain ⟨_, ob, x, rfl⟩ := hA b u q
        have e1 := (hok b _ q).1
        have e2 := (hok' b _ (un.frzs b ob _ q)).1
        rw [e] at e1
        cases e1
        exact e2
  have okM : ∀ H : Hp, H sysModules = some (.frz om (.ext fun _ => True)) → ObjOk P w H s₁.heap sysModules (.frz om (.ext fun _ => True)) := fun H _ => ⟨gm, trivial, ⟨_, gm⟩, fun _ _ _ _ => trivial⟩
  cases hk : K.lookup a with
  | some o =>
    have e := KX a o hk
    rw [ha] at e
    cases e
    refine core (fun b => if b = sysModules then some (.frz om (.ext fun _ => True)) else none) (fun b u z => ?_) (fun b u z => ?_) ⟨om, if_pos rfl⟩ (.inr ⟨vs, 0, hk, rv, by rw [List.length_map]; exact hl⟩)
    · by_cases h : b = sysModules
      · cases (if_pos h).symm.trans z
        exact ⟨.inl h, _, _, rfl⟩
      · exact nomatch (if_neg h).symm.trans z
    · by_cases h : b = sysModules
      · cases (if_pos h).symm.trans z
        subst h
        exact okM _ (if_pos rfl)
      · exact nomatch (if_neg h).symm.trans z
  | none =>
    have cases3 : ∀ b u, (if b = a then some (HO.frz { cls := .type "list", data := .seq vs.toArray } (.lst (ns.map V.int))) else if b = sysModules then some (.frz om (.ext fun _ => True)) else none) = some u →
        (b = a ∧ u = .frz { cls := .type "list", data := .seq vs.toArray } (.lst (ns.map V.int))) ∨ (b = sysModules ∧ u = .frz om (.ext fun _ => True)) := fun b u z => by
      split at z
      · rename_i h
        cases z
        exact .inl ⟨h, rfl⟩
      · split at z
        · rename_i h
          cases z
          exact .inr ⟨h, rfl⟩
        · cases z
    refine core (fun b => if b = a then some (.frz { cls := .type "list", data := .seq vs.toArray } (.lst (ns.map V.int))) else if b = sysModules then some (.frz om (.ext fun _ => True)) else none) (fun b u z => ?_) (fun b u z => ?_)
      ⟨om, (if_neg fun z => ea z.symm).trans (if_pos rfl)⟩ (.inl (.inr ⟨_, if_pos rfl⟩))
    · rcases cases3 b u z with ⟨h, rfl⟩ | ⟨h, rfl⟩
      · exact ⟨.inr ⟨h, hk⟩, _, _, rfl⟩
      · exact ⟨.inl h, _, _, rfl⟩
    · rcases cases3 b u z with ⟨h, rfl⟩ | ⟨h, rfl⟩
      · subst h
        exact ⟨ha, by rw [List.length_map]; exact hl, vs, _, rv, ha⟩
      · subst h
        exact ⟨gm, trivial, ⟨_, gm⟩, fun _ _ _ _ => trivial⟩
open PySem.W in
theorem walkG2 {l : OpenLaw} {n k : Nat} {q : Program} {loose : List Str} {XP : (Str → Option Value) → Heap → Prop} {YP : World → Heap → Prop} {d : DefRec} {K : Params → Frag} {sp : World → Sp}
    (hn : l.most = some n) (hn2 : n ≤ sizeLine) (hdf : d.params.defaults = []) (hr : Room k callerA) (hY : ∀ (w : World) (h : Heap), YP w h → (K w.params).In h) (hi : importsNone q = true)
    (hk1 : ∀ w : World, (K w.params).lookup sysModules = none)
    (F : ∀ (w : World) (mg : Str → Option Value) (fa : Addr) (h : Heap), (K w.params).In h → h.Ns mainGlobals mg → mg d.name = some (.ref fa) →
      ∀ base : Heap, (K w.params).In base → base.Ns mainGlobals mg → CallP l.prog w (K w.params) mg base k (.ref fa) (sp w))
    (hsp : ∀ (w : World) (H : Hp) (a : Addr) (ns : List Int), Tr H → ns.length ≤ n → (∀ z ∈ ns, Builtin.Int.intBits z ≤ 1048576) → Scr (K w.params) H a (ns.map V.int) → sp w [.ref a] H (fun v _ => v = .bl true) fun _ _ _ => False) :
    WalkO q loose XP YP l.row.toRowW d [] (fun f vs => PySem.call f vs) := by
  refine Att.attach_callB hn hdf fun w s₀ s₁ mg mb fa o pm cd doc a vs ns G Y ho hd hcd hmg hobj hints hlen hbits hg => ?_
  have KX := hY w _ Y
  obtain ⟨mm, hmm, _⟩ := (G.T.seer hi).mods
  exact lawG2 KX (hk1 w) ⟨mm, hmm⟩ G.T.g G.T.b G.T.builtins G.T.nolimit hg hobj hints (Nat.le_trans hlen hn2) hr (F w mg fa _ KX G.T.g hmg) fun H hT hS => hsp w H a ns hT hlen hbits hS
end BJ

/-! what evaluates: chained comparisons, fields -/
namespace BJ
open PySem PySem.Spec PyProof.Rows L2 Evl
open PySem.W (Frag)
section
variable {σ : L2.St} {H : Hp} {x y z v : V} {r r' : R2} {ta tb tc te : TE} {K : Frag}
theorem ev_chain {k : Bool} (ha : Ev ta σ H x) (hb : Ev tb σ H y) (h1 : RV r x y H (.bl k)) (h2 : k = true → Ev tc σ H z ∧ RV r' y z H v) (h3 : k = false → v = .bl false) : Ev (tChain r r' ta tb tc) σ H v := fun H1 e Q q =>
  ha H1 e _ fun H2 e2 => hb H2 (e.trans e2) _ fun H3 e3 => h1 H3 ((e.trans e2).trans e3) _ fun H4 e4 => ⟨k, rfl, by
    have e14 := (e2.trans e3).trans e4
    cases k with
    | true =>
      rw [if_pos rfl]
      exact (h2 rfl).1 H4 (e.trans e14) _ fun H5 e5 => (h2 rfl).2 H5 ((e.trans e14).trans e5) _ fun H6 e6 => q H6 ((e14.trans e5).trans e6)
    | false =>
      rw [if_neg Bool.false_ne_true]
      rw [h3 rfl] at q
      exact q H4 e14⟩
theorem ev_fld {f : Str} {p C dx : Addr} {fs : List (Str × V)} (he : Ev te σ H (.ref p)) (hp : H p = some (.ins C dx fs)) (c : Cls K C) (n : NoAttr K C f) (l : fs.lookup f = some v) : Ev (tFld K te f) σ H v := fun H1 e Q q =>
  he H1 e _ fun H2 e2 => ⟨p, C, dx, fs, v, rfl, (e.trans e2) _ _ hp, c, n, l, q H2 e2⟩
end
section
variable {X : Cx} {K : Frag}
def rTupOf (K : Frag) : List V → Hp → VK → Prop := fun xs H Q => ∃ p ys, xs = [.ref p] ∧ ((SqL K H p ys ∧ ∀ l, H l = none → Q (.ref l) (upd H l (.tup ys))) ∨ (SqT K H p ys ∧ Q (.ref p) H))
theorem pi_list' {tg l : Expr} {tl : TE} (hK : X.K = K) (hl : PE X l tl) : PI X tg l (iList K tl) := by subst hK; exact pi_list hl
theorem pi_tup' {tg l : Expr} {tl : TE} (hK : X.K = K) (hl : PE X l tl) : PI X tg l (iTup K tl) := by subst hK; exact pi_tup hl
theorem call_len_seq' (hK : X.K = K) : CallR X (.builtin "len") (rLenS K) := by subst hK; exact call_len_seq
theorem call_tuple_of' (hK : X.K = K) : CallR X (.type "tuple") (rTupOf K) := by subst hK; exact call_tuple_of
theorem call_list_of' (hK : X.K = K) : CallR X (.type "list") (rListS K) := by subst hK; exact call_list_of
end
end BJ

/-! calls of methods within try: the reading names the context ahead of the try -/
namespace BJ
open PySem PySem.Spec PyProof.Rows L2 Evl
open PySem.W (Frag)
structure SameCx (X X0 : Cx) : Prop where
  p : X.prog = X0.prog
  w : X.w = X0.w
  k : X.K = X0.K
  m : X.mg = X0.mg
  b : X.base = X0.base
  a : X.A = X0.A
section
variable {X X0 : Cx} {o e : Expr} {es : List Expr} {kws : List Keyword} {m : Str} {apos pos : Pos} {pl : Sem Bool} {W : WX} {ta : TE} {t tk : TA} {ks : List Str}
theorem tMe_same (h : SameCx X X0) : tMe X0 m W ta t tk ks = tMe X m W ta t tk ks := by
  unfold tMe
  rw [h.p, h.w, h.k, h.m, h.b, h.a]
theorem tPr_same {f : Str} (h : SameCx X X0) : tPr X0 f ta = tPr X f ta := by
  unfold tPr
  rw [h.p, h.w, h.k, h.m, h.b, h.a]
theorem pe_pr' {f : Str} (sc : SameCx X X0) (he : PE X o ta) (hab : attributeBase o f X.env (eval o X.env) = eval o X.env := by rfl) : PE X (.Attribute o f pos) (tPr X0 f ta) := by
  rw [tPr_same sc]
  exact pe_pr he hab
theorem pe_me' (sc : SameCx X X0) (he : PE X o ta) (tkW : Takes X W) (ha : PA X (e :: es) t) (hkw : PK X kws tk)
    (hall : (backToKw pos (keywordEach kws X.env)).all (·.1.isSome) = true := by rfl) (hks : (backToKw pos (keywordEach kws X.env)).filterMap (·.1) = ks := by rfl)
    (hst : starEach (e :: es) X.env = (false, eval e X.env) :: starEach es X.env := by rfl)
    (hpl : ((backTo pos (starEach (e :: es) X.env)).any (·.1) || (backToKw pos (keywordEach kws X.env)).any (·.1.isNone)) = false := by rfl)
    (ht : eval (.Call (.Attribute o m apos) (e :: es) kws pos) X.env = (do
      let ov ← eval o X.env
      standAt apos.atName
      let (f, first) ← holding [ov] (getMethod ov m pl)
      callWith pos f first (backTo pos (starEach (e :: es) X.env)) (backToKw pos (keywordEach kws X.env))) := by rfl) :
    PE X (.Call (.Attribute o m apos) (e :: es) kws pos) (tMe X0 m W ta t tk ks) := by
  rw [tMe_same sc]
  exact pe_me he tkW ha hkw hall hks hst hpl ht
theorem pe_me0' (sc : SameCx X X0) (he : PE X o ta) (tkW : Takes X W) (hkw : PK X kws tk)
    (hall : (backToKw pos (keywordEach kws X.env)).all (·.1.isSome) = true := by rfl) (hks : (backToKw pos (keywordEach kws X.env)).filterMap (·.1) = ks := by rfl)
    (hpl : ((backTo pos (starEach [] X.env)).any (·.1) || (backToKw pos (keywordEach kws X.env)).any (·.1.isNone)) = false := by rfl)
    (ht : eval (.Call (.Attribute o m apos) [] kws pos) X.env = (do
      let ov ← eval o X.env
      standAt apos.atName
      let (f, first) ← holding [ov] (getMethod ov m pl)
      callWith pos f first (backTo pos (starEach [] X.env)) (backToKw pos (keywordEach kws X.env))) := by rfl) :
    PE X (.Call (.Attribute o m apos) [] kws pos) (tMe X0 m W ta tNil tk ks) := by
  rw [tMe_same sc]
  exact pe_me0 he tkW hkw hall hks hpl ht
end
end BJ

/-! some places change, all else stands -/
namespace BJ
open PySem PySem.Spec PyProof.Rows L2 Evl
open PySem.W (Frag)
/-- what stands in H stands in H', the places L aside -/
def ButL (L : List Addr) (H H' : Hp) : Prop := ∀ p o, p ∉ L → H p = some o → H' p = some o
section
variable {L L' : List Addr} {H H1 H2 : Hp}
theorem ButL.refl : ButL L H H := fun _ _ _ h => h
theorem ButL.trans (a : ButL L H H1) (b : ButL L H1 H2) : ButL L H H2 := fun p o n h => b p o n (a p o n h)
theorem ButL.ex (e : Ex H H1) : ButL L H H1 := fun p o _ h => e p o h
theorem ButL.sb {d : Addr} (b : SameBut d H H1) (hd : d ∈ L) : ButL L H H1 := fun p o n h => b p o (fun z => n (z ▸ hd)) h
theorem ButL.upd {a : Addr} {o : HO} (ha : a ∈ L) : ButL L H (upd H a o) := fun p u n h => by
  have hp : p ≠ a := fun z => n (by rw [z]; exact ha)
  rw [upd_ne hp]
  exact h
theorem ButL.mono (b : ButL L H H1) (h : ∀ p ∈ L, p ∈ L') : ButL L' H H1 := fun p o n q => b p o (fun z => n (h p z)) q
/-- of the places in L only d was there -/
theorem ButL.only {d : Addr} (b : ButL L H H1) (h : ∀ p ∈ L, p = d ∨ H p = none) : SameBut d H H1 := fun p o n q => b p o (fun z => by
  rcases h p z with e | e
  · exact n e
  · rw [e] at q; cases q) q
theorem ButL.sqT {K : Frag} {p : Addr} {xs : List V} (b : ButL L H H1) (hL : ∀ q ∈ L, (∃ kvs, H q = some (.dK kvs)) ∨ (∃ ys, H q = some (.lst ys)) ∨ H q = none) (h : SqT K H p xs) : SqT K H1 p xs := by
  have off : ∀ {o}, H p = some o → (∀ kvs, o ≠ .dK kvs) → (∀ ys, o ≠ .lst ys) → p ∉ L := fun ho h1 h2 hm => by
    rcases hL p hm with ⟨kvs, q⟩ | ⟨ys, q⟩ | q
    · rw [ho] at q; cases q; exact h1 _ rfl
    · rw [ho] at q; cases q; exact h2 _ rfl
    · rw [ho] at q; cases q
  rcases h with (h | ⟨o, h⟩) | h
  · exact .inl (.inl (b p _ (off h (fun _ z => nomatch z) (fun _ z => nomatch z)) h))
  · exact .inl (.inr ⟨o, b p _ (off h (fun _ z => nomatch z) (fun _ z => nomatch z)) h⟩)
  · exact .inr h
end
end BJ

/-! generators of any body: yields, loops, statements; they raise nothing -/
namespace BJ
open PySem PySem.Spec PyProof.Rows L2 Evl GenW
open PySem.W (Frag)
/-- what a generator's context is, ahead of its run: ws are the consumer's objects, go at a its own -/
structure YX (X : Cx) (ws : List Addr) (a : Addr) (go : Obj) : Prop where
  ex : X.ex = []
  gen : (a, go) ∈ X.pn
  pn : ∀ p ∈ X.pn, p.1 ∉ ws
  young : ∀ b ∈ ws, X.s_0.heap.objs.size ≤ b
  none : ∀ e s, X.xe e s → False
  calm : X.calm = true
/-- it runs, woken at s₀; ip: its own iterators -/
structure RY (X : Cx) (ws : List Addr) (ip : List (Addr × Obj)) (s₀ s : Shared) (σ : L2.St) (H : Hp) : Prop where
  inv : Inv X (pinsAt ws s₀.heap ++ ip) σ H s
  there : ∀ b ∈ ws, ∃ o, s₀.heap.get? b = some o ∧ ∀ v, o.data ≠ .cell v
  off : ∀ p ∈ ip, p.1 ∉ ws
section
variable {X : Cx} {ws : List Addr} {a : Addr} {go : Obj} {ip : List (Addr × Obj)} {s₀ s t : Shared} {σ : L2.St} {H : Hp}
theorem RY.ws0 (r : RY X ws ip s₀ s σ H) : ∀ b ∈ ws, H b = none ∧ b ≠ X.env.locals ∧ b ∉ X.fs := fun b hb => by
  obtain ⟨o, e, _⟩ := r.there b hb
  obtain ⟨_, h2, h3, h4, _⟩ := r.inv.pin (b, o) (List.mem_append_right _ (List.mem_append_left _ (mem_pinsAt hb e)))
  exact ⟨h2, h3, h4⟩
theorem RY.same (r : RY X ws ip s₀ s σ H) : ∀ b ∈ ws, ∀ o, s₀.heap.get? b = some o → s.heap.get? b = some o := fun b hb o e =>
  (r.inv.pin (b, o) (List.mem_append_right _ (List.mem_append_left _ (mem_pinsAt hb e)))).1
theorem RY.cn (Y : YX X ws a go) (r : RY X ws ip s₀ s σ H) : Cn X.prog X.w X.outer X.H_0 H X.s_0 ws a go s := by
  have hb := r.inv.base
  rw [Y.ex] at hb
  exact ⟨r.inv.os, r.inv.bare, hb, r.inv.hok, r.inv.nolimit, (r.inv.pin (a, go) (List.mem_append_left _ Y.gen)).1, fun b hb => (r.ws0 b hb).1⟩
/-- woken again -/
theorem RY.woken (Y : YX X ws a go) (r : RY X ws ip s₀ s σ H) (z : Doze ws s t) : RY X ws ip t t σ H := by
  have w0 := r.ws0
  have I0 : Inv X ip σ H s := r.inv.pins_of fun p hp => r.inv.pin p (List.mem_append_right _ (List.mem_append_right _ hp))
  have cellW : ∀ x c, X.env.cells.lookup x = some c → c ∉ ws := fun x c e hm => by
    obtain ⟨o, e1, d⟩ := r.there c hm
    obtain ⟨v, o2, e2, d2⟩ := r.inv.cell x c e
    rw [r.same c hm o e1] at e2
    cases e2
    exact d _ d2
  obtain ⟨hh, g, dd, tk, o⟩ := t
  have ho : o = s.os := z.os
  subst ho
  have J : Inv X ip σ H { s with heap := hh, gens := g, drawn := dd, toks := tk } := by
    refine I0.step (ch := ws) (fun b hb => ⟨.inr (Y.young b hb), (w0 b hb).2.1, fun x c e h => cellW x c e (h ▸ hb), fun p hp h => ?_⟩) (fun b u _ _ hc e _ => z.keep b u hc e) (fun b u _ _ hc e _ => ⟨u.slots, z.keep b u hc e⟩)
      (fun _ _ _ _ n => n) (fun b u hc e => ⟨u, z.keep b u hc e⟩) (fun _ _ q => q) (fun _ _ _ q => q) (fun b ps q => ⟨#[], by rw [q]; simp⟩) (fun m hm => ?_) (fun b u q => ?_) z.bare
    · rcases List.mem_append.mp hp with h2 | h2
      · exact Y.pn p h2 (h ▸ hb)
      · exact r.off p h2 (h ▸ hb)
    · obtain ⟨u, es, ep, hu, rr⟩ := hm
      exact ⟨u, es, ep, z.keep _ u (fun hb => (w0 _ hb).2.1 rfl) hu, rr⟩
    · refine (I0.hok b u q).stay (fun c v hc y => z.keep c v (fun hb => ?_) y) (fun _ y => y) fun _ _ y => y
      have n := (w0 c hb).1
      rcases hc with h | h
      · rw [h, q] at n; cases n
      · rw [h] at n; cases n
  refine ⟨J.pins_of fun p hp => ?_, z.there, r.off⟩
  rcases List.mem_append.mp hp with h | h
  · obtain ⟨hb, e⟩ := of_pinsAt h
    obtain ⟨q1, q2, q3⟩ := w0 p.1 hb
    obtain ⟨o2, e2, d2⟩ := z.there p.1 hb
    refine ⟨e, q1, q2, q3, ?_⟩
    have e3 : hh.get? p.1 = some p.2 := e
    have e4 : hh.get? p.1 = some o2 := e2
    rw [e3] at e4
    cases e4
    exact d2
  · exact J.pin p (List.mem_append_right _ h)
end
/-- what is wanted behind a statement: by how many items are out -/
structure YEnds where
  nx : Nat → L2.St → Hp → Prop
  bk : Nat → L2.St → Hp → Prop := fun _ _ _ => False
  ct : Nat → L2.St → Hp → Prop := fun _ _ _ => False
def YEnds.at (D : YEnds) (i : Nat) : Ends := { nx := D.nx i, rt := fun _ _ => False, bk := D.bk i, ct := D.ct i }
/-- reading: what is handed out in all, what is wanted of the heap at each item -/
abbrev TYs := List V → (Hp → Prop) → YEnds → Nat → L2.St → Hp → Prop
def YSP (X : Cx) (ws : List Addr) (ip : List (Addr × Obj)) (s₀ : Shared) (D : YEnds) (i : Nat) (f : Flow) (s : Shared) : Prop :=
  match f with
  | .next => ∃ σ H, RY X ws ip s₀ s σ H ∧ D.nx i σ H
  | .brk => ∃ σ H, RY X ws ip s₀ s σ H ∧ D.bk i σ H
  | .cont => ∃ σ H, RY X ws ip s₀ s σ H ∧ D.ct i σ H
  | .ret _ => False
/-- where its code stands -/
structure YC (X : Cx) (A : Around) (c : Code) (fs : List Frame) (gd : Bool → Bool) : Prop where
  (over : A.over c fs = X.A) (split : splitAtGen fs = none) (guard : fs.any Frame.guarded = false) (gd : gd false = false)
abbrev YPr (X : Cx) (ws : List Addr) (a : Addr) (go : Obj) (xs : List V) (Q : Hp → Prop) : Protocol := YItm X.prog X.w X.outer X.H_0 X.s_0 ws a go xs Q
abbrev YOk (X : Cx) (ws : List Addr) (ip : List (Addr × Obj)) (a : Addr) (go : Obj) (xs : List V) (Q : Hp → Prop) (A : Around) (R : GenEnd) (c : Code) (fs : List Frame) (K : Flow → Sem PySem.Fin) (D : YEnds) : Prop :=
  ∀ (n i : Nat) (s₀ s : Shared) (f : Flow), n + i = xs.length → YSP X ws ip s₀ D i f s → Seg (model X.prog X.w) A R (YPr X ws a go xs Q) n s₀ c (K f) fs s
structure YS (X : Cx) (st : Stmt) (t : TYs) : Prop where
  run : ∀ (ws : List Addr) (ip : List (Addr × Obj)) (a : Addr) (go : Obj) (xs : List V) (Q : Hp → Prop) (A : Around) (R : GenEnd) (n i : Nat) (s₀ : Shared) (c : Code) (fs : List Frame) (K : Flow → Sem PySem.Fin) (J : Value → Sem PySem.Fin) (gd : Bool → Bool) (lv : List Value → List Value) (s : Shared) (σ : L2.St) (H : Hp) (D : YEnds),
    YX X ws a go → YC X A c fs gd → n + i = xs.length → YOk X ws ip a go xs Q A R c fs K D → RY X ws ip s₀ s σ H → t xs Q D i σ H →
    Seg (model X.prog X.w) A R (YPr X ws a go xs Q) n s₀ c ((exec st X.env).wrap K J gd lv) fs s
structure YSs (X : Cx) (st : List Stmt) (t : TYs) : Prop where
  run : ∀ (ws : List Addr) (ip : List (Addr × Obj)) (a : Addr) (go : Obj) (xs : List V) (Q : Hp → Prop) (A : Around) (R : GenEnd) (n i : Nat) (s₀ : Shared) (c : Code) (fs : List Frame) (K : Flow → Sem PySem.Fin) (J : Value → Sem PySem.Fin) (gd : Bool → Bool) (lv : List Value → List Value) (s : Shared) (σ : L2.St) (H : Hp) (D : YEnds),
    YX X ws a go → YC X A c fs gd → n + i = xs.length → YOk X ws ip a go xs Q A R c fs K D → RY X ws ip s₀ s σ H → t xs Q D i σ H →
    Seg (model X.prog X.w) A R (YPr X ws a go xs Q) n s₀ c ((execs st X.env).wrap K J gd lv) fs s
section
variable {X : Cx} {rest : List Stmt} {st : Stmt}
def tYPs (t : TS) : TYs := fun _ _ D i σ H => t (D.at i) σ H
theorem ysp_of {ws : List Addr} {ip : List (Addr × Obj)} {s₀ s : Shared} {D : YEnds} {i : Nat} {f : Flow} (ht : ∀ b ∈ ws, ∃ o, s₀.heap.get? b = some o ∧ ∀ v, o.data ≠ .cell v) (ho : ∀ p ∈ ip, p.1 ∉ ws) (h : SP X (pinsAt ws s₀.heap ++ ip) (D.at i) f s) : YSP X ws ip s₀ D i f s := by
  cases f with
  | next => obtain ⟨σ, H, I, q⟩ := h; exact ⟨σ, H, ⟨I, ht, ho⟩, q⟩
  | brk => obtain ⟨σ, H, I, q⟩ := h; exact ⟨σ, H, ⟨I, ht, ho⟩, q⟩
  | cont => obtain ⟨σ, H, I, q⟩ := h; exact ⟨σ, H, ⟨I, ht, ho⟩, q⟩
  | ret u => obtain ⟨v, σ, H, I, r1, q⟩ := h; exact q
theorem ys_ps {t : TS} (h : PS X st t) : YS X st (tYPs t) := by
  refine ⟨fun ws ip a go xs Q A R n i s₀ c fs K J gd lv s σ H D Y g hn k r ht => seg_wrap ?_⟩
  rw [g.over]
  exact wpAny_mono (h.run _ s σ H (D.at i) r.inv ht) (fun f s' hs => k n i s₀ s' f hn (ysp_of r.there r.off hs)) fun x s' hx => (Y.none x s' hx).elim
def tY0 : TYs := fun _ _ D i σ H => D.nx i σ H
theorem yss_nil : YSs X [] tY0 := ⟨fun ws ip a go xs Q A R n i s₀ c fs K J gd lv s σ H D Y g hn k r ht => seg_execs_nil (k n i s₀ s .next hn ⟨σ, H, r, ht⟩)⟩
def tYThen (t u : TYs) : TYs := fun xs Q D i σ H => t xs Q { D with nx := u xs Q D } i σ H
theorem yss_cons {t u : TYs} (p : YS X st t) (q : YSs X rest u) : YSs X (st :: rest) (tYThen t u) := by
  refine ⟨fun ws ip a go xs Q A R n i s₀ c fs K J gd lv s σ H D Y g hn k r ht => seg_execs_cons ?_⟩
  refine p.run ws ip a go xs Q A R n i s₀ c fs _ J gd lv s σ H { D with nx := u xs Q D } Y g hn (fun n' i' s₀' s' f hn' hs => ?_) r ht
  cases f with
  | next =>
    obtain ⟨σ', H', r', h'⟩ := hs
    exact q.run ws ip a go xs Q A R n' i' s₀' c fs K J gd lv s' σ' H' D Y g hn' k r' h'
  | brk => exact k n' i' s₀' s' .brk hn' hs
  | cont => exact k n' i' s₀' s' .cont hn' hs
  | ret u => exact hs.elim
/-- yield e -/
def tYield (te : TE) : TYs := fun xs Q D i σ H => i < xs.length ∧ te σ H fun x H1 => xs[i]? = some x ∧ Q H1 ∧ D.nx (i + 1) σ H1
theorem ys_yield {e : Expr} {te : TE} {yp pos : Pos} (he : PE X e te) (hco : X.env.scope.isCoroutine = false := by rfl) (hi : interactive X.env = false := by rfl) : YS X (.Expr (.Yield (some e) yp) pos) (tYield te) := by
  refine ⟨fun ws ip a go xs Q A R n i s₀ c fs K J gd lv s σ H D Y g hn k r ht => ?_⟩
  obtain ⟨hlt, ht⟩ := ht
  obtain ⟨n, rfl⟩ : ∃ m, n = m + 1 := ⟨n - 1, by omega⟩; refine seg_Expr_Yield g.split g.gd g.guard ?_ hco hi
  rw [g.over]
  refine wpAny_mono (he.run _ s σ H _ r.inv ht) (fun v s' hv => ?_) fun x s' hx => (Y.none x s' hx).elim
  obtain ⟨x, H1, I1, rv, hx, hQ, q⟩ := hv
  have r1 : RY X ws ip s₀ s' σ H1 := ⟨I1, r.there, r.off⟩
  intro kap hk
  refine ⟨x, H1, ?_, rv, by omega, r1.cn Y, hQ, r1.same, fun s'' z => hk .none s'' ?_⟩
  · rw [show xs.length - (n + 1) = i by omega]
    exact hx
  · exact k n (i + 1) s'' s'' .next (by omega) ⟨σ, H1, r1.woken Y z, q⟩
end
end BJ

/-! generators: for loops within them; the def's promise -/
namespace BJ
open PySem PySem.Spec PyProof.Rows L2 Evl GenW
open PySem.W (Frag)
section
variable {X : Cx}
def tYFor (wi : TI) (g : TG) (tb : TYs) : TYs := fun xs Q D i σ H => wi σ H fun J H1 => ∃ W : Nat → Nat → Nat → L2.St → Hp → Prop, (∃ m, W 0 m i σ H1) ∧ ∀ k m i σ H, W k m i σ H →
  (J.stop k H ∧ D.nx i σ H) ∨ (J.go k H ∧ ∃ N : Nat → L2.St → Hp → Prop, (∀ i' σ' H', N i' σ' H' → ∃ m', m' < m ∧ W (k + 1) m' i' σ' H') ∧
    ∀ x H', J.yld k H x H' → g x σ H' fun σ2 H2 => tb xs Q { nx := N, ct := N, bk := D.nx } i σ2 H2)
theorem yc_loop {A : Around} {c c' : Code} {fs : List Frame} {gd : Bool → Bool} {k : Result → Sem PySem.Fin} {l kp : List Value} {p : Pos} (g : YC X A c fs gd) (hw : c'.weight = 0) (hu : c'.cUnits = 0) : YC X A c' (.ret k none (gd false) l c p kp :: fs) id :=
  ⟨(over_loop hw hu).trans g.over, (show (splitAtGen fs).map _ = _ by rw [g.split]; rfl), (show (gd false || fs.any Frame.guarded) = _ by rw [g.gd, g.guard]; rfl), rfl⟩
/-- what a loop's call does with what comes back -/
abbrev loopK (K : Flow → Sem PySem.Fin) (J : Value → Sem PySem.Fin) (gd : Bool → Bool) (lv : List Value → List Value) (env : Env) : Result → Sem PySem.Fin := fun r =>
  ((match r with | .ok f => (.pure f : Sem Flow) | .error e => .raise e).onRaise (cameBack env)).wrap K J gd lv
theorem ys_for {tg iter : Expr} {body : List Stmt} {wi : TI} {g : TG} {tb : TYs} {pos : Pos} (hi : PI X tg iter wi) (hg : PG X tg g) (hb : YSs X body tb) (hs : ∀ x, foldedSetIterable iter X.env x = pure x := by intro _; rfl) : YS X (.For tg iter body [] pos) (tYFor wi g tb) := by
  refine ⟨fun ws ip a go xs Q A R n i s₀ c fs K J gd lv s σ H D Y gc hn kk r ht => ?_⟩
  rw [exec_For]
  refine seg_bind_wrap (wpAny_standAt ?_); refine seg_bind_wrap ?_
  rw [gc.over]
  refine wpAny_mono (hi.run _ s σ H _ r.inv ht) (fun v s1 hv => ?_) fun x s' hx => (Y.none x s' hx).elim
  refine seg_bind_wrap (wpAny_of_eq (hs v) (seg_bind_wrap (wpAny_standAt (seg_bind_wrap (wpAny_holding ?_)))))
  rw [gc.over]
  refine wpAny_mono hv (fun u s2 hu => ?_) fun x s' hx => (Y.none x s' hx).elim
  obtain ⟨it, fp, tn, Jt, H2, rfl, I2, T, st2, f2, W, ⟨m0, w0⟩, turn⟩ := hu
  refine seg_call fun p => ?_
  have offW : ∀ b ∈ fp, b ∉ ws := fun b hb hm => by
    obtain ⟨o, e, _⟩ := r.there b hm
    exact (f2 b hb).2.2.2.2.2 (b, o) (List.mem_append_right _ (List.mem_append_left _ (mem_pinsAt hm e))) rfl
  have stat : ∀ {s₁ : Shared} {H' : Hp}, (∀ b ∈ fp, H' b = none) → ∀ b ∈ fp, FpOk X (pinsAt ws s₁.heap ++ ip) H' b := fun {s₁ H'} hn b hb => by
    obtain ⟨_, h2, h3, h4, h5, h6⟩ := f2 b hb
    refine ⟨hn b hb, h2, h3, h4, h5, fun q hq => ?_⟩
    rcases List.mem_append.mp hq with h | h
    · exact h6 q (List.mem_append_left _ h)
    · rcases List.mem_append.mp h with h | h
      · exact fun z => offW b hb (z ▸ (of_pinsAt h).1)
      · exact h6 q (List.mem_append_right _ (List.mem_append_right _ h))
  have loop : ∀ (m n k i : Nat) (s₀ s : Shared) (σ : L2.St) (H : Hp), n + i = xs.length → W k m i σ H → RY X ws ip s₀ s σ H → tn k s.heap → (∀ b ∈ fp, H b = none) →
      Seg (model X.prog X.w) A R (YPr X ws a go xs Q) n s₀ (.forLoop tg (.ref it) body [] X.env) ((model X.prog X.w).den (.forLoop tg (.ref it) body [] X.env))
        (.ret (loopK K J gd lv X.env) none (gd false) (lv []) c p [] :: fs) s := by
    intro m
    induction m using Nat.strongRecOn with
    | ind m ih =>
      intro n k i s₀ s σ H hn w3 r3 st3 fr3
      have gl := yc_loop (k := loopK K J gd lv X.env) (c' := .forLoop tg (.ref it) body [] X.env) (l := lv []) (kp := []) (p := p) gc rfl rfl
      show Seg _ _ _ _ _ _ _ ((forTurn tg (.ref it) body [] X.env).onRaise (fun x => do noteFrame x X.env; theTreesLotGoes x)) _ _
      rw [Sem.onRaise_eq_wrap]
      unfold forTurn
      refine seg_bind_wrap (wpAny_standAt ?_); refine seg_bind_wrap ?_
      rw [gl.over]
      refine wpAny_onRaise ?_
      rcases turn k m i σ H w3 with ⟨stop, qn⟩ | ⟨goes, N, hN, step⟩
      · refine wpAny_mono (T.done X rfl rfl rfl Y.calm k _ s σ H (fun _ _ => False) r3.inv (stat fr3) st3 stop) (fun q s4 hq => ?_) fun _ _ h => h.elim
        obtain ⟨rfl, I4⟩ := hq
        refine seg_again rfl ?_
        exact seg_leaf (.ok .next) (kk n i s₀ s4 .next hn ⟨σ, H, ⟨I4, r3.there, r3.off⟩, qn⟩)
      · refine wpAny_mono (T.item X rfl rfl rfl Y.calm k _ s σ H (fun _ _ => False) r3.inv (stat fr3) st3 goes) (fun q s4 hq => ?_) fun _ _ h => h.elim
        obtain ⟨u, rfl, h4⟩ := hq
        refine seg_bind_wrap ?_
        rw [gl.over]
        refine wpAny_mono h4 (fun _ s5 h5 => ?_) fun _ _ h => h.elim
        obtain ⟨x, H5, I5, r5, y5, st5, fr5⟩ := h5
        have I5' := I5.pinned (stat fr5) (T.obj _ _ st5); refine seg_bind_wrap ?_
        rw [gl.over]
        refine wpAny_mono (hg.run _ s5 σ H5 x u _ I5' r5 (step x H5 y5)) (fun _ s6 h6 => ?_) fun x s' hx => (Y.none x s' hx).elim
        obtain ⟨σ6, H6, I6, q6⟩ := h6
        rw [List.append_assoc] at I6
        have r6 : RY X ws (ip ++ pinsAt fp s5.heap) s₀ s6 σ6 H6 := ⟨I6, r3.there, fun q hq => by
          rcases List.mem_append.mp hq with h | h
          · exact r3.off q h
          · exact offW q.1 (of_pinsAt h).1⟩
        have back : ∀ {s₁ s7 : Shared} {σ7 : L2.St} {H7 : Hp}, RY X ws (ip ++ pinsAt fp s5.heap) s₁ s7 σ7 H7 → RY X ws ip s₁ s7 σ7 H7 ∧ tn (k + 1) s7.heap ∧ ∀ b ∈ fp, H7 b = none := fun {s₁ s7 σ7 H7} r7 => by
          have at7 : ∀ b ∈ fp, ∀ o, s5.heap.get? b = some o → s7.heap.get? b = some o ∧ H7 b = none := fun b hb o e => by
            obtain ⟨q1, q2, _⟩ := r7.inv.pin (b, o) (List.mem_append_right _ (List.mem_append_right _ (List.mem_append_right _ (mem_pinsAt hb e))))
            exact ⟨q1, q2⟩
          refine ⟨⟨r7.inv.pins_of fun q hq => r7.inv.pin q (List.mem_append_right _ ?_), r7.there, fun q hq => r7.off q (List.mem_append_left _ hq)⟩, T.keep _ _ _ st5 fun b hb o e => (at7 b hb o e).1, fun b hb => ?_⟩
          · rcases List.mem_append.mp hq with h | h
            · exact List.mem_append_left _ h
            · exact List.mem_append_right _ (List.mem_append_left _ h)
          · obtain ⟨o, e, _⟩ := T.obj _ _ st5 b hb
            exact (at7 b hb o e).2
        rw [Sem.bind_eq_wrap', Sem.wrap_wrap]
        refine hb.run ws (ip ++ pinsAt fp s5.heap) a go xs Q A R n i s₀ _ _ _ _ _ _ s6 σ6 H6 { nx := N, ct := N, bk := D.nx } Y gl hn (fun n' i' s₀' s7 f hn' hs7 => ?_) r6 q6
        cases f with
        | next =>
          obtain ⟨σ7, H7, r7, n7⟩ := hs7
          obtain ⟨b1, b2, b3⟩ := back r7
          obtain ⟨m', hm, w7⟩ := hN i' σ7 H7 n7
          exact seg_again rfl (ih m' hm n' (k + 1) i' s₀' s7 σ7 H7 hn' w7 b1 b2 b3)
        | cont =>
          obtain ⟨σ7, H7, r7, n7⟩ := hs7
          obtain ⟨b1, b2, b3⟩ := back r7
          obtain ⟨m', hm, w7⟩ := hN i' σ7 H7 n7
          exact seg_again rfl (ih m' hm n' (k + 1) i' s₀' s7 σ7 H7 hn' w7 b1 b2 b3)
        | brk =>
          obtain ⟨σ7, H7, r7, n7⟩ := hs7
          exact seg_leaf (.ok .next) (kk n' i' s₀' s7 .next hn' ⟨σ7, H7, (back r7).1, n7⟩)
        | ret u => exact hs7.elim
  exact loop m0 n 0 i s₀ s2 σ H2 hn w0 ⟨I2, r.there, r.off⟩ st2 fun b hb => (f2 b hb).1
end
end BJ

/-! the call of a generator def of any body -/
namespace BJ
open PySem PySem.Spec PyProof.Rows L2 Evl GenW
open PySem.W (Frag)
section
variable {P : Program} {w : World} {K : Frag} {mg : Str → Option Value} {base : Heap}
theorem yfn_body {k : Nat} {f : Addr} {name qual : Str} {params : Arguments} {body : List Stmt} {scope : Scope} {dV kV doc pm cdv ct oc : Value} {an od : Option Addr} {osl : Array (Option Value)} {N ps : List Str} {sp : SpY}
    (lk : K.lookup f = some ⟨oc, od, .func (PySem.W.fnOf name qual params body scope dV kV doc pm an cdv ct), osl⟩) (hcd : PySem.W.codeIn K cdv qual = true) (S : GScope N ps scope) (hb : Binds K (PySem.W.fnOf name qual params body scope dV kV doc pm an cdv ct) ps [])
    (len : ∀ vs H xs Q, sp vs H xs Q → vs.length = ps.length)
    (hbody : ∀ (A : Around) (outer : List Env) (s : Shared) (H : Hp) (vs xs : List V) (Q : Hp → Prop) (pn : List (Addr × Obj)), Room k (A.deeper (envOfC qual scope s.heap.objs.size f cdv)) → sp vs H xs Q →
      ∃ t, YSs (gcxOf P w K mg base N qual scope f cdv A outer s H (fun _ _ _ => False) pn).nox body t ∧ t xs Q { nx := fun i _ H' => i = xs.length ∧ Q H' } 0 (L2.start N vs) H) : YFn P w K mg base (k + 1) f sp := by
  intro A outer s H us vs xs Q hr e0 r hsp
  have hl := len _ _ _ _ hsp
  have KX : K.In s.heap := e0.mod.kin.keeps fun b o e => (e0.bs b o e).1; have lim : s.heap.NoLimit := e0.mod.nolimit.keeps fun b o e => (e0.bs b o e).1
  have hul : (us ++ []).length = ps.length := by rw [List.append_nil, ← r.length, hl]
  have hbind := hb s us KX hul
  rw [List.append_nil] at hbind
  refine codeAny_call_generator hr.depth (KX _ _ lk) rfl S.co S.gen rfl (PySem.W.codeRec_of KX hcd) (hbind _ _ _ _ ?_)
  refine wpAny_newFunctionEnv_cells S.kind (fun y hy => ?_) fun env he s1 x => ?_
  · rcases S.par y.1 (List.of_mem_zip (show (y.1, y.2) ∈ _ from hy)).1 with q | q
    · exact .inl q
    · exact .inr ⟨q, PySem.W.cellsFrom_some _ _ _ (.inl q)⟩
  subst he
  have lim1 : s1.heap.NoLimit := lim.keeps x.toInCall.keep; refine ⟨lim1, ?_⟩
  obtain ⟨h1, tk, es1, hk1⟩ := x.done; have os1 : s1.os = s.os := by rw [es1]
  have gen1 : s1.gens = s.gens := (by rw [es1]); have lt1 : s.heap.objs.size < s1.heap.objs.size := x.toInCall.ns.lt
  have kp1 : ∀ b o, s.heap.get? b = some o → s1.heap.get? b = some o := x.toInCall.keep; have main : ∀ (go : Obj) (nm qn : Value) (tk2 : Nat), go.cls = .type "generator" → go.data = .fields #[.int s1.gens.size 0, nm, qn] → go.slots = #[] → (∀ h : Heap, (h.push go).get? h.objs.size = some go) →
      YMade P w (k + 1) outer H s xs Q (.ref s1.heap.objs.size) { s1 with gens := s1.gens.push (.fresh (.func body (envOfC qual scope s.heap.objs.size f cdv))), toks := tk2, heap := s1.heap.push go } := by
    intro go nm qn tk2 hgc hgd0 hgs hgp; have hpushed : (s1.heap.push go).get? s1.heap.objs.size = some go := hgp _
    refine ⟨s1.heap.objs.size, s1.gens.size, _, go, rfl, Nat.le_of_lt lt1, ?_, hpushed, fun h e => ⟨go, nm, qn, e, hgc, hgd0, hgs⟩, Array.getElem?_push_size .., os1, AllBare.push (by rw [gen1]; exact e0.bare) rfl, lim1.keeps fun b o e => Heap.get?_push_of_some _ e, fun b o e => Heap.get?_push_of_some _ (kp1 b o e), ?_⟩
    · show _ < (s1.heap.push _).objs.size
      rw [Heap.size_push]
      exact Nat.lt_succ_self _
    intro Aw ws t hrw hfr hws hkt hwo hos hba
    have hws' : ∀ b ∈ ws, s1.heap.objs.size < b := fun b hb => by
      have := hws b hb
      have z : (s1.heap.push go).objs.size ≤ b := this
      rw [Heap.size_push] at z
      exact z
    have e0w : Env0 P w K mg base Aw outer s H := ⟨hfr, e0.mod, e0.bs, e0.bsz, e0.funs, e0.frf, e0.hok, e0.bare⟩; have I1 : Inv (gcxOf P w K mg base N qual scope f cdv Aw outer s H (fun _ _ _ => False) []) [] (L2.start N vs) H s1 := inv_startG S hrw.hd e0w hl r x
    have kpt : ∀ b o, s1.heap.get? b = some o → t.heap.get? b = some o := fun b o e => hkt b o (Heap.get?_push_of_some _ e)
    have I2 : Inv (gcxOf P w K mg base N qual scope f cdv Aw outer s H (fun _ _ _ => False) []) [] (L2.start N vs) H t := I1.call' (ch := []) (hos.trans os1.symm) (Un.kept kpt) (I1.hok.kept kpt) hba fun b z => by simp at z
    have hea : t.heap.get? s1.heap.objs.size = some go := hkt s1.heap.objs.size go hpushed
    have young : ∀ b, s1.heap.objs.size ≤ b → H b = none ∧ b ≠ s.heap.objs.size ∧ b ∉ frs outer := fun b hb => ⟨I1.hok.fresh hb, Nat.ne_of_gt (Nat.lt_of_lt_of_le lt1 hb), I1.nofs hb⟩
    have I3 : Inv (gcxOf P w K mg base N qual scope f cdv Aw outer s H (fun _ _ _ => False) [(s1.heap.objs.size, go)]) (pinsAt ws t.heap) (L2.start N vs) H t := Inv.pinnedG I2 fun p hp => by
      rcases List.mem_append.mp hp with z | z
      · rw [List.mem_singleton.mp z]
        obtain ⟨y1, y2, y3⟩ := young s1.heap.objs.size (Nat.le_refl _)
        exact ⟨hea, y1, y2, y3, fun v q => by rw [hgd0] at q; cases q⟩
      · obtain ⟨hb, e⟩ := of_pinsAt z
        obtain ⟨y1, y2, y3⟩ := young p.1 (Nat.le_of_lt (hws' p.1 hb))
        obtain ⟨o, e2, hd⟩ := hwo p.1 hb
        rw [e] at e2
        cases e2
        exact ⟨e, y1, y2, y3, hd⟩
    obtain ⟨ty, hty, hq⟩ := hbody Aw outer s H vs xs Q [(s1.heap.objs.size, go)] (hrw.deeper _) hsp
    have hcs : cStatics < s.heap.objs.size := by
      obtain ⟨mc, hns, _⟩ := lim
      exact hns.lt
    have offA : s1.heap.objs.size ∉ ws := fun hm => absurd (hws' _ hm) (Nat.lt_irrefl _)
    have Y : YX (gcxOf P w K mg base N qual scope f cdv Aw outer s H (fun _ _ _ => False) [(s1.heap.objs.size, go)]).nox ws s1.heap.objs.size go :=
      ⟨rfl, List.mem_singleton.mpr rfl, fun p hp => by rw [List.mem_singleton.mp hp]; exact offA, fun b hb => Nat.le_trans (Nat.le_of_lt lt1) (Nat.le_of_lt (hws' b hb)), fun _ _ h => h, rfl⟩
    refine seg_func ?_
    refine hty.run ws [] s1.heap.objs.size go xs Q Aw _ xs.length 0 t _ _ _ _ id id t (L2.start N vs) H _ Y ⟨?_, rfl, rfl, rfl⟩ (Nat.add_zero _) (fun n i s₀ s' fl hn hs => ?_) ⟨by rw [List.append_nil]; exact I3.wish _, hwo, fun p hp => nomatch hp⟩ hq
    · rw [over_func]
      rfl
    · cases fl with
      | next =>
        obtain ⟨σ', H', r', hi, hQ⟩ := hs
        refine seg_end (.ok (.ret .none)) ⟨.inl rfl, by omega, H', r'.cn Y, hQ, r'.same⟩
      | brk => obtain ⟨_, _, _, z⟩ := hs; exact z.elim
      | cont => obtain ⟨_, _, _, z⟩ := hs; exact z.elim
      | ret u => exact hs.elim
  exact main _ _ _ _ rfl rfl rfl fun h => Heap.get?_push_size _ rfl
variable {x qual : Str} {st : Stmt} {N : List Str} {f : Addr} {k : Nat}
/-- a generator def of any body -/
theorem DefAt.okYB {ps : List Str} {sp : SpY} (D : DefAt K x qual st f ps) (S : GScope N ps (defScope st)) (len : ∀ vs H xs Q, sp vs H xs Q → vs.length = ps.length)
    (hb : ∀ (cdv : Value) (A : Around) (outer : List Env) (s : Shared) (H : Hp) (vs xs : List V) (Q : Hp → Prop) (pn : List (Addr × Obj)), Room k (A.deeper (envOfC qual (defScope st) s.heap.objs.size f cdv)) → sp vs H xs Q →
      ∃ t, YSs (gcxOf P w K mg base N qual (defScope st) f cdv A outer s H (fun _ _ _ => False) pn).nox (defBody st) t ∧ t xs Q { nx := fun i _ H' => i = xs.length ∧ Q H' } 0 (L2.start N vs) H) : YFn P w K mg base (k + 1) f sp := by
  obtain ⟨fd, F, hbi⟩ := D.fn
  obtain ⟨oc, od, kV, doc, pm, an, cdv, ct, osl, rfl, lk, hcd⟩ := F.ex
  exact yfn_body lk hcd S hbi len fun A outer s H vs xs Q pn hr hsp => hb cdv A outer s H vs xs Q pn hr hsp
end
end BJ

/-! a generator's loop over a list; the items of a dict -/
namespace BJ
open PySem PySem.Spec PyProof.Rows L2 Evl
open PySem.W (Frag)
theorem yfor_list {K : Frag} {a : Addr} {ys xs : List V} {g : TG} {tb : TYs} {Q : Hp → Prop} {D : YEnds} {i0 : Nat} {σ : L2.St} {H : Hp} (Pv : Nat → Nat → L2.St → Hp → Prop) (h0 : Pv 0 i0 σ H) (hl : ∀ k i σ H, k ≤ ys.length → Pv k i σ H → SqL K H a ys)
    (hs : ∀ k x i σ H, ys[k]? = some x → Pv k i σ H → g x σ H fun σ2 H2 => tb xs Q { nx := Pv (k + 1), ct := Pv (k + 1), bk := D.nx } i σ2 H2) (hd : ∀ i σ H, Pv ys.length i σ H → D.nx i σ H) :
    ∃ W : Nat → Nat → Nat → L2.St → Hp → Prop, (∃ m, W 0 m i0 σ H) ∧ ∀ k m i σ H, W k m i σ H → ((Itl K a).stop k H ∧ D.nx i σ H) ∨ ((Itl K a).go k H ∧ ∃ N : Nat → L2.St → Hp → Prop, (∀ i' σ' H', N i' σ' H' → ∃ m', m' < m ∧ W (k + 1) m' i' σ' H') ∧
      ∀ x H', (Itl K a).yld k H x H' → g x σ H' fun σ2 H2 => tb xs Q { nx := N, ct := N, bk := D.nx } i σ2 H2) := by
  refine ⟨fun k m i σ H => m = ys.length - k ∧ k ≤ ys.length ∧ Pv k i σ H, ⟨ys.length, rfl, Nat.zero_le _, h0⟩, ?_⟩
  rintro k m i σ H ⟨rfl, hk, p⟩
  have q := hl k i σ H hk p
  rcases Nat.lt_or_ge k ys.length with hlt | hge
  · refine .inr ⟨⟨ys, ys[k], q, List.getElem?_eq_getElem hlt⟩, Pv (k + 1), fun i' σ' H' p' => ⟨ys.length - (k + 1), by omega, rfl, hlt, p'⟩, fun x H' y => ?_⟩
    obtain ⟨e, y⟩ := y
    subst e
    exact hs k x i σ _ (y ys q) p
  · obtain rfl : k = ys.length := by omega
    exact .inl ⟨⟨ys, q, Nat.le_refl _⟩, hd i σ H p⟩
/-- the tuples at ts hold the entries of a dict -/
def Prs (H : Hp) (ts : List Addr) (kvs : List (Key × V)) : Prop := Paired (fun (t : Addr) (q : Key × V) => H t = some (.tup [kV q.1, q.2])) ts kvs
theorem Prs.ex {H H' : Hp} (e : Ex H H') : ∀ {ts : List Addr} {kvs : List (Key × V)}, Prs H ts kvs → Prs H' ts kvs
  | _, _, .nil => .nil
  | _, _, .cons h t => .cons (e _ _ h) (Prs.ex e t)
theorem Prs.keep {H H' : Hp} : ∀ {ts : List Addr} {kvs : List (Key × V)}, Prs H ts kvs → (∀ t ∈ ts, ∀ o, H t = some o → H' t = some o) → Prs H' ts kvs
  | _, _, .nil, _ => .nil
  | _, _, .cons h t, k => .cons (k _ List.mem_cons_self _ h) (Prs.keep t fun t ht => k t (List.mem_cons_of_mem _ ht))
/-- what was locked is as it was -/
theorem ex_unlock {H H' : Hp} {d : Addr} {u v : HO} (hd : H d = some u) (e : Ex (upd H d v) H') : Ex H (upd H' d u) := fun b o hb => by
  by_cases h : b = d
  · rw [h] at hb ⊢
    rw [hd] at hb
    cases hb
    exact upd_same
  · rw [upd_ne h]
    exact e b o (by rw [upd_ne h]; exact hb)
theorem Prs.len {H : Hp} {ts : List Addr} {kvs : List (Key × V)} (h : Prs H ts kvs) : ts.length = kvs.length := Paired.length h
theorem Prs.snoc {H : Hp} {t : Addr} {q : Key × V} (ht : H t = some (.tup [kV q.1, q.2])) : ∀ {ts : List Addr} {kvs : List (Key × V)}, Prs H ts kvs → Prs H (ts ++ [t]) (kvs ++ [q])
  | _, _, .nil => .cons ht .nil
  | _, _, .cons h r => .cons h (Prs.snoc ht r)
theorem Prs.get {H : Hp} : ∀ {ts : List Addr} {kvs : List (Key × V)}, Prs H ts kvs → ∀ (i : Nat) (q : Key × V), kvs[i]? = some q → ∃ t, ts[i]? = some t ∧ H t = some (.tup [kV q.1, q.2])
  | _, _, .nil => fun i q h => nomatch h
  | _, _, .cons h r => fun i q hq => by
    cases i with
    | zero => cases hq; exact ⟨_, rfl, h⟩
    | succ i => exact Prs.get r i q hq
/-- keys and values, one behind another -/
def flatK : List (Key × V) → List V
  | [] => []
  | q :: r => kV q.1 :: q.2 :: flatK r
theorem flatK_len : ∀ kvs : List (Key × V), (flatK kvs).length = 2 * kvs.length
  | [] => rfl
  | q :: r => by
    show (flatK r).length + 1 + 1 = 2 * (r.length + 1)
    rw [flatK_len r]
    omega
theorem flatK_get : ∀ (kvs : List (Key × V)) (k : Nat) (q : Key × V), kvs[k]? = some q → (flatK kvs)[2 * k]? = some (kV q.1) ∧ (flatK kvs)[2 * k + 1]? = some q.2
  | [], k, q, h => nomatch h
  | p :: r, 0, q, h => by
    cases h
    exact ⟨rfl, rfl⟩
  | p :: r, k + 1, q, h => by
    obtain ⟨h1, h2⟩ := flatK_get r k q h
    rw [show 2 * (k + 1) = 2 * k + 1 + 1 by omega]
    exact ⟨h1, h2⟩
end BJ

/-! y = [x for x in g] where g is such a generator -/
namespace BJ
open PySem PySem.Spec PyProof.Rows L2 Evl GenW
open PySem.W (Frag)
section
variable {X : Cx} {k : Nat} {iter : Expr} {ty : TYx} {x : Str} {p1 p2 pos : Pos} {scope : Scope}
theorem ps_setLcY {i : Nat} {y : Str} {py spos : Pos} (hc : X.calm = true) (hN : X.N.Nodup) (hy : X.N[i]? = some y) (hyl : X.env.scope.names.lookup y = some .local)
    (hsw : swapsWith (.ListComp (.Name x p1) [⟨.Name x p2, iter, [], 0⟩] scope pos) (some (.Name y py)) spos.line X.env = pure true)
    (h : PY X k iter ty) (hr : Room (k + 1) X.A) (hk : scope.kind = .function) (hn : scope.names = [((".0" : Str), NameKind.local), (x, NameKind.local)]) (hx0 : (x == (".0" : Str)) = false := by decide) (hd : (x == ("__debug__" : Str)) = false := by decide)
    (hs : ∀ y, foldedSetIterable iter X.env y = pure y := by intro _; rfl) : PS X (.Assign [.Name y py] (.ListComp (.Name x p1) [⟨.Name x p2, iter, [], 0⟩] scope pos) spos) (tAsg (tLcY ty) (gName i)) := by
  refine ⟨fun pins s σ H Dn I hq => ?_⟩
  have hq : ty σ H (fun xs H1 => xs.length ≤ sizeLine ∧ ∀ D, H1 D = none → sysModules < D → Dn.nx (σ.set i (some (.ref D))) (upd H1 D (.lst xs))) := hq
  have lk0 : scope.names.lookup (".0" : Str) = some .local := by rw [hn]; rfl
  have lkx : scope.names.lookup x = some .local := by rw [hn, List.lookup_cons, hx0, List.lookup_cons_self]
  have hfree : ∀ z ∈ scope.names, z.2 ≠ .free := fun y hy => by
    rw [hn] at hy
    simp only [List.mem_cons, List.not_mem_nil, or_false] at hy
    rcases hy with rfl | rfl <;> exact fun z => nomatch z
  have hnames : ∀ z ∈ scope.names, z.2 = .local → scope.names.lookup z.1 = some .local := fun y hy e => by
    rw [hn] at hy
    simp only [List.mem_cons, List.not_mem_nil, or_false] at hy
    rcases hy with rfl | rfl
    · exact lk0
    · exact lkx
  rw [exec_Assign_Name_used _ _ _ _ hsw]
  refine wpAny_bind (wpAny_standAt (wpAny_bind ?_))
  show wpAny _ X.A (do let _ ← comprehension (.ListComp (.Name x p1) [⟨.Name x p2, iter, [], 0⟩] scope pos) scope X.env (firstIterPos [⟨.Name x p2, iter, [], 0⟩] pos) (newList []) false (eval iter X.env) (some (assign (.Name y py) X.env))) _ _ s
  refine wpAny_bind (thn (wpAny_comprehension_free (use := some (assign (.Name y py) X.env)) (Q := fun _ s' => SP X pins Dn .next s') rfl hs (closureFor_none hfree) hk hnames (thn (h.run pins s σ H _ I hq) fun u s1 hu => ?_)) fun _ s' hq => wpAny_pure (wpAny_pure hq))
  obtain ⟨sc, H1, xs, Ic, a, g, c, go, rfl, ha1, ha2, hgo, hgen, hgs, hos, hb, hl, hkp, wake⟩ := hu
  refine wpAny_pyIter_gen (hgen _ hgo) ?_
  refine wpAny_newObj_type (newEnv_comp ?_) (by show 0 ≤ sizeLine; decide)
  have hcs : cStatics < s1.heap.objs.size := by
    obtain ⟨mc, hns, _⟩ := hl
    exact hns.lt
  have hsz : sc.heap.objs.size ≤ s1.heap.objs.size := Nat.le_of_lt (Nat.lt_of_le_of_lt ha1 ha2)
  generalize hD : s1.heap.objs.size = D at *
  have zC : (s1.heap.push ({ cls := .type "list", data := .seq ([] : List Value).toArray } : Obj)).objs.size = D + 1 := by rw [Heap.size_push, hD]
  have ec : ∀ (n : Nat), cellsFrom n scope.names [] = [] := fun n => by rw [hn]; rfl
  have pc : ∀ hh : Heap, pushCells hh scope.names = hh := fun hh => by rw [hn]; rfl
  show codeAny _ _ (.compStart _ 0 (.ref a) (.ref D) { newEnv scope (s1.heap.push ({ cls := .type "list", data := .seq ([] : List Value).toArray } : Obj)).objs.size X.env.globals (cellsFrom ((s1.heap.push ({ cls := .type "list", data := .seq ([] : List Value).toArray } : Obj)).objs.size + 1) scope.names []) X.env.qual none .none (some X.env) builtinsNs with scope := relabel scope X.env }) _
    { s1 with heap := pushCells ((s1.heap.push ({ cls := .type "list", data := .seq ([] : List Value).toArray } : Obj)).push { cls := .type "dict", data := .dict #[] }) scope.names }
  rw [zC, ec, pc]
  generalize hce : ({ newEnv scope (D + 1) X.env.globals [] X.env.qual none .none (some X.env) builtinsNs with scope := relabel scope X.env } : Env) = ce
  have cL : ce.locals = D + 1 := by rw [← hce]; rfl
  have csc : ce.scope = relabel scope X.env := by rw [← hce]
  have csk : ce.scope.kind = .function := by rw [csc]; exact hk
  have hko : ce.kindOf x = some .local := by
    unfold Env.kindOf
    rw [csc]
    exact lookup_relabel_local lkx
  generalize hh4 : (s1.heap.push ({ cls := .type "list", data := .seq ([] : List Value).toArray } : Obj)).push { cls := .type "dict", data := .dict #[] } = h4
  have k4 : ∀ b o, s1.heap.get? b = some o → h4.get? b = some o := fun b o e => by rw [← hh4]; exact Heap.get?_push_of_some _ (Heap.get?_push_of_some _ e)
  have gD : h4.get? D = some (lstObj #[] 0) := by
    rw [← hh4, ← hD]
    exact Heap.get?_push_of_some _ (Heap.get?_push_size _ rfl)
  have gC : h4.get? (D + 1) = some { cls := .type "dict", data := .dict #[] } := by
    rw [← hh4, ← zC]
    exact Heap.get?_push_size _ rfl
  have nC : h4.Ns (D + 1) (fun _ => none) := ⟨_, #[], _, gC, rfl, fun e he => absurd he (by simp), fun _ => rfl⟩
  have hcalm : X.A.handled = none := I.ok.hd hc
  -- the run's end, its steps
  have Dne : D ≠ cStatics := Nat.ne_of_gt hcs
  have Cne : D + 1 ≠ cStatics := Nat.ne_of_gt (Nat.lt_succ_of_lt hcs)
  have aD : a ≠ D := Nat.ne_of_lt ha2
  have aC : a ≠ D + 1 := Nat.ne_of_lt (Nat.lt_succ_of_lt ha2)
  let F : Nat → Shared → Shared → Prop := fun n s₀ s => n = 0 ∧ ∃ H', Cn X.prog X.w X.stack H1 H' sc [D, D + 1] a go s ∧ (xs.length ≤ sizeLine ∧ ∀ D, H' D = none → sysModules < D → Dn.nx (σ.set i (some (.ref D))) (upd H' D (.lst xs))) ∧ ∀ b ∈ [D, D + 1], ∀ o, s₀.heap.get? b = some o → s.heap.get? b = some o
  let R' : GenEnd := fun n s₀ r s => ((r = .ok (.ret .none) ∨ r = .ok .next) ∧ F n s₀ s) ∨ ∃ e, r = .error e ∧ False
  let Y' : Protocol := YItm X.prog X.w X.stack H1 sc [D, D + 1] a go xs fun H' => xs.length ≤ sizeLine ∧ ∀ D, H' D = none → sysModules < D → Dn.nx (σ.set i (some (.ref D))) (upd H' D (.lst xs))
  have wf : ∀ b ∈ [D, D + 1], sc.heap.objs.size ≤ b ∧ b ≠ cStatics ∧ b ≠ a := fun b hb => by
    simp only [List.mem_cons, List.not_mem_nil, or_false] at hb
    rcases hb with rfl | rfl
    · exact ⟨hsz, Dne, aD.symm⟩
    · exact ⟨Nat.le_succ_of_le hsz, Cne, aC.symm⟩
  let LI : Nat → Shared → Prop := fun n t => n ≤ xs.length ∧ ∃ (acc : Array Value) (cc : Nat) (m : Str → Option Value) (gs : GenState), t.heap.get? D = some (lstObj acc cc) ∧ Vals (xs.take (xs.length - n)) acc.toList ∧ t.heap.Ns (D + 1) m ∧ t.heap.get? a = some go ∧ t.heap.NoLimit ∧
    t.gens[g]? = some gs ∧ gs.Goes (model X.prog X.w) X.A.in1 R' Y' n (.send .none) (t.setGen g .running)
  have gsz : g < s1.gens.size := (Array.getElem?_eq_some_iff.mp hgs).1
  have start : LI xs.length { s1 with heap := h4 } := by
    refine ⟨Nat.le_refl _, #[], 0, _, _, gD, by rw [Nat.sub_self]; exact .nil, nC, k4 _ _ hgo, hl.keeps k4, hgs, rfl, ?_⟩
    have w0 := wake X.A.in1 [D, D + 1] ({ s1 with heap := h4 }.setGen g .running) hr.in1 (show X.A.in1.frames = some X.stack from I.ok.frames) (fun b hb => ?_) k4 (fun b hb => ?_) hos (allBare_setGen (s := { s1 with heap := h4 }) hb rfl)
    · exact seg_imp (fun n s₀ r s hR => .inl ⟨hR.1, hR.2.1, hR.2.2⟩) (fun n s₀ v s kap kap' hkk hY => by
        obtain ⟨x, H', y1, y2, y3, y4, y5, y6, y7⟩ := hY
        exact ⟨x, H', y1, y2, y3, y4, y5, y6, fun t z => hkk _ _ (y7 t z)⟩) _ w0
    · simp only [List.mem_cons, List.not_mem_nil, or_false] at hb
      rcases hb with rfl | rfl
      · exact Nat.le_refl _
      · exact Nat.le_succ _
    · simp only [List.mem_cons, List.not_mem_nil, or_false] at hb
      rcases hb with rfl | rfl
      · exact ⟨_, gD, fun v z => nomatch z⟩
      · exact ⟨_, gC, fun v z => nomatch z⟩
  have loop : codeAny (model X.prog X.w) X.A (.compLoop (.ListComp (.Name x p1) [⟨.Name x p2, iter, [], 0⟩] scope pos) 0 (.ref a) (.ref D) ce) (compPost (model X.prog X.w) X.A X.xe (some (assign (.Name y py) X.env)) (fun _ s' => SP X pins Dn .next s') (.ref D) (D + 1)) { s1 with heap := h4 } := by
    refine compLoop_any LI ?_ xs.length start
    rintro n t ⟨hnl, acc, cc, m, gs, tD, tV, tN, ta, tl, tg, tgo⟩
    have tsz := (Array.getElem?_eq_some_iff.mp tg).1
    have mD : D ∈ [D, D + 1] := List.mem_cons_self
    have mC : D + 1 ∈ [D, D + 1] := List.mem_cons_of_mem _ List.mem_cons_self
    refine wpAny_gsz (n := g + 1) tsz (next_genG (F := F) (Er := fun _ _ => False) (Y := Y') hcalm tl hr.depth (hgen _ ta) tg tgo (fun v s₁ gs' hbare hY => ?_) (fun s₁ hF h' hk' => ?_) fun e s₁ he => he.elim)
    · intro hsz2
      obtain ⟨y, H', y1, y2, y3, y4, y5, y6, y7⟩ := hY
      cases n with
      | zero => exact (show False from y7 s₁ ⟨rfl, y4.bare, fun _ _ _ e => e, two_there (y6 D mD _ tD) (let ⟨o, es, ep, ho, r⟩ := tN; ⟨o, es, ep, y6 (D + 1) mC _ ho, r⟩)⟩).elim
      | succ n =>
        have e1 : xs.length - (n + 1 - 1 + 1) = xs.length - (n + 1) := by omega
        rw [e1] at y1
        have gD1 : s₁.heap.get? D = some (lstObj acc cc) := y6 D mD _ tD
        have nC1 : s₁.heap.Ns (D + 1) m := by
          obtain ⟨o, es, ep, ho, r⟩ := tN
          exact ⟨o, es, ep, y6 (D + 1) mC _ ho, r⟩
        have al : acc.size = xs.length - (n + 1) := by
          have q1 := tV.length
          rw [List.length_take] at q1
          have q2 : acc.toList.length = acc.size := by simp
          omega
        refine wpAny_pure ?_
        refine wpAny_assign_Name (wpAny_storeName_local hko (m := m) (by rw [cL]; exact nC1) (fun h' hn' sb => ?_) (by rw [csk]; rfl))
        rw [cL] at hn' sb
        refine wpAny_tests_nil ?_
        rw [if_pos rfl]
        refine wpAny_Name (wpAny_loadName_local (m := fun z => if z = x then some v else m z) (v := v) csk hko (by rw [cL]; exact hn') (if_pos rfl) ?_) hd
        have gD2 : h'.get? D = some (lstObj acc cc) := (sb.2 D (Nat.ne_of_lt (Nat.lt_succ_self _))).trans gD1
        refine append_at (hsz := by have := y5.1; omega) gD2 fun h2 sb2 hD2 => ⟨n, Nat.lt_succ_self _, ?_⟩
        have g1 : g < s₁.gens.size := by
          have q := setGen_size s₁ g gs'
          have q2 : g + 1 ≤ (s₁.setGen g gs').gens.size := hsz2
          omega
        have keep : ∀ b o, b ∉ [D, D + 1] → s₁.heap.get? b = some o → h2.get? b = some o := fun b o hb e => by
          have b1 : b ≠ D := fun z => hb (z ▸ mD)
          have b2 : b ≠ D + 1 := fun z => hb (z ▸ mC)
          exact (sb2.2 b b1).trans ((sb.2 b b2).trans e)
        have aw : a ∉ [D, D + 1] := fun hm => (wf a hm).2.2 rfl
        have etk : xs.take (xs.length - n) = xs.take (xs.length - (n + 1)) ++ [y] := by
          rw [show xs.length - n = xs.length - (n + 1) + 1 by omega, List.take_add_one, y1]
          rfl
        refine ⟨Nat.le_of_succ_le hnl, acc.push v, cc + 1, _, gs', hD2, ?_, hn'.sameBut sb2 (Nat.ne_of_gt (Nat.lt_succ_self _)), keep a go aw y4.gen, ?_, setGen_at g1, ?_⟩
        · rw [etk, Array.toList_push]
          exact tV.append (.cons y2 .nil)
        · obtain ⟨mc, hns, hnn⟩ := y4.lim
          exact ⟨mc, hns.at' fun o e => keep _ o (fun hm => (wf _ hm).2.1 rfl) e, hnn⟩
        · exact y7 _ ⟨rfl, allBare_setGen (allBare_setGen y4.bare hbare) rfl, keep, two_there hD2 (hn'.sameBut sb2 (Nat.ne_of_gt (Nat.lt_succ_self _)))⟩
    · intro hsz2
      obtain ⟨hn0, H', c', ⟨hl1, hq'⟩, same⟩ := hF
      subst hn0
      rw [Nat.sub_zero, List.take_length] at tV
      have gD1 : s₁.heap.get? D = some (lstObj acc cc) := same D mD _ tD
      have nsC : h'.Ns (D + 1) m := by
        obtain ⟨o, es, ep, ho, r⟩ := tN
        exact ⟨o, es, ep, hk' _ _ (same (D + 1) mC _ ho), r⟩
      have gD2 : h'.get? D = some (lstObj acc cc) := hk' _ _ gD1
      have c2 := c'.step (t := { s₁.setGen g .finished with heap := h' }) (ch := [D + 1]) rfl (allBare_setGen c'.bare rfl) (fun b o hb e => hk' _ _ e) (fun b hb => by
        rw [List.mem_singleton.mp hb]
        exact ⟨(wf _ mC).1, c'.off _ mC, (wf _ mC).2.1, (wf _ mC).2.2⟩)
      have I' : Inv X pins σ (upd H' D (.lst xs)) { s₁.setGen g .finished with heap := h' } := Inv.drained Ic hsz hl1 gD2 tV ExOk.nil c2.os c2.bare c2.un c2.hok (c2.off D mD)
      show wpAny _ _ (assign (.Name y py) X.env (.ref D)) _ _ _
      refine wpAny_assign_Name (store_ok2 (v := V.ref D) I' hN hy (.inl hyl) rfl (fun s2 I2 ⟨a2, sb, ha⟩ => ?_) (.inr hyl))
      obtain ⟨f0, f1, f2, f3, f4, f5⟩ := Ic.fpOk (H' := upd H' D (.lst xs)) (b := D + 1) (wf _ mC).1 (by rw [upd_ne (Nat.succ_ne_self D)]; exact c2.off _ mC)
      have haC : D + 1 ≠ a2 := by
        rcases ha with z | z
        · rw [z]; exact f1
        · exact fun e => f4 y a2 z e.symm
      refine ⟨m, nsC.sameBut sb haC, fun h3 sb3 => ?_⟩
      exact ⟨_, _, I2.turned (t' := s2.toks) (fun b o hb e => (sb3.2 b hb).trans e) f0 f1 f3 f4 f5, hq' D (c2.off D mD) (Nat.lt_of_lt_of_le Ic.big hsz)⟩
  exact codeAny_compStart_list loop (wpAny_pyIter_gen (hgen _ (k4 _ _ hgo)) loop)
end
end BJ

/-! two lists of the very same elements, compared -/
namespace BJ
open PySem PySem.Spec PyProof.Rows L2 Evl
open PySem.W (Frag)
section
variable {X : Cx} {K : Frag}
/-- such an element equals itself, wherever it stands -/
def oneB : V → Bool | .str _ => true | .int _ => true | .non => true | .bl _ => true | .ref _ => true | _ => false
theorem eq_one {A : Around} {s : Shared} {v : V} {u u2 : Value} (h : oneB v = true) (r : RelV v u) (r2 : RelV v u2) : SeqAt.EqAt A s u u2 true := by
  cases v with
  | non => cases r; cases r2; exact SeqAt.EqAt.same _
  | bl b => cases r; cases r2; exact SeqAt.EqAt.same _
  | ref p => cases r; cases r2; exact SeqAt.EqAt.same _
  | int i =>
    obtain ⟨t, rfl⟩ := id r
    obtain ⟨t2, rfl⟩ := id r2
    have := SeqAt.EqAt.int_int (A := A) (s := s) i t i t2
    rwa [beq_self_eq_true] at this
  | str z =>
    obtain ⟨t, rfl⟩ := id r
    obtain ⟨t2, rfl⟩ := id r2
    have := SeqAt.EqAt.str_str (A := A) (s := s) z t z t2
    rwa [beq_self_eq_true] at this
  | _ => cases h
def rNeIds (K : Frag) : R2 := fun x y H Q => ∃ p q xs, x = .ref p ∧ y = .ref q ∧ SqL K H p xs ∧ SqL K H q xs ∧ (∀ v ∈ xs, oneB v = true) ∧ Q (.bl false) H
theorem op_neIds (hK : X.K = K) (hu : X.A.units < cLine) : OpR X (compareOp .NotEq) (rNeIds K) := by
  subst hK
  rintro pins s σ H x y v u Q I rx ry ⟨p, p2, xs, rfl, rfl, hs, hs2, ho, q⟩
  cases rx
  cases ry
  obtain ⟨us, r1, p1, _⟩ := I.list hs
  obtain ⟨ws, r2, p2, _⟩ := I.list hs2
  have hl : us.length = ws.length := by rw [← r1.length, r2.length]
  refine SeqAt.RcNeAt.lists (e := fun _ => true) p1.isList p2.isList (by rw [List.size_toArray, List.size_toArray, hl]) hu (fun j h1 h2 => ?_) X.prog X.w _ _ ?_
  · have h1' : j < us.length := by simpa using h1
    have hx : j < xs.length := by rw [r1.length]; exact h1'
    obtain ⟨u1, g1, e1⟩ := Vals.get r1 (List.getElem?_eq_getElem hx)
    obtain ⟨u2, g2, e2⟩ := Vals.get r2 (List.getElem?_eq_getElem hx)
    have q1 : us.toArray[j] = u1 := by rw [List.getElem_toArray]; exact (List.getElem?_eq_some_iff.mp g1).2
    have q2 : ws.toArray[j] = u2 := by rw [List.getElem_toArray]; exact (List.getElem?_eq_some_iff.mp g2).2
    rw [q1, q2]
    exact eq_one (ho _ (List.getElem_mem hx)) e1 e2
  · refine ⟨.bl false, H, I, ?_, q⟩
    rw [show ((List.range us.toArray.size).all fun _ => true) = true from List.all_eq_true.mpr fun _ _ => rfl]
    rfl
end
end BJ

/-! instances that are called: v(e, .., k = w, ..) where v is an expression that gives an instance whose class has __call__ -/
namespace BJ
open PySem PySem.Spec PyProof.Rows L2 Evl
open PySem.W (Frag)
section
variable {X : Cx} {W : WX} {e fe : Expr} {es : List Expr} {kws : List Keyword} {tf : TE} {t tk : TA} {pos : Pos} {ks : List Str}
/-- the instance's class and the promise of its __call__ are told by the reading -/
def tIc (X : Cx) (W : WX) (tf : TE) (t tk : TA) (ks : List Str) : TE := fun σ H Q => tf σ H fun x H1 => ∃ (a C dx g : Addr) (fs : List (Str × V)) (k : Nat) (spk : SpK), x = .ref a ∧ H1 a = some (.ins C dx fs) ∧ StX.CallO X.K C g ∧
  CallX X.prog X.w X.K X.mg X.base k (.ref g) ks spk ∧ Room k X.A ∧ t σ H1 fun vs H2 => tk σ H2 fun zs H3 => (∃ fs', H3 a = some (.ins C dx fs')) ∧ spk (x :: vs) zs H3 Q fun cls d H' => W cls d σ H'
theorem run_ic {pins : List (Addr × Obj)} {σ : L2.St} {H : Hp} {s : Shared} {Q : VK} {a g C dx : Addr} {fs : List (Str × V)} {k : Nat} {spk : SpK} {us ws : List Value} {vs zs : List V} (c : StX.CallO X.K C g) (F : CallX X.prog X.w X.K X.mg X.base k (.ref g) ks spk) (hr : Room k X.A) (tkW : Takes X W)
    (I : Inv X pins σ H s) (hi : H a = some (.ins C dx fs)) (r : Vals vs us) (rz : Vals zs ws) (h : spk (.ref a :: vs) zs H Q fun cls d H' => W cls d σ H') :
    (∃ C ox od, PySem.W.InstAt s.heap a ox C od ∧ ox.data = .plain) ∧ wpAny (model X.prog X.w) X.A (call (.ref a) us (ks.zip ws)) (EP X pins σ Q) X.xe s := by
  obtain ⟨ox, od, J, hd⟩ := StX.insC_at I (C := C) (.inr ⟨dx, fs, hi⟩)
  refine ⟨⟨C, ox, od, J, hd⟩, wpAny_call (PySem.W.kco_code I.kIn J hd c.at_ c.fn c.fi ?_)⟩
  refine codeAny_mono (F X.A X.stack s H (.ref a :: us) ws (.ref a :: vs) zs Q _ hr I.env0 (.cons rfl r) rz h) ?_
  intro res s' hq
  match res, hq with
  | .error e, hq => exact tkW e s' (XE.of_call I (fun _ _ _ z => z) hq)
  | .ok (.ret u), hq => exact I.after hq
/-- the callee is an instance: whatever stands there behind the arguments -/
theorem inst_call {M : Model} {A : Around} {E : Value → Shared → Prop} {s : Shared} {a : Addr} {Q : Value → Shared → Prop} {args : List (Bool × Sem Value)} {kwa : List (Option Str × Sem Value)}
    (hp : (args.any (·.1) || kwa.any (·.1.isNone)) = false)
    (h : wpAny M A (evalArgs (.ref a) true args kwa) (fun z s1 => (∃ C ox od, PySem.W.InstAt s1.heap a ox C od ∧ ox.data = .plain) ∧ wpAny M A (call (.ref a) ([] ++ z.pos) z.kw) Q E s1) E s) :
    wpAny M A (callWith pos (.ref a) [] args kwa) Q E s := by
  unfold callWith
  apply wpAny_bind
  apply wpAny_holding
  refine wpAny_mono h ?_ fun _ _ y => y
  rintro z s1 ⟨⟨C, ox, od, J, hd⟩, hc⟩
  apply wpAny_bind
  apply wpAny_standAt
  have K1 := PySem.W.kco_keeper (M := M) J hd
  simp only [hp]
  refine wpAny_bind (K1.here ?_)
  refine wpAny_bind (wpAny_mono (wpAny_operateT hc) ?_ fun _ _ y => y)
  intro r s2 hr
  apply wpAny_bind
  apply wpAny_holding
  exact wpAny_point (wpAny_pure hr)
theorem pe_ic (hf : PE X fe tf) (tkW : Takes X W) (ha : PA X (e :: es) t) (hkw : PK X kws tk)
    (hall : (backToKw pos (keywordEach kws X.env)).all (·.1.isSome) = true := by rfl) (hks : (backToKw pos (keywordEach kws X.env)).filterMap (·.1) = ks := by rfl)
    (hst : starEach (e :: es) X.env = (false, eval e X.env) :: starEach es X.env := by rfl)
    (hpl : ((backTo pos (starEach (e :: es) X.env)).any (·.1) || (backToKw pos (keywordEach kws X.env)).any (·.1.isNone)) = false := by rfl)
    (ht : eval (.Call fe (e :: es) kws pos) X.env = (do callWith pos (← eval fe X.env) [] (backTo pos (starEach (e :: es) X.env)) (backToKw pos (keywordEach kws X.env))) := by rfl) :
    PE X (.Call fe (e :: es) kws pos) (tIc X W tf t tk ks) := by
  refine ⟨fun pins s σ H Q I h => ?_⟩
  rw [ht]
  refine wpAny_bind (thn (hf.run pins s σ H _ I h) fun u s1 ⟨y, H1, I1, ry, a, C, dx, g, fs, k, spk, ey, ea, c, F, hr, q⟩ => ?_)
  subst ey
  obtain rfl : u = Value.ref a := ry
  refine inst_call hpl ?_
  refine PyProof.Rows.evalArgs_kw2 hall (thn (ha.run pos pins s1 σ H1 _ I1 q) fun us s2 ⟨vs, H2, I2, r, q2⟩ => ?_) hst
  refine thn (hkw.run pos pins s2 σ H2 _ I2 q2) ?_
  rintro ws s3 ⟨zs, H3, I3, rz, ⟨fs', ha3⟩, q3⟩
  rw [hks]
  exact run_ic c F hr tkW I3 ha3 r rz q3
theorem pe_ic0 (hf : PE X fe tf) (tkW : Takes X W) (hkw : PK X kws tk)
    (hall : (backToKw pos (keywordEach kws X.env)).all (·.1.isSome) = true := by rfl) (hks : (backToKw pos (keywordEach kws X.env)).filterMap (·.1) = ks := by rfl)
    (hpl : ((backTo pos (starEach [] X.env)).any (·.1) || (backToKw pos (keywordEach kws X.env)).any (·.1.isNone)) = false := by rfl)
    (ht : eval (.Call fe [] kws pos) X.env = (do callWith pos (← eval fe X.env) [] (backTo pos (starEach [] X.env)) (backToKw pos (keywordEach kws X.env))) := by rfl) :
    PE X (.Call fe [] kws pos) (tIc X W tf tNil tk ks) := by
  refine ⟨fun pins s σ H Q I h => ?_⟩
  rw [ht]
  refine wpAny_bind (thn (hf.run pins s σ H _ I h) fun u s1 ⟨y, H1, I1, ry, a, C, dx, g, fs, k, spk, ey, ea, c, F, hr, q⟩ => ?_)
  subst ey
  obtain rfl : u = Value.ref a := ry
  refine inst_call hpl ?_
  refine PyProof.Rows.evalArgs_kw2_nil hall (thn (hkw.run pos pins s1 σ H1 _ I1 q) ?_)
  rintro ws s3 ⟨zs, H3, I3, rz, ⟨fs', ha3⟩, q3⟩
  rw [hks]
  exact run_ic c F hr tkW I3 ha3 .nil rz q3
end
end BJ

/-! C() of a class that has no __init__ but object's -/
namespace BJ
open PySem PySem.Spec PyProof.Rows L2 Evl StX ClX
open PySem.W (Frag)
structure Mk0 (K : Frag) (C : Addr) : Prop where
  makes : PySem.W.makesIn K C = true
  init : PySem.W.findIn K (.ref C) "__init__" = some (some (.builtin "object.__init__"))
section
variable {P : Program} {w : World} {K : Frag} {mg : Str → Option Value} {base : Heap}
theorem CallX.make0 {C : Addr} (M : Mk0 K C) : CallX P w K mg base 1 (.ref C) [] fun vs zs H Q E => vs = [] ∧ zs = [] ∧ ∀ x dx, H x = none → H dx = none → dx ≠ x → Q (.ref x) (upd (upd H dx (.own x)) x (.ins C dx [])) := by
  rintro A outer s H us ws vs zs Q E hr e0 r rz ⟨rfl, rfl, h⟩
  cases r
  cases rz
  have KX : K.In s.heap := e0.mod.kin.keeps fun b o e => (e0.bs b o e).1
  have n1 : H s.heap.objs.size = none := e0.hok.fresh (Nat.le_refl _)
  have n2 : H (s.heap.objs.size + 1) = none := e0.hok.fresh (Nat.le_succ _)
  have hq := h (s.heap.objs.size + 1) s.heap.objs.size n2 n1 (Nat.ne_of_lt (Nat.lt_succ_self _))
  have e1' : (s.heap.push PySem.W.emptyDict).get? s.heap.objs.size = some PySem.W.emptyDict := Heap.get?_push_size s.heap rfl
  have z1 : (s.heap.push PySem.W.emptyDict).objs.size = s.heap.objs.size + 1 := Heap.size_push _ _
  have e2' : ((s.heap.push PySem.W.emptyDict).push (PySem.W.instObj C s.heap.objs.size)).get? (s.heap.objs.size + 1) = some (PySem.W.instObj C s.heap.objs.size) := by
    have := Heap.get?_push_size (s.heap.push PySem.W.emptyDict) (o := PySem.W.instObj C s.heap.objs.size) rfl
    rwa [Heap.size_push] at this
  have e3 : (s.heap.push PySem.W.emptyDict).Ns s.heap.objs.size (fun _ => none) := ⟨PySem.W.emptyDict, #[], _, e1', rfl, (fun e he => absurd he (by simp)), fun _ => rfl⟩
  have E1 := env0_laid (o := PySem.W.emptyDict) (u := .own (s.heap.objs.size + 1)) e0 ⟨_, e1'⟩
  have ne : s.heap.objs.size ≠ s.heap.objs.size + 1 := Nat.ne_of_lt (Nat.lt_succ_self _)
  have E2 : Env0 P w K mg base A outer { s with heap := (s.heap.push PySem.W.emptyDict).push (PySem.W.instObj C s.heap.objs.size) } (upd (upd H s.heap.objs.size (.own (s.heap.objs.size + 1))) (s.heap.objs.size + 1) (.ins C s.heap.objs.size [])) := by
    have new : ObjOk P w (upd (upd H s.heap.objs.size (.own (s.heap.objs.size + 1))) (s.heap.push PySem.W.emptyDict).objs.size (.ins C s.heap.objs.size [])) ((s.heap.push PySem.W.emptyDict).push (PySem.W.instObj C s.heap.objs.size)) (s.heap.push PySem.W.emptyDict).objs.size (.ins C s.heap.objs.size []) := by
      rw [z1]
      exact ⟨by rw [upd_ne ne, upd_same], Nat.zero_le _, ne, e2', fun _ => none, (Heap.Ns1.of_empty e3).at fun o q => Heap.get?_push_of_some _ q, fun _ => True.intro, fun y hy => absurd rfl hy⟩
    have := env0_laid (s := { s with heap := s.heap.push PySem.W.emptyDict }) (o := PySem.W.instObj C s.heap.objs.size) (u := .ins C s.heap.objs.size []) E1 new
    have e : ({ s with heap := s.heap.push PySem.W.emptyDict } : Shared).heap.objs.size = s.heap.objs.size + 1 := z1
    rw [e] at this
    exact this
  have un : Un (frs outer) [] H (upd (upd H s.heap.objs.size (.own (s.heap.objs.size + 1))) (s.heap.objs.size + 1) (.ins C s.heap.objs.size [])) s.heap ((s.heap.push PySem.W.emptyDict).push (PySem.W.instObj C s.heap.objs.size)) := by
    have u1 := un_laid (fs := frs outer) (s := s) (o := PySem.W.emptyDict) (u := .own (s.heap.objs.size + 1)) n1
    have u2 := un_laid (fs := frs outer) (s := { s with heap := s.heap.push PySem.W.emptyDict }) (H := upd H s.heap.objs.size (.own (s.heap.objs.size + 1))) (o := PySem.W.instObj C s.heap.objs.size) (u := .ins C s.heap.objs.size []) (by
      show upd H s.heap.objs.size (.own (s.heap.objs.size + 1)) (s.heap.push PySem.W.emptyDict).objs.size = none
      rw [z1, upd_ne ne.symm]
      exact n2)
    have e : ({ s with heap := s.heap.push PySem.W.emptyDict } : Shared).heap.objs.size = s.heap.objs.size + 1 := z1
    rw [e] at u2
    exact u1.trans u2
  have Y := PySem.W.makes_of (M := model P w) KX M.makes
  have tI : PySem.W.Looks (model P w) ((s.heap.push PySem.W.emptyDict).push (PySem.W.instObj C s.heap.objs.size)) (typeOf (.ref (s.heap.objs.size + 1))) (.ref C) := (PySem.W.Looks.ld e2').andThen .now
  have tO : PySem.W.Looks (model P w) ((s.heap.push PySem.W.emptyDict).push (PySem.W.instObj C s.heap.objs.size)) (isInstance (.ref (s.heap.objs.size + 1)) (.type "object")) true :=
    tI.andThen (Y.top.keeps fun b o e => Heap.get?_push_of_some _ (Heap.get?_push_of_some _ e))
  refine make_map0 KX M.makes M.init (fun self => PySem.W.Looks.of_pure (PySem.W.oi_bind self)) ?_
  have chk := fun Q2 q2 => @PySem.W.check_slot (model P w) (A.under (.builtin "type.__call__" ⟨[.ref C], []⟩)).in1 (fun e s' => PySem.W.InitBack (s.heap.objs.size + 1) (CR (CX P w) outer P w H s Q E) (.error e) s') { s with heap := (s.heap.push PySem.W.emptyDict).push (PySem.W.instObj C s.heap.objs.size) }
    "object.__init__" "object" "__init__" (.ref (s.heap.objs.size + 1)) [] [] Q2 PySem.W.oi_kind PySem.W.oi_split tO (PySem.W.oi_args _) q2
  refine codeAny_call_builtin PySem.W.oi_plain PySem.W.entry_oi (chk _ ?_)
  rw [PySem.W.oi_run]
  exact wpAny_pure (And.intro rfl (show CR (CX P w) outer P w H s Q E (.ok (.ret (.ref (s.heap.objs.size + 1)))) _ from ⟨V.ref (s.heap.objs.size + 1), _, rfl, E2.bare, un, E2.hok, rfl, hq⟩))
end
end BJ

/-! a field as a target (o.f, p.g = ..) -/
namespace BJ
open PySem PySem.Spec PyProof.Rows L2 Evl
open PySem.W (Frag)
section
variable {X : Cx} {o : Expr} {to : TE} {f : Str} {pos : Pos}
def gFld (K : Frag) (to : TE) (f : Str) : TG := fun v σ H Q => to σ H fun x H1 => ∃ a C dx fs, x = V.ref a ∧ H1 a = some (.ins C dx fs) ∧ Cls K C ∧ NoAttr K C f ∧ fs.length < 1000 ∧ Q σ (upd H1 a (.ins C dx (putF f v fs)))
theorem pg_fld (ho : PE X o to) : PG X (.Attribute o f pos) (gFld X.K to f) := by
  refine ⟨fun pins s σ H v u Q I r h => ?_⟩
  rw [assign_Attribute]
  refine wpAny_bind (wpAny_holding (thn (ho.run pins s σ H _ I h) fun ov s1 ⟨x, H1, I1, r1, a, C, dx, fs, ex, ea, c, n, l, q⟩ => ?_))
  subst ex
  obtain rfl : ov = Value.ref a := r1
  refine wpAny_bind (wpAny_standAt (wpAny_bind (wpAny_holding (setattr_ok I1 ea c n l r fun s2 I2 => ?_))))
  exact wpAny_release ⟨σ, _, I2, q⟩
end
end BJ

/-! != of two instances of one class without an __eq__ or __ne__ of its own -/
namespace BJ
open PySem PySem.Spec PyProof.Rows PySem.SeqAt
open PySem.W (Frag)
section
variable {M : Model} {prog : Program} {w : World} {A : Around} {E : Value → Shared → Prop} {s : Shared} {K : PySem.W.Frag} {x y C : Addr} {ox oy : Obj} {od oe : Option Obj}
theorem ifBound_objNe {args : List Value} {Q : Option Value → Shared → Prop} (X : K.In s.heap) (I : PySem.W.InstAt s.heap x ox C od) (hs : PySem.W.findIn K (.ref C) "__ne__" = some (some (.builtin "object.__ne__")))
    (h : wpAny M A (call (.builtin "object.__ne__") (.ref x :: args)) (fun v => Q (some v)) E s) : wpAny M A (callSpecialIfBound? (.ref x) "__ne__" args) Q E s := by
  have fin := wpAny_bind (wpAny_mono h (fun v s' (h' : Q (some v) s') => wpAny_pure (M := M) (A := A) (E := E) h') fun _ _ h' => h')
  refine wpAny_holding (wpAny_bind (wpAny_bind (wpAny_bind (I.type.here ((PySem.W.looks_findIn X hs).here (wpAny_bind (wpAny_askSetting (wpAny_ite ?_))))))))
  split
  · exact wpAny_bind (wpAny_of_eq (F.cmp_object.ne.bind (.ref x)) (wpAny_pure fin))
  · exact wpAny_tryCatch (wpAny_bind (wpAny_of_eq (F.cmp_object.ne.bind (.ref x)) (wpAny_pure fin)))
theorem objNe_entry {Q : PySem.Fin → Shared → Prop} (hu : A.units < cLine) (X : K.In s.heap) (I : PySem.W.InstAt s.heap x ox C od) (hm : PySem.W.mroIn K C (.type "object") = some true) (hs : PySem.W.findIn K (.ref C) "__eq__" = some (some (.builtin "object.__eq__")))
    (h : Q (.done (.ret (.bool false))) s) : wpAny (model prog w) A (Builtin.«object.__ne__» ⟨[.ref x, .ref x], []⟩) Q E s := by
  unfold Builtin.«object.__ne__»
  refine wpAny_bind ?_
  unfold slotArgs
  refine wpAny_ite_false rfl (wpAny_ite_false rfl (wpAny_pure ?_))
  refine wpAny_bind (wpAny_cRoomFor hu (wpAny_bind ?_))
  refine HN.ifBound_objEq X I hs (wpAny_call (codeAny_call_builtin F.cmp_object.eq.plain F.cmpEntry_eq (PySem.W.check_slot F.cmpKind_eq F.cmpSplit_eq (I.type.andThen (PySem.W.looks_mroIn X hm)) (F.cmpArgs_eq _ _) (objEq_entry_same ?_))))
  exact wpAny_bind (wpAny_pure (wpAny_pure h))
theorem rn_insSame (hu : A.units + 1 < cLine) (X : K.In s.heap) (I : PySem.W.InstAt s.heap x ox C od) (hm : PySem.W.mroIn K C (.type "object") = some true) (hs : PySem.W.findIn K (.ref C) "__eq__" = some (some (.builtin "object.__eq__"))) (hn : PySem.W.findIn K (.ref C) "__ne__" = some (some (.builtin "object.__ne__"))) :
    RcNeAt A s (.ref x) (.ref x) false := fun prog w E Q h => by
  have one : wpAny (model prog w) A (tryCompare (.ref x) "__ne__" (.ref x)) (fun r s' => r = some (.bool false) ∧ s' = s) E s := by
    unfold tryCompare
    refine wpAny_bind (ifBound_objNe X I hn (wpAny_call (codeAny_call_builtin F.cmp_object.ne.plain F.cmpEntry_ne (PySem.W.check_slot F.cmpKind_ne F.cmpSplit_ne (I.type.andThen (PySem.W.looks_mroIn X hm)) (F.cmpArgs_ne _ _) ?_))))
    refine objNe_entry ?_ X I hm hs ?_
    · exact hu
    · exact wpAny_pure ⟨rfl, rfl⟩
  simp only [richCompare, cmpInfo_NotEq, oneThing_ref]
  refine wpAny_holding (wpAny_bind (wpAny_cRoomFor (by omega) ?_))
  refine wpAny_bind (I.type.here ?_)
  refine wpAny_bind (I.type.here ?_)
  split
  · rename_i q
    simp at q
  · refine wpAny_bind (wpAny_pure ?_)
    simp only [Bool.false_eq_true, if_false, Bool.not_false, if_true]
    refine wpAny_bind (m := tryCompare (.ref x) _ (.ref x)) (wpAny_mono one (fun r s1 z => ?_) fun _ _ e => e)
    obtain ⟨z1, z2⟩ := z
    subst z1
    subst z2
    exact wpAny_pure h
end
/-- what the text says of a class whose instances differ from all others but themselves -/
structure IdNe (K : Frag) (C : Addr) : Prop where
  i : IdEq K C
  n : PySem.W.findIn K (.ref C) "__ne__" = some (some (.builtin "object.__ne__"))
open L2 in
def rNeI (K : Frag) : R2 := fun x y H Q => ∃ a C dx fs, x = .ref a ∧ y = .ref a ∧ H a = some (.ins C dx fs) ∧ IdNe K C ∧ Q (.bl false) H
open L2 in
theorem op_neI {X : Cx} {K : Frag} (hK : X.K = K) (hu : X.A.units + 64 < cLine) : OpR X (compareOp .NotEq) (rNeI K) := by
  subst hK
  rintro pins s σ H x y v u Q I rx ry ⟨a, C, dx, fs, rfl, rfl, ha, ie, q⟩
  cases rx
  cases ry
  obtain ⟨mA, O, _⟩ := ins_get I.hok ha
  obtain ⟨od, J, _⟩ := O.look
  exact rn_insSame (by omega) I.kIn J ie.i.m ie.i.e ie.n _ _ _ _ ⟨.bl _, H, I, rfl, q⟩
theorem putK_le {κ : Type} [DecidableEq κ] (kvs : List (κ × L2.V)) (k : κ) (v : L2.V) : (L2.putK kvs k v).length ≤ kvs.length + 1 := by
  unfold L2.putK
  split
  · rw [List.length_map]; omega
  · rw [List.length_append]; exact Nat.le_refl _
end BJ

/-! a if c else b as a test -/
namespace BJ
open PySem PySem.Spec PyProof.Rows L2 Evl
section
variable {X : Cx} {c a b : Expr} {tc ta tb : TT} {pos : Pos} {σ : L2.St} {H : Hp}
def tIfT (tc ta tb : TT) : TT := fun σ H Q => tc σ H fun k H1 => if k = true then ta σ H1 Q else tb σ H1 Q
theorem pt_ifT (hc : PT X c tc) (ha : PT X a ta) (hb : PT X b tb) : PT X (.IfExp c a b pos) (tIfT tc ta tb) where
  run pins s σ H Q I h := by
    unfold PySem.isTrue
    refine wpAny_bind (thn (hc.run pins s σ H _ I h) fun d s1 x => ?_)
    obtain ⟨H1, I1, q1⟩ := x
    cases d with
    | true => exact ha.run pins s1 σ H1 Q I1 q1
    | false => exact hb.run pins s1 σ H1 Q I1 q1
theorem et_ifT {k v : Bool} (hc : EvT tc σ H k) (ha : k = true → EvT ta σ H v) (hb : k = false → EvT tb σ H v) : EvT (tIfT tc ta tb) σ H v := fun H1 e Q q => hc H1 e _ fun H2 e2 => by
  cases k with
  | true => exact ha rfl H2 (e.trans e2) Q fun H3 e3 => q H3 (e2.trans e3)
  | false => exact hb rfl H2 (e.trans e2) Q fun H3 e3 => q H3 (e2.trans e3)
end
end BJ

/-! what evaluates to a list of pairs (tuples that hold a key and a value): EvR; comprehensions over such lists -/
namespace BJ
open PySem PySem.Spec PyProof.Rows L2 Evl
open PySem.W (Frag)
section
variable {K : Frag} {σ : L2.St} {H : Hp} {te tl : TE} {tt : TT} {wi : TI} {vs : List Nat} {kvs : List (Key × V)} {xs : List V} {D : Ends} {i : Nat}
def EvR (K : Frag) (te : TE) (σ : L2.St) (H : Hp) (kvs : List (Key × V)) : Prop := ∀ H1, Ex H H1 → ∀ Q : VK, (∀ p ts H2, Ex H1 H2 → SqL K H2 p (ts.map V.ref) → Prs H2 ts kvs → Q (.ref p) H2) → te σ H1 Q
theorem er_var {p : Addr} {ts : List Addr} (h : σ[i]? = some (some (.ref p))) (hp : SqL K H p (ts.map V.ref)) (hP : Prs H ts kvs) : EvR K (tVar i) σ H kvs := fun H1 e Q q => ⟨_, h, q p ts H1 (Ex.refl _) (ex_l e hp) (hP.ex e)⟩
theorem EvR.mono {H' : Hp} (h : EvR K te σ H kvs) (e : Ex H H') : EvR K te σ H' kvs := fun H1 e1 Q q => h H1 (e.trans e1) Q q
/-- list(e) of a tuple of pairs -/
theorem er_list (h : ∀ H1, Ex H H1 → ∀ Q : VK, (∀ t ts H2, Ex H1 H2 → H2 t = some (.tup (ts.map V.ref)) → Prs H2 ts kvs → Q (.ref t) H2) → te σ H1 Q) : EvR K (tCB (rListS K) (tCons te tNil)) σ H kvs := fun H1 e Q q =>
  h H1 e _ fun t ts H2 e2 ht hP => ⟨t, _, rfl, .inr (st_of ht), fun l nl => q l ts _ (e2.trans (Ex.new nl)) (sq_of upd_same) (hP.ex (Ex.new nl))⟩
theorem prs_nm {H : Hp} {ts : List Addr} {kvs : List (Key × V)} (h : Prs H ts kvs) {i : Nat} (hi : i < kvs.length) : ∃ t, (ts.map V.ref)[i]? = some (.ref t) ∧ H t = some (.tup [kV kvs[i].1, kvs[i].2]) := by
  obtain ⟨t, h1, h2⟩ := Prs.get h i _ (List.getElem?_eq_getElem hi)
  exact ⟨t, by rw [List.getElem?_map, h1]; rfl, h2⟩
theorem given_pick {α β : Type} (xs : List α) (d : α) (f : α → Bool) (F : α → β) : ((List.range xs.length).filter fun i => f (xs.getD i d)).map (fun i => F (xs.getD i d)) = (xs.filter f).map F := by
  have h : (List.range xs.length).map (fun i => xs.getD i d) = xs := by
    apply List.ext_getElem
    · simp
    · intro i h1 h2
      simp [List.getD, h2]
  have h2 := congrArg (fun l => (l.filter f).map F) h
  simp only [List.filter_map, List.map_map] at h2
  exact h2
/-- the walk of a comprehension whose turn makes a pair -/
theorem lc_er {J : It} {n : Nat} {G : Hp → Prop} {Y : Nat → Hp → V → Hp → Prop} (w : Walk J n G Y) {g : TG} {H1 : Hp} {Q : VK} (f : Nat → Bool) (v : Nat → Key × V) (hn : n ≤ 100000) (hG : ∀ H, Ex H1 H → G H)
    (hs : ∀ i x H2 H3, i < n → Ex H1 H2 → Y i H2 x H3 → ∃ σ2, wipe σ2 vs = wipe σ vs ∧ Ex H2 H3 ∧ (∀ Q : L2.St → Hp → Prop, Q σ2 H3 → g x (wipe σ vs) H3 Q) ∧ EvT tt σ2 H1 (f i) ∧ (f i = true → EvU te σ2 H1 [kV (v i).1, (v i).2]))
    (k : ∀ D ts H', H1 D = none → Ex H1 H' → H' D = some (.lst (ts.map V.ref)) → Prs H' ts (((List.range n).filter f).map v) → Q (.ref D) H') :
    ∀ D, H1 D = none → ∃ W : Nat → Nat → Hp → Prop, (∃ m, W 0 m (upd H1 D (.lst []))) ∧ ∀ i m H, W i m H →
      (J.stop i H ∧ Q (.ref D) H) ∨ (J.go i H ∧ ∃ Nx : Hp → Prop, (∀ H', Nx H' → ∃ m', m' < m ∧ W (i + 1) m' H') ∧ ∀ x H', J.yld i H x H' → g x (wipe σ vs) H' fun σ2 H2 => wipe σ2 vs = wipe σ vs ∧ tt σ2 H2 fun b H3 =>
        if b = true then te σ2 H3 fun y H4 => ∃ acc, H4 D = some (.lst acc) ∧ acc.length < sizeLine ∧ Nx (upd H4 D (.lst (acc ++ [y]))) else Nx H3) := fun Dl nD => by
  refine lc_it w (fun i H' => Ex H1 H' ∧ ∃ ts, H' Dl = some (.lst (ts.map V.ref)) ∧ Prs H' ts (((List.range i).filter f).map v) ∧ ∀ t ∈ ts, t ≠ Dl) ⟨Ex.new nD, [], upd_same, .nil, fun t h => nomatch h⟩ (fun i H' _ h => hG H' h.1) (fun i x H2 H3 hi h y => ?_) fun H' h => ?_
  · obtain ⟨e2, ts, hx, hts, hne⟩ := h
    obtain ⟨σ2, hw, e3, hg, ht, he⟩ := hs i x H2 H3 hi e2 y
    refine hg _ ⟨hw, ?_⟩
    refine ht H3 (e2.trans e3) _ fun H4 e4 => ?_
    have hx4 := (e3.trans e4) _ _ hx
    have hts4 := hts.ex (e3.trans e4)
    have hlen := hts.len
    rw [List.length_map] at hlen
    have hfl := List.length_filter_le f (List.range i)
    rw [List.length_range] at hfl
    cases hf : f i with
    | false =>
      refine iteF ⟨(e2.trans e3).trans e4, ts, hx4, ?_, hne⟩
      rw [List.range_succ, List.filter_append]
      simp only [List.filter_cons, hf, List.filter_nil, Bool.false_eq_true, if_false, List.append_nil]
      exact hts4
    | true =>
      refine iteT ?_
      refine he hf H4 ((e2.trans e3).trans e4) _ fun t H5 nt e5 ht5 => ?_
      have htD : t ≠ Dl := fun z => by rw [z, hx4] at nt; cases nt
      refine ⟨_, e5 _ _ hx4, (by rw [List.length_map, sizeLine_eq]; omega), Ex.mut (((e2.trans e3).trans e4).trans e5) nD, ts ++ [t], (by rw [List.map_append]; exact upd_same), ?_, fun t' ht' => ?_⟩
      · rw [List.range_succ, List.filter_append]
        simp only [List.filter_cons, hf, List.filter_nil, if_true, List.map_append, List.map_cons, List.map_nil]
        refine Prs.snoc (by rw [upd_ne htD]; exact ht5) (hts4.keep fun t' ht' o ho => ?_)
        rw [upd_ne (hne t' ht')]
        exact e5 _ _ ho
      · rcases List.mem_append.mp ht' with h | h
        · exact hne t' h
        · rw [List.mem_singleton.mp h]; exact htD
  · obtain ⟨e2, ts, hx, hts, hne⟩ := h
    exact k Dl ts H' nD e2 hx hts
/-- [(..) for a, b in pairs if ..] -/
theorem er_prs {j l : Nat} {ts : List Addr} (hi : EvI wi σ H (ts.map V.ref)) (hP : Prs H ts kvs) (f : Key × V → Bool) (F : Key × V → Key × V) (hn : kvs.length ≤ 100000) (hw : ∀ x y, wipe (((wipe σ vs).set j (some x)).set l (some y)) vs = wipe σ vs)
    (ht : ∀ q ∈ kvs, ∀ H1, Ex H H1 → EvT tt (((wipe σ vs).set j (some (kV q.1))).set l (some q.2)) H1 (f q)) (he : ∀ q ∈ kvs, f q = true → ∀ H1, Ex H H1 → EvU te (((wipe σ vs).set j (some (kV q.1))).set l (some q.2)) H1 [kV (F q).1, (F q).2]) :
    EvR K (tLc wi (gTup K 2 (gCons (gName j) (gCons (gName l) gNil))) tt te vs) σ H ((kvs.filter f).map F) := fun H1 e1 Q k => by
  have hl := Prs.len hP
  refine hi H1 e1 _ fun H2 J G e2 w hG => ?_
  have e12 := e1.trans e2
  refine lc_er w (fun i => f (kvs.getD i (.inl 0, .non))) (fun i => F (kvs.getD i (.inl 0, .non))) (by rw [List.length_map, hl]; exact hn) hG (fun i x H3 H4 hlt e3 y => ?_) (fun D ts' H' nD e' hx hts => ?_)
  · rw [List.length_map, hl] at hlt
    obtain ⟨rfl, hx⟩ := y
    obtain ⟨t, h1, h2⟩ := prs_nm hP hlt
    rw [h1] at hx
    cases hx
    have hd : kvs.getD i (.inl 0, .non) = kvs[i] := by rw [List.getD, List.getElem?_eq_getElem hlt]; rfl
    rw [hd]
    have hm := List.getElem_mem hlt
    exact ⟨_, hw _ _, Ex.refl _, fun Q q => ⟨t, _, rfl, st_of (e3 _ _ (e12 _ _ h2)), rfl, _, _, rfl, _, _, rfl, rfl, q⟩, ht _ hm H2 e12, fun hf => he _ hm hf H2 e12⟩
  · refine k D ts' H' (e2.trans e') (sq_of hx) ?_
    have hr : ((List.range (ts.map V.ref).length).filter (fun i => f (kvs.getD i (.inl 0, .non)))).map (fun i => F (kvs.getD i (.inl 0, .non))) = (kvs.filter f).map F := by
      rw [List.length_map, hl]
      exact given_pick kvs _ f F
    rw [hr] at hts
    exact hts
/-- [.. for a, b in pairs if ..] -/
theorem el_prs {j l : Nat} {ts : List Addr} (hi : EvI wi σ H (ts.map V.ref)) (hP : Prs H ts kvs) (f : Key × V → Bool) (F : Key × V → V) (hn : kvs.length ≤ 100000) (hw : ∀ x y, wipe (((wipe σ vs).set j (some x)).set l (some y)) vs = wipe σ vs)
    (ht : ∀ q ∈ kvs, ∀ H1, Ex H H1 → EvT tt (((wipe σ vs).set j (some (kV q.1))).set l (some q.2)) H1 (f q)) (he : ∀ q ∈ kvs, f q = true → ∀ H1, Ex H H1 → Ev te (((wipe σ vs).set j (some (kV q.1))).set l (some q.2)) H1 (F q)) :
    EvL (tLc wi (gTup K 2 (gCons (gName j) (gCons (gName l) gNil))) tt te vs) σ H ((kvs.filter f).map F) := fun H1 e1 Q k => by
  have hl := Prs.len hP
  refine hi H1 e1 _ fun H2 J G e2 w hG => ?_
  have e12 := e1.trans e2
  refine BJ.lc_ev w (fun i => f (kvs.getD i (.inl 0, .non))) (fun i => F (kvs.getD i (.inl 0, .non))) (by rw [List.length_map, hl]; omega) hG (fun i x H3 H4 hlt e3 y => ?_) (fun D H' nD e' hx => ?_)
  · rw [List.length_map, hl] at hlt
    obtain ⟨rfl, hx⟩ := y
    obtain ⟨t, h1, h2⟩ := prs_nm hP hlt
    rw [h1] at hx
    cases hx
    have hd : kvs.getD i (.inl 0, .non) = kvs[i] := by rw [List.getD, List.getElem?_eq_getElem hlt]; rfl
    rw [hd]
    have hm := List.getElem_mem hlt
    exact ⟨_, hw _ _, Ex.refl _, fun Q q => ⟨t, _, rfl, st_of (e3 _ _ (e12 _ _ h2)), rfl, _, _, rfl, _, _, rfl, rfl, q⟩, ht _ hm H2 e12, fun hf => he _ hm hf H2 e12⟩
  · refine k D H' (fresh_back e2 nD) (e2.trans e') ?_
    unfold Evl.given at hx
    have hr : ((List.range (ts.map V.ref).length).filter (fun i => f (kvs.getD i (.inl 0, .non)))).map (fun i => F (kvs.getD i (.inl 0, .non))) = (kvs.filter f).map F := by
      rw [List.length_map, hl]
      exact given_pick kvs _ f F
    rw [hr] at hx
    exact hx
/-- [(..) for x in ..] -/
theorem er_nm {j : Nat} (hi : EvI wi σ H xs) (F : V → Key × V) (hn : xs.length ≤ 100000) (hw : ∀ x, wipe ((wipe σ vs).set j (some x)) vs = wipe σ vs)
    (he : ∀ x ∈ xs, ∀ H1, Ex H H1 → EvU te ((wipe σ vs).set j (some x)) H1 [kV (F x).1, (F x).2]) : EvR K (tLc wi (gName j) tYes te vs) σ H (xs.map F) := fun H1 e1 Q k => by
  refine hi H1 e1 _ fun H2 J G e2 w hG => ?_
  have e12 := e1.trans e2
  refine lc_er w (fun i => true) (fun i => F (xs.getD i .non)) hn hG (fun i x H3 H4 hlt e3 y => ?_) (fun D ts' H' nD e' hx hts => ?_)
  · obtain ⟨rfl, hx⟩ := y
    have hd : xs.getD i .non = x := by rw [List.getD, hx]; rfl
    rw [hd]
    exact ⟨_, hw _, Ex.refl _, fun Q q => q, et_yes, fun _ => he _ (List.mem_of_getElem? hx) H2 e12⟩
  · refine k D ts' H' (e2.trans e') (sq_of hx) ?_
    have hr := given_pick xs .non (fun _ => true) F
    rw [List.filter_eq_self.mpr (fun _ _ => rfl)] at hr
    rw [show xs.filter (fun _ => true) = xs from List.filter_eq_self.mpr (fun _ _ => rfl)] at hr
    rw [show ((List.range xs.length).filter fun _ => true) = List.range xs.length from List.filter_eq_self.mpr (fun _ _ => rfl), hr] at hts
    exact hts
theorem s_asgR (h : EvR K te σ H kvs) (k : ∀ p ts H1, Ex H H1 → SqL K H1 p (ts.map V.ref) → Prs H1 ts kvs → D.nx (σ.set i (some (.ref p))) H1) : tAsg te (gName i) D σ H := h H (Ex.refl _) _ fun p ts H1 e hp hP => k p ts H1 e hp hP
theorem s_asgL2 (h : EvL te σ H xs) (k : ∀ p H1, Ex H H1 → H1 p = some (.lst xs) → D.nx (σ.set i (some (.ref p))) H1) : tAsg te (gName i) D σ H := h H (Ex.refl _) _ fun p H1 np e hp => k p H1 e hp
theorem ei_listU (h : EvL tl σ H xs) : EvI (iList K tl) σ H xs := fun H1 e R r => h H1 e _ fun p H2 np e2 hx => ⟨p, rfl, ⟨_, sq_of hx⟩, r H2 _ _ e2 walk_list fun H3 e3 => sq_of (e3 _ _ hx)⟩
theorem el_sl {p : Addr} {tlo thi : TO} {lo hi : Option Int} (h : Ev te σ H (.ref p)) (hs : SqL K H p xs) (h1 : EvO tlo σ H lo) (h2 : EvO thi σ H hi) : EvL (tSl (rSlL K) te tlo thi) σ H (cutV xs lo hi) := fun H1 e Q q =>
  h H1 e _ fun H2 e2 => h1 H2 (e.trans e2) _ fun H3 e3 => h2 H3 ((e.trans e2).trans e3) _ fun H4 e4 => ⟨p, xs, rfl, ex_l (((e.trans e2).trans e3).trans e4) hs, fun q1 nq => q q1 _ (fresh_back ((e2.trans e3).trans e4) nq) (((e2.trans e3).trans e4).trans (Ex.new nq)) upd_same⟩
theorem cut_take (n : Nat) (xs : List V) : cutV xs none (some (n : Int)) = xs.take n := by
  unfold cutV HT.sIx
  simp only [List.drop_zero, Nat.sub_zero]
  rw [if_neg (by omega), Int.toNat_natCast]
  rcases Nat.le_total n xs.length with h | h
  · rw [Nat.min_eq_left h]
  · rw [Nat.min_eq_right h, List.take_length, List.take_of_length_le h]
/-- a if c else b, then the name is set -/
theorem asg_if {t : TT} {ta tb : TE} {g : TG} {b : Bool} (h : EvT t σ H b) (h1 : b = true → ∀ H1, Ex H H1 → tAsg ta g D σ H1) (h2 : b = false → ∀ H1, Ex H H1 → tAsg tb g D σ H1) : tAsg (tIf t ta tb) g D σ H := h H (Ex.refl _) _ fun H1 e1 => by
  cases b with
  | true => exact h1 rfl H1 e1
  | false => exact h2 rfl H1 e1
end
section
variable {X : Cx} {K : Frag}
theorem sl_list' (hK : X.K = K) : SlR X (rSlL K) := by subst hK; exact sl_list
theorem op_in_seq' (hK : X.K = K) : OpR X (compareOp .In) (rIn K false) := by subst hK; exact op_in_seq
theorem op_notIn_seq' (hK : X.K = K) : OpR X (compareOp .NotIn) (rIn K true) := by subst hK; exact op_notIn_seq
end
end BJ

/-! lists of pairs that are new: EvRN; entries put again and again -/
namespace BJ
open PySem PySem.Spec PyProof.Rows L2 Evl
open PySem.W (Frag)
section
variable {K : Frag} {σ : L2.St} {H : Hp} {te tl : TE} {tt : TT} {wi : TI} {vs : List Nat} {kvs : List (Key × V)} {xs : List V} {D : Ends} {i : Nat}
def EvRN (te : TE) (σ : L2.St) (H : Hp) (kvs : List (Key × V)) : Prop := ∀ H1, Ex H H1 → ∀ Q : VK, (∀ p ts H2, H1 p = none → Ex H1 H2 → H2 p = some (.lst (ts.map V.ref)) → Prs H2 ts kvs → Q (.ref p) H2) → te σ H1 Q
theorem EvRN.r (h : EvRN te σ H kvs) : EvR K te σ H kvs := fun H1 e Q q => h H1 e Q fun p ts H2 _ e2 hp hP => q p ts H2 e2 (sq_of hp) hP
theorem ern_list (h : ∀ H1, Ex H H1 → ∀ Q : VK, (∀ t ts H2, Ex H1 H2 → (SqL K H2 t (ts.map V.ref) ∨ SqT K H2 t (ts.map V.ref)) → Prs H2 ts kvs → Q (.ref t) H2) → te σ H1 Q) : EvRN (tCB (rListS K) (tCons te tNil)) σ H kvs := fun H1 e Q q =>
  h H1 e _ fun t ts H2 e2 ht hP => ⟨t, _, rfl, ht, fun l nl => q l ts _ (fresh_back e2 nl) (e2.trans (Ex.new nl)) upd_same (hP.ex (Ex.new nl))⟩
theorem ern_prs {j l : Nat} {ts : List Addr} (hi : EvI wi σ H (ts.map V.ref)) (hP : Prs H ts kvs) (f : Key × V → Bool) (F : Key × V → Key × V) (hn : kvs.length ≤ 100000) (hw : ∀ x y, wipe (((wipe σ vs).set j (some x)).set l (some y)) vs = wipe σ vs)
    (ht : ∀ q ∈ kvs, ∀ H1, Ex H H1 → EvT tt (((wipe σ vs).set j (some (kV q.1))).set l (some q.2)) H1 (f q)) (he : ∀ q ∈ kvs, f q = true → ∀ H1, Ex H H1 → EvU te (((wipe σ vs).set j (some (kV q.1))).set l (some q.2)) H1 [kV (F q).1, (F q).2]) :
    EvRN (tLc wi (gTup K 2 (gCons (gName j) (gCons (gName l) gNil))) tt te vs) σ H ((kvs.filter f).map F) := fun H1 e1 Q k => by
  have hl := Prs.len hP
  refine hi H1 e1 _ fun H2 J G e2 w hG => ?_
  have e12 := e1.trans e2
  refine lc_er w (fun i => f (kvs.getD i (.inl 0, .non))) (fun i => F (kvs.getD i (.inl 0, .non))) (by rw [List.length_map, hl]; exact hn) hG (fun i x H3 H4 hlt e3 y => ?_) (fun D ts' H' nD e' hx hts => ?_)
  · rw [List.length_map, hl] at hlt
    obtain ⟨rfl, hx⟩ := y
    obtain ⟨t, h1, h2⟩ := prs_nm hP hlt
    rw [h1] at hx
    cases hx
    have hd : kvs.getD i (.inl 0, .non) = kvs[i] := by rw [List.getD, List.getElem?_eq_getElem hlt]; rfl
    rw [hd]
    have hm := List.getElem_mem hlt
    exact ⟨_, hw _ _, Ex.refl _, fun Q q => ⟨t, _, rfl, st_of (e3 _ _ (e12 _ _ h2)), rfl, _, _, rfl, _, _, rfl, rfl, q⟩, ht _ hm H2 e12, fun hf => he _ hm hf H2 e12⟩
  · refine k D ts' H' (fresh_back e2 nD) (e2.trans e') hx ?_
    have hr : ((List.range (ts.map V.ref).length).filter (fun i => f (kvs.getD i (.inl 0, .non)))).map (fun i => F (kvs.getD i (.inl 0, .non))) = (kvs.filter f).map F := by
      rw [List.length_map, hl]
      exact given_pick kvs _ f F
    rw [hr] at hts
    exact hts
theorem s_asgRN (h : EvRN te σ H kvs) (k : ∀ p ts H1, H p = none → Ex H H1 → H1 p = some (.lst (ts.map V.ref)) → Prs H1 ts kvs → D.nx (σ.set i (some (.ref p))) H1) : tAsg te (gName i) D σ H := h H (Ex.refl _) _ fun p ts H1 np e hp hP => k p ts H1 np e hp hP
theorem s_asgLN (h : EvL te σ H xs) (k : ∀ p H1, H p = none → Ex H H1 → H1 p = some (.lst xs) → D.nx (σ.set i (some (.ref p))) H1) : tAsg te (gName i) D σ H := h H (Ex.refl _) _ fun p H1 np e hp => k p H1 np e hp
end
/-! entries put again -/
section
variable {kvs bks l : List (Key × V)} {k : Key} {v : V} {kv : Key × V}
theorem put_mem (h : kv ∈ putK l k v) : kv = (k, v) ∨ kv ∈ l := by
  unfold putK at h
  split at h
  · obtain ⟨x, hx, rfl⟩ := List.mem_map.mp h
    by_cases e : x.1 = k
    · rw [if_pos e, e]; exact .inl rfl
    · rw [if_neg e]; exact .inr hx
  · rcases List.mem_append.mp h with h | h
    · exact .inr h
    · exact .inl (List.mem_singleton.mp h)
theorem put_nd (nd : (l.map (·.1)).Nodup) : ((putK l k v).map (·.1)).Nodup := by
  cases h : valV l k with
  | none => exact nd_putK v nd h
  | some y =>
    unfold putK
    have this : (l.any fun kv => decide (kv.1 = k)) = true := by rw [valV_any, h]; rfl
    rw [if_pos this, List.map_map]
    have e : l.map ((fun x => x.1) ∘ fun kv => if kv.1 = k then (kv.1, v) else kv) = l.map (·.1) := List.map_congr_left fun x _ => by
      show (if x.1 = k then (x.1, v) else x).1 = x.1
      split <;> rfl
    rw [e]
    exact nd
theorem put_same (nd : (l.map (·.1)).Nodup) (h : valV l k = some v) : putK l k v = l := by
  unfold putK
  have this : (l.any fun kv => decide (kv.1 = k)) = true := by rw [valV_any, h]; rfl
  rw [if_pos this]
  have e : ∀ x ∈ l, (if x.1 = k then (x.1, v) else x) = x := fun x hx => by
    split
    · rename_i e
      have h1 := val_nodup nd _ hx
      rw [e, h] at h1
      cases h1
      rfl
    · rfl
  exact (List.map_congr_left e).trans (List.map_id _)
/-- what a Book lays over the fields -/
def layK (kvs bks : List (Key × V)) : List (Key × V) := bks.foldl (fun l q => putK l q.1 q.2) kvs
theorem layK_snoc {q : Key × V} : layK kvs (bks ++ [q]) = putK (layK kvs bks) q.1 q.2 := by
  unfold layK
  rw [List.foldl_append]
  rfl
theorem layK_take {i : Nat} {q : Key × V} (h : bks[i]? = some q) : layK kvs (bks.take (i + 1)) = putK (layK kvs (bks.take i)) q.1 q.2 := by
  rw [List.take_add_one, h]
  exact layK_snoc
theorem layK_len : ∀ (bks kvs : List (Key × V)), (layK kvs bks).length ≤ kvs.length + bks.length
  | [], kvs => Nat.le_refl _
  | q :: r, kvs => by
    have h1 := layK_len r (putK kvs q.1 q.2)
    have h2 := putK_le kvs q.1 q.2
    show (layK (putK kvs q.1 q.2) r).length ≤ _
    rw [List.length_cons]
    omega
theorem merge_all {P : Key × V → Prop} : ∀ (bks kvs : List (Key × V)), (∀ kv ∈ kvs, P kv) → (∀ kv ∈ bks, P kv) → ∀ kv ∈ layK kvs bks, P kv
  | [], kvs, h1, _ => h1
  | q :: r, kvs, h1, h2 => merge_all r _ (fun kv h => by
      rcases put_mem h with rfl | h
      · exact h2 _ List.mem_cons_self
      · exact h1 _ h) fun kv h => h2 _ (List.mem_cons_of_mem _ h)
theorem merge_nd : ∀ (bks kvs : List (Key × V)), (kvs.map (·.1)).Nodup → ((layK kvs bks).map (·.1)).Nodup
  | [], kvs, h => h
  | q :: r, kvs, h => merge_nd r _ (put_nd h)
theorem merge_not : ∀ (bks kvs : List (Key × V)) (k : Key), k ∉ bks.map (·.1) → valV (layK kvs bks) k = valV kvs k
  | [], kvs, k, _ => rfl
  | q :: r, kvs, k, h => by
    rw [List.map_cons, List.mem_cons, not_or] at h
    have := merge_not r (putK kvs q.1 q.2) k h.2
    rw [valV_put, if_neg h.1] at this
    exact this
theorem merge_get : ∀ (bks kvs : List (Key × V)), (bks.map (·.1)).Nodup → ∀ q ∈ bks, valV (layK kvs bks) q.1 = some q.2
  | [], kvs, _, q, h => nomatch h
  | p :: r, kvs, nd, q, h => by
    rw [List.map_cons, List.nodup_cons] at nd
    rcases List.mem_cons.mp h with rfl | h
    · have := merge_not r (putK kvs q.1 q.2) q.1 nd.1
      rw [valV_put, if_pos rfl] at this
      exact this
    · exact merge_get r _ nd.2 q h
theorem merge_same : ∀ (bks M : List (Key × V)), (M.map (·.1)).Nodup → (∀ q ∈ bks, valV M q.1 = some q.2) → layK M bks = M
  | [], M, _, _ => rfl
  | q :: r, M, nd, h => by
    show layK (putK M q.1 q.2) r = M
    rw [put_same nd (h q List.mem_cons_self)]
    exact merge_same r M nd fun p hp => h p (List.mem_cons_of_mem _ hp)
/-- the same by hand: each row with this key changed, or a row more -/
def overK (k : Key) (v : V) (kv : Key × V) : Key × V := (kv.1, if kv.1 = k then v else kv.2)
theorem over_put : putK l k v = if (l.any fun kv => decide (kv.1 = k)) = true then l.map (overK k v) else l.map (overK k v) ++ [(k, v)] := by
  unfold putK
  split
  · refine List.map_congr_left fun x _ => ?_
    unfold overK
    split <;> rfl
  · rename_i h
    congr 1
    refine ((List.map_congr_left fun x hx => ?_).trans (List.map_id _)).symm
    unfold overK
    rw [if_neg]
    · rfl
    · intro e
      exact h (List.any_eq_true.mpr ⟨x, hx, decide_eq_true e⟩)
theorem inV_keys {z : Str} : ∀ {l : List (Key × V)}, (∀ kv ∈ l, ∃ y, kv.1 = .inr y) → inV (.str z) (l.map fun kv => kV kv.1) = l.any fun kv => decide (kv.1 = .inr z)
  | [], _ => rfl
  | q :: r, h => by
    have ih := inV_keys (z := z) fun kv hk => h kv (List.mem_cons_of_mem _ hk)
    obtain ⟨y, hy⟩ := h q List.mem_cons_self
    unfold inV at ih ⊢
    rw [List.map_cons, List.any_cons, List.any_cons, ih, hy]
    congr 1
    show (y == z) = decide ((Sum.inr y : Key) = .inr z)
    by_cases e : y = z
    · rw [e]; simp
    · rw [decide_eq_false (fun h => e (Sum.inr.inj h))]; exact beq_eq_false_iff_ne.mpr e
theorem flat_keys (l : List (Key × V)) : (l.map fun kv => kV kv.1).all flatV = true := by
  rw [List.all_eq_true]
  intro v hv
  obtain ⟨⟨k, y⟩, _, rfl⟩ := List.mem_map.mp hv
  cases k <;> rfl
end
end BJ

namespace BJ
/-- one run looked at three times -/
theorem map3 {α β γ δ : Type} {o : Option α} {f : α → β} {g : α → γ} {k : α → δ} {b : β} {c : γ} {d : δ} (h1 : o.map f = some b) (h2 : o.map g = some c) (h3 : o.map k = some d) : o.map (fun s => (f s, g s, k s)) = some (b, c, d) := by
  cases o with
  | none => cases h1
  | some x =>
    injection h1 with h1; injection h2 with h2; injection h3 with h3
    show some (f x, g x, k x) = _
    rw [h1, h2, h3]
end BJ

/-! the head by three runs, each a theorem of its own; the view holds the law alone -/
namespace BJ
open PySem PySem.W PySem.Calls PyProof.Rows HandSHeadRun
/-- some answers of a world, where any will do -/
def anyP : Params := { strHash := fun _ => 0, shareClass := fun _ => 0, mergeTok := fun t => t, idOf := fun _ => 0, idOfShared := fun _ _ => 0, followText := fun _ => false, idOfImm := fun _ => 0 }
def Run1 (r : OpenRow) (M : Nat) : Prop := ∀ (w : World) (os : OsState), (endF (stepQ (denQ tabQ) r.prog w) M r.prog w os).map (fun s => looksF r.prog (boot_heap w.params) s.abs) = some true
def Run2 (r : OpenRow) (M : Nat) (q : Program) (loose : List PySem.Str) : Prop := ∀ (w : World) (os : OsState), (endF (stepQ (denQ tabQ) r.prog w) M r.prog w os).map (fun s => seenQ q loose (importedModules r.prog.main.body) (fun s => xlAt q [] s && recOk r.toRowW.records s) s.abs) = some (openGood q loose)
def Run3 (r : OpenRow) (M : Nat) (as : List Addr) (K : Params → Frag) : Prop := ∀ (w : World) (os : OsState), (endF (stepQ (denQ tabQ) r.prog w) M r.prog w os).map (fun s => as.map (getT s)) = some ((K w.params).map fun x => some x.2)
theorem head_k {r : OpenRow} {q : Program} {loose : List PySem.Str} {K : Params → Frag} {as : List Addr} {M : Nat} {d : DefRec} {kwd : List (PySem.Str × PySem.Expr)} (ek : ∀ P, as = (K P).map (·.1))
    (e : opening r.prog = plainProg r.prog.main.scope.names) (f : ∀ s, fenceModules? r.prog s = some s) (run1 : Run1 r M) (run2 : Run2 r M q loose) (run3 : Run3 r M as K)
    (hdef : defOf q r.name = some (d, kwd)) (hp : r.prog.theDef r.name = some (d.params, d.body, d.scope)) (hk : kwWritten? d.params.kwonlyargs d.params.kw_defaults = some kwd)
    (hwr : (!r.writes || r.records.isEmpty) = true) (k1 : r.wellSaid = true) (ok : (chainsOk q && opensWell r.prog && (frees r.toRowW && r.within.isEmpty)) = true) (hb : r.prog.bare) (hw : r.toRowW.promised)
    (call : WalkO q loose (XL q []) (InK K) r.toRowW d kwd fun f vs => PySem.call f vs) : r.Holds :=
  head_any (H := kHook K as ek) (ob := fun s => as.map (getT s)) (fun s => List.map_congr_left fun a _ => getT_eq s a) e f (fun w os => map3 (run1 w os) (run2 w os) (run3 w os)) hdef hp hk hwr k1 ok hb hw call
end BJ

namespace BJL
open PySem PySem.Spec PyProof.Rows L2 BJ
def topS (i : Nat) : Stmt := PySem.Challenge.pw_brinejar_k14_ready_hooks.main.body.getD i (.Pass ⟨0, 0, 0, 0⟩)
abbrev s__wall : Stmt := topS 0
theorem sc__wall : FnScope ["k"] ["k"] (defScope s__wall) := ⟨rfl, rfl, rfl, by decide +kernel, rfl, by decide +kernel, by decide +kernel⟩
abbrev s_is_integer : Stmt := topS 19
theorem sc_is_integer : FnScope ["thing"] ["thing"] (defScope s_is_integer) := ⟨rfl, rfl, rfl, by decide +kernel, rfl, by decide +kernel, by decide +kernel⟩
abbrev s_is_whole_atom : Stmt := topS 20
theorem sc_is_whole_atom : FnScope ["thing"] ["thing"] (defScope s_is_whole_atom) := ⟨rfl, rfl, rfl, by decide +kernel, rfl, by decide +kernel, by decide +kernel⟩
abbrev s_is_text : Stmt := topS 21
theorem sc_is_text : FnScope ["thing"] ["thing"] (defScope s_is_text) := ⟨rfl, rfl, rfl, by decide +kernel, rfl, by decide +kernel, by decide +kernel⟩
abbrev s_is_key : Stmt := topS 22
theorem sc_is_key : FnScope ["thing"] ["thing"] (defScope s_is_key) := ⟨rfl, rfl, rfl, by decide +kernel, rfl, by decide +kernel, by decide +kernel⟩
abbrev s_is_atom : Stmt := topS 23
theorem sc_is_atom : FnScope ["thing"] ["thing"] (defScope s_is_atom) := ⟨rfl, rfl, rfl, by decide +kernel, rfl, by decide +kernel, by decide +kernel⟩
abbrev s_is_brand : Stmt := topS 24
theorem sc_is_brand : FnScope ["thing", "sign"] ["thing"] (defScope s_is_brand) := ⟨rfl, rfl, rfl, by decide +kernel, rfl, by decide +kernel, by decide +kernel⟩
abbrev s_holds_value : Stmt := topS 26
theorem sc_holds_value : FnScope ["thing"] ["thing"] (defScope s_holds_value) := ⟨rfl, rfl, rfl, by decide +kernel, rfl, by decide +kernel, by decide +kernel⟩
abbrev s_check_value : Stmt := topS 27
theorem sc_check_value : FnScope ["value"] ["value"] (defScope s_check_value) := ⟨rfl, rfl, rfl, by decide +kernel, rfl, by decide +kernel, by decide +kernel⟩
abbrev s_check_key : Stmt := topS 28
theorem sc_check_key : FnScope ["key"] ["key"] (defScope s_check_key) := ⟨rfl, rfl, rfl, by decide +kernel, rfl, by decide +kernel, by decide +kernel⟩
abbrev s_check_label : Stmt := topS 29
theorem sc_check_label : FnScope ["label"] ["label"] (defScope s_check_label) := ⟨rfl, rfl, rfl, by decide +kernel, rfl, by decide +kernel, by decide +kernel⟩
abbrev s_Node_shape : Stmt := inClass (topS 30) 0
theorem sc_Node_shape : FnScope ["self"] ["self"] (defScope s_Node_shape) := ⟨rfl, rfl, rfl, by decide +kernel, rfl, by decide +kernel, by decide +kernel⟩
abbrev s_Node_children : Stmt := inClass (topS 30) 1
theorem sc_Node_children : FnScope ["self"] ["self"] (defScope s_Node_children) := ⟨rfl, rfl, rfl, by decide +kernel, rfl, by decide +kernel, by decide +kernel⟩
abbrev s_Sequence___init__ : Stmt := inClass (topS 32) 0
theorem sc_Sequence___init__ : FnScope ["self", "parts", "value"] ["self", "parts"] (defScope s_Sequence___init__) := ⟨rfl, rfl, rfl, by decide +kernel, rfl, by decide +kernel, by decide +kernel⟩
abbrev s_Sequence_parts : Stmt := inClass (topS 32) 1
theorem sc_Sequence_parts : FnScope ["self"] ["self"] (defScope s_Sequence_parts) := ⟨rfl, rfl, rfl, by decide +kernel, rfl, by decide +kernel, by decide +kernel⟩
abbrev s_Sequence_children : Stmt := inClass (topS 32) 2
theorem sc_Sequence_children : FnScope ["self"] ["self"] (defScope s_Sequence_children) := ⟨rfl, rfl, rfl, by decide +kernel, rfl, by decide +kernel, by decide +kernel⟩
abbrev s_Row_of : Stmt := inClass (topS 34) 0
theorem sc_Row_of : FnScope ["cls", "parts"] ["cls", "parts"] (defScope s_Row_of) := ⟨rfl, rfl, rfl, by decide +kernel, rfl, by decide +kernel, by decide +kernel⟩
abbrev s_Row_shape : Stmt := inClass (topS 34) 1
theorem sc_Row_shape : FnScope ["self"] ["self"] (defScope s_Row_shape) := ⟨rfl, rfl, rfl, by decide +kernel, rfl, by decide +kernel, by decide +kernel⟩
abbrev s_Row_put_last : Stmt := inClass (topS 34) 2
theorem sc_Row_put_last : FnScope ["self", "value"] ["self", "value"] (defScope s_Row_put_last) := ⟨rfl, rfl, rfl, by decide +kernel, rfl, by decide +kernel, by decide +kernel⟩
abbrev s_Row_put_at : Stmt := inClass (topS 34) 3
theorem sc_Row_put_at : FnScope ["self", "index", "value"] ["self", "index", "value"] (defScope s_Row_put_at) := ⟨rfl, rfl, rfl, by decide +kernel, rfl, by decide +kernel, by decide +kernel⟩
abbrev s_Book___init__ : Stmt := inClass (topS 35) 0
theorem sc_Book___init__ : FnScope ["self"] ["self"] (defScope s_Book___init__) := ⟨rfl, rfl, rfl, by decide +kernel, rfl, by decide +kernel, by decide +kernel⟩
abbrev s_Book_of : Stmt := inClass (topS 35) 1
theorem sc_Book_of : FnScope ["cls", "pairs", "pair", "book", "key", "value"] ["cls", "pairs"] (defScope s_Book_of) := ⟨rfl, rfl, rfl, by decide +kernel, rfl, by decide +kernel, by decide +kernel⟩
abbrev s_Book_shape : Stmt := inClass (topS 35) 2
theorem sc_Book_shape : FnScope ["self"] ["self"] (defScope s_Book_shape) := ⟨rfl, rfl, rfl, by decide +kernel, rfl, by decide +kernel, by decide +kernel⟩
abbrev s_Book_pairs : Stmt := inClass (topS 35) 3
theorem sc_Book_pairs : FnScope ["self", "key", "value"] ["self"] (defScope s_Book_pairs) := ⟨rfl, rfl, rfl, by decide +kernel, rfl, by decide +kernel, by decide +kernel⟩
abbrev s_Book_children : Stmt := inClass (topS 35) 4
theorem sc_Book_children : FnScope ["self"] ["self"] (defScope s_Book_children) := ⟨rfl, rfl, rfl, by decide +kernel, rfl, by decide +kernel, by decide +kernel⟩
abbrev s_Book_enter : Stmt := inClass (topS 35) 5
theorem sc_Book_enter : FnScope ["self", "key", "value"] ["self", "key", "value"] (defScope s_Book_enter) := ⟨rfl, rfl, rfl, by decide +kernel, rfl, by decide +kernel, by decide +kernel⟩
abbrev s_Book_check_entry : Stmt := inClass (topS 35) 6
theorem sc_Book_check_entry : FnScope ["self", "key"] ["self", "key"] (defScope s_Book_check_entry) := ⟨rfl, rfl, rfl, by decide +kernel, rfl, by decide +kernel, by decide +kernel⟩
abbrev s_Book_change : Stmt := inClass (topS 35) 7
theorem sc_Book_change : FnScope ["self", "key", "value"] ["self", "key", "value"] (defScope s_Book_change) := ⟨rfl, rfl, rfl, by decide +kernel, rfl, by decide +kernel, by decide +kernel⟩
abbrev s_Book_value_of : Stmt := inClass (topS 35) 8
theorem sc_Book_value_of : FnScope ["self", "key"] ["self", "key"] (defScope s_Book_value_of) := ⟨rfl, rfl, rfl, by decide +kernel, rfl, by decide +kernel, by decide +kernel⟩
abbrev s_Thing___init__ : Stmt := inClass (topS 38) 0
theorem sc_Thing___init__ : FnScope ["self", "brand"] ["self", "brand"] (defScope s_Thing___init__) := ⟨rfl, rfl, rfl, by decide +kernel, rfl, by decide +kernel, by decide +kernel⟩
abbrev s_Thing_shape : Stmt := inClass (topS 38) 1
theorem sc_Thing_shape : FnScope ["self"] ["self"] (defScope s_Thing_shape) := ⟨rfl, rfl, rfl, by decide +kernel, rfl, by decide +kernel, by decide +kernel⟩
abbrev s_Thing_brand : Stmt := inClass (topS 38) 2
theorem sc_Thing_brand : FnScope ["self"] ["self"] (defScope s_Thing_brand) := ⟨rfl, rfl, rfl, by decide +kernel, rfl, by decide +kernel, by decide +kernel⟩
abbrev s_Thing_fields : Stmt := inClass (topS 38) 3
theorem sc_Thing_fields : FnScope ["self", "label", "value"] ["self"] (defScope s_Thing_fields) := ⟨rfl, rfl, rfl, by decide +kernel, rfl, by decide +kernel, by decide +kernel⟩
abbrev s_Thing_children : Stmt := inClass (topS 38) 4
theorem sc_Thing_children : FnScope ["self"] ["self"] (defScope s_Thing_children) := ⟨rfl, rfl, rfl, by decide +kernel, rfl, by decide +kernel, by decide +kernel⟩
abbrev s_Thing_set_field : Stmt := inClass (topS 38) 5
theorem sc_Thing_set_field : FnScope ["self", "label", "value"] ["self", "label", "value"] (defScope s_Thing_set_field) := ⟨rfl, rfl, rfl, by decide +kernel, rfl, by decide +kernel, by decide +kernel⟩
abbrev s_Thing_field : Stmt := inClass (topS 38) 6
theorem sc_Thing_field : FnScope ["self", "label"] ["self", "label"] (defScope s_Thing_field) := ⟨rfl, rfl, rfl, by decide +kernel, rfl, by decide +kernel, by decide +kernel⟩
abbrev s_check_labels : Stmt := topS 40
theorem sc_check_labels : FnScope ["labels", "known", "label"] ["labels"] (defScope s_check_labels) := ⟨rfl, rfl, rfl, by decide +kernel, rfl, by decide +kernel, by decide +kernel⟩
abbrev s_Fields___init__ : Stmt := inClass (topS 41) 0
theorem sc_Fields___init__ : FnScope ["self", "brand", "labels"] ["self", "brand", "labels"] (defScope s_Fields___init__) := ⟨rfl, rfl, rfl, by decide +kernel, rfl, by decide +kernel, by decide +kernel⟩
abbrev s_Fields___call__ : Stmt := inClass (topS 41) 1
theorem sc_Fields___call__ : FnScope ["self", "arguments", "thing", "label", "value"] ["self", "arguments"] (defScope s_Fields___call__) := ⟨rfl, rfl, rfl, by decide +kernel, rfl, by decide +kernel, by decide +kernel⟩
abbrev s_Single___init__ : Stmt := inClass (topS 42) 0
theorem sc_Single___init__ : FnScope ["self", "thing"] ["self", "thing"] (defScope s_Single___init__) := ⟨rfl, rfl, rfl, by decide +kernel, rfl, by decide +kernel, by decide +kernel⟩
abbrev s_Single___call__ : Stmt := inClass (topS 42) 1
theorem sc_Single___call__ : FnScope ["self", "arguments"] ["self", "arguments"] (defScope s_Single___call__) := ⟨rfl, rfl, rfl, by decide +kernel, rfl, by decide +kernel, by decide +kernel⟩
abbrev s_Parts___init__ : Stmt := inClass (topS 43) 0
theorem sc_Parts___init__ : FnScope ["self", "labels"] ["self", "labels"] (defScope s_Parts___init__) := ⟨rfl, rfl, rfl, by decide +kernel, rfl, by decide +kernel, by decide +kernel⟩
abbrev s_Parts___call__ : Stmt := inClass (topS 43) 1
theorem sc_Parts___call__ : FnScope ["self", "thing", "label"] ["self", "thing"] (defScope s_Parts___call__) := ⟨rfl, rfl, rfl, by decide +kernel, rfl, by decide +kernel, by decide +kernel⟩
abbrev s_Whole___call__ : Stmt := inClass (topS 44) 0
theorem sc_Whole___call__ : FnScope ["self", "thing"] ["self", "thing"] (defScope s_Whole___call__) := ⟨rfl, rfl, rfl, by decide +kernel, rfl, by decide +kernel, by decide +kernel⟩
abbrev s_Refill___call__ : Stmt := inClass (topS 45) 0
theorem sc_Refill___call__ : FnScope ["self", "thing", "state", "label", "value"] ["self", "thing", "state"] (defScope s_Refill___call__) := ⟨rfl, rfl, rfl, by decide +kernel, rfl, by decide +kernel, by decide +kernel⟩
abbrev s__law_begin : Stmt := topS 47
theorem sc__law_begin : FnScope ["script"] ["script"] (defScope s__law_begin) := ⟨rfl, rfl, rfl, by decide +kernel, rfl, by decide +kernel, by decide +kernel⟩
abbrev s__law_mixed : Stmt := topS 48
theorem sc__law_mixed : FnScope ["cell", "k", "mixed"] ["cell", "k"] (defScope s__law_mixed) := ⟨rfl, rfl, rfl, by decide +kernel, rfl, by decide +kernel, by decide +kernel⟩
abbrev s__law_next : Stmt := topS 49
theorem sc__law_next : FnScope ["draw", "bound", "found", "cells", "cell"] ["draw", "bound"] (defScope s__law_next) := ⟨rfl, rfl, rfl, by decide +kernel, rfl, by decide +kernel, by decide +kernel⟩
abbrev s__law_atom : Stmt := topS 50
theorem sc__law_atom : FnScope ["draw", "some"] ["draw"] (defScope s__law_atom) := ⟨rfl, rfl, rfl, by decide +kernel, rfl, by decide +kernel, by decide +kernel⟩
abbrev s__law_labels : Stmt := topS 52
theorem sc__law_labels : FnScope ["draw", "many", "some", "found", "turn"] ["draw", "many"] (defScope s__law_labels) := ⟨rfl, rfl, rfl, by decide +kernel, rfl, by decide +kernel, by decide +kernel⟩
abbrev s__law_thing : Stmt := topS 58
theorem sc__law_thing : FnScope ["draw", "most", "made", "pairs_here", "one", "far"] ["draw", "most"] (defScope s__law_thing) := ⟨rfl, rfl, rfl, by decide +kernel, rfl, by decide +kernel, by decide +kernel⟩
abbrev s__law_like : Stmt := topS 59
theorem sc__law_like : FnScope ["pairs_here", "others", "one", "far", "other", "value_here", "is_node"] ["pairs_here", "others"] (defScope s__law_like) := ⟨rfl, rfl, rfl, by decide +kernel, rfl, by decide +kernel, by decide +kernel⟩
abbrev s__law_fields_right : Stmt := topS 60
theorem sc__law_fields_right : FnScope ["draw", "words", "items", "hook", "first_word", "next_word", "one", "other", "due", "at"] ["draw", "words", "items"] (defScope s__law_fields_right) := ⟨rfl, rfl, rfl, by decide +kernel, rfl, by decide +kernel, by decide +kernel⟩
abbrev s__law_taken_right : Stmt := topS 61
theorem sc__law_taken_right : FnScope ["made", "pairs_here", "words", "hook", "row", "rest", "some", "one", "far", "due", "word", "again", "told", "whole", "other"] ["made", "pairs_here", "words"] (defScope s__law_taken_right) := ⟨rfl, rfl, rfl, by decide +kernel, rfl, by decide +kernel, by decide +kernel⟩
abbrev s__law_refilled_right : Stmt := topS 62
theorem sc__law_refilled_right : FnScope ["draw", "made", "pairs_here", "book", "due", "one", "far", "known", "word", "old", "shown", "hook"] ["draw", "made", "pairs_here"] (defScope s__law_refilled_right) := ⟨rfl, rfl, rfl, by decide +kernel, rfl, by decide +kernel, by decide +kernel⟩
abbrev s_law : Stmt := topS 63
theorem sc_law : FnScope ["script", "draw", "turn", "words", "items", "one", "made", "pairs_here", "lone", "far"] ["script"] (defScope s_law) := ⟨rfl, rfl, rfl, by decide +kernel, rfl, by decide +kernel, by decide +kernel⟩
structure Adr where
  _wall : Addr
  is_integer : Addr
  is_whole_atom : Addr
  is_text : Addr
  is_key : Addr
  is_atom : Addr
  is_brand : Addr
  holds_value : Addr
  check_value : Addr
  check_key : Addr
  check_label : Addr
  Node_shape : Addr
  Node_children : Addr
  Sequence___init__ : Addr
  Sequence_parts : Addr
  Sequence_children : Addr
  Row_of : Addr
  Row_shape : Addr
  Row_put_last : Addr
  Row_put_at : Addr
  Book___init__ : Addr
  Book_of : Addr
  Book_shape : Addr
  Book_pairs : Addr
  Book_children : Addr
  Book_enter : Addr
  Book_check_entry : Addr
  Book_change : Addr
  Book_value_of : Addr
  Thing___init__ : Addr
  Thing_shape : Addr
  Thing_brand : Addr
  Thing_fields : Addr
  Thing_children : Addr
  Thing_set_field : Addr
  Thing_field : Addr
  check_labels : Addr
  Fields___init__ : Addr
  Fields___call__ : Addr
  Single___init__ : Addr
  Single___call__ : Addr
  Parts___init__ : Addr
  Parts___call__ : Addr
  Whole___call__ : Addr
  Refill___call__ : Addr
  _law_begin : Addr
  _law_mixed : Addr
  _law_next : Addr
  _law_atom : Addr
  _law_labels : Addr
  _law_thing : Addr
  _law_like : Addr
  _law_fields_right : Addr
  _law_taken_right : Addr
  _law_refilled_right : Addr
  law : Addr
  JarError : Addr
  InvalidValue : Addr
  InvalidKey : Addr
  InvalidBrand : Addr
  StateError : Addr
  KeyTaken : Addr
  MissingError : Addr
  NoEntry : Addr
  Node : Addr
  Sequence : Addr
  Row : Addr
  Book : Addr
  Thing : Addr
  Fields : Addr
  Single : Addr
  Parts : Addr
  Whole : Addr
  Refill : Addr
  InvalidValue_i : Addr
  InvalidValue_c : Addr
  InvalidValue_d : Addr
  InvalidKey_i : Addr
  InvalidKey_c : Addr
  InvalidKey_d : Addr
  InvalidBrand_i : Addr
  InvalidBrand_c : Addr
  InvalidBrand_d : Addr
  KeyTaken_i : Addr
  KeyTaken_c : Addr
  KeyTaken_d : Addr
  NoEntry_i : Addr
  NoEntry_c : Addr
  NoEntry_d : Addr
  Node_shape_p : Addr
  Sequence_parts_p : Addr
  Row_of_p : Addr
  Row_shape_p : Addr
  Book_of_p : Addr
  Book_shape_p : Addr
  Book_pairs_p : Addr
  Thing_shape_p : Addr
  Thing_brand_p : Addr
  Thing_fields_p : Addr
structure Txt (P : Program) (K : PySem.W.Frag) (mg : Str → Option Value) (a : Adr) : Prop where
  b_all : mg "all" = none
  b_bool : mg "bool" = none
  b_classmethod : mg "classmethod" = none
  b_int : mg "int" = none
  b_isinstance : mg "isinstance" = none
  b_len : mg "len" = none
  b_list : mg "list" = none
  b_min : mg "min" = none
  b_property : mg "property" = none
  b_range : mg "range" = none
  b_repr : mg "repr" = none
  b_str : mg "str" = none
  b_tuple : mg "tuple" = none
  b_zip : mg "zip" = none
  b_super : mg "super" = none
  c_MOST_INTEGER : ∃ t, mg "MOST_INTEGER" = some (.int (1000000000000000000000000000000000000000000000000000000000000000000000000000000000000000000000000000000000000000000000000000000000000000000000000000000000000000000000000000000000000000000000000000000000000000000000000000000000000000000000000000000000000000000000000000000000000000000000000000000000000) t)
  c_MOST_CHARACTERS : ∃ t, mg "MOST_CHARACTERS" = some (.int (2000) t)
  c_MOST_NUMBERS : ∃ t, mg "MOST_NUMBERS" = some (.int (2000) t)
  c_MOST_BRAND : ∃ t, mg "MOST_BRAND" = some (.int (40) t)
  c_BAG : ∃ t, mg "BAG" = some (.str "bag" t)
  c_LETTERS : ∃ t, mg "LETTERS" = some (.str "abcdefghijklmnopqrstuvwxyzABCDEFGHIJKLMNOPQRSTUVWXYZ" t)
  c_OTHERS : ∃ t, mg "OTHERS" = some (.str "._0123456789" t)
  g__wall : mg "_wall" = some (.ref a._wall)
  k__wall : PySem.W.keepIn K (.ref a._wall) = true
  d__wall : DefAt K "_wall" "_wall" s__wall a._wall ["k"]
  g_is_integer : mg "is_integer" = some (.ref a.is_integer)
  k_is_integer : PySem.W.keepIn K (.ref a.is_integer) = true
  d_is_integer : DefAt K "is_integer" "is_integer" s_is_integer a.is_integer ["thing"]
  g_is_whole_atom : mg "is_whole_atom" = some (.ref a.is_whole_atom)
  k_is_whole_atom : PySem.W.keepIn K (.ref a.is_whole_atom) = true
  d_is_whole_atom : DefAt K "is_whole_atom" "is_whole_atom" s_is_whole_atom a.is_whole_atom ["thing"]
  g_is_text : mg "is_text" = some (.ref a.is_text)
  k_is_text : PySem.W.keepIn K (.ref a.is_text) = true
  d_is_text : DefAt K "is_text" "is_text" s_is_text a.is_text ["thing"]
  g_is_key : mg "is_key" = some (.ref a.is_key)
  k_is_key : PySem.W.keepIn K (.ref a.is_key) = true
  d_is_key : DefAt K "is_key" "is_key" s_is_key a.is_key ["thing"]
  g_is_atom : mg "is_atom" = some (.ref a.is_atom)
  k_is_atom : PySem.W.keepIn K (.ref a.is_atom) = true
  d_is_atom : DefAt K "is_atom" "is_atom" s_is_atom a.is_atom ["thing"]
  g_is_brand : mg "is_brand" = some (.ref a.is_brand)
  k_is_brand : PySem.W.keepIn K (.ref a.is_brand) = true
  d_is_brand : DefAt K "is_brand" "is_brand" s_is_brand a.is_brand ["thing"]
  g_holds_value : mg "holds_value" = some (.ref a.holds_value)
  k_holds_value : PySem.W.keepIn K (.ref a.holds_value) = true
  d_holds_value : DefAt K "holds_value" "holds_value" s_holds_value a.holds_value ["thing"]
  g_check_value : mg "check_value" = some (.ref a.check_value)
  k_check_value : PySem.W.keepIn K (.ref a.check_value) = true
  d_check_value : DefAt K "check_value" "check_value" s_check_value a.check_value ["value"]
  g_check_key : mg "check_key" = some (.ref a.check_key)
  k_check_key : PySem.W.keepIn K (.ref a.check_key) = true
  d_check_key : DefAt K "check_key" "check_key" s_check_key a.check_key ["key"]
  g_check_label : mg "check_label" = some (.ref a.check_label)
  k_check_label : PySem.W.keepIn K (.ref a.check_label) = true
  d_check_label : DefAt K "check_label" "check_label" s_check_label a.check_label ["label"]
  k_Node_shape : PySem.W.keepIn K (.ref a.Node_shape) = true
  d_Node_shape : DefAt K "shape" "Node.shape" s_Node_shape a.Node_shape ["self"]
  k_Node_children : PySem.W.keepIn K (.ref a.Node_children) = true
  d_Node_children : DefAt K "children" "Node.children" s_Node_children a.Node_children ["self"]
  k_Sequence___init__ : PySem.W.keepIn K (.ref a.Sequence___init__) = true
  d_Sequence___init__ : DefS K "__init__" "Sequence.__init__" s_Sequence___init__ a.Sequence___init__ ["self"] "parts"
  k_Sequence_parts : PySem.W.keepIn K (.ref a.Sequence_parts) = true
  d_Sequence_parts : DefAt K "parts" "Sequence.parts" s_Sequence_parts a.Sequence_parts ["self"]
  k_Sequence_children : PySem.W.keepIn K (.ref a.Sequence_children) = true
  d_Sequence_children : DefAt K "children" "Sequence.children" s_Sequence_children a.Sequence_children ["self"]
  k_Row_of : PySem.W.keepIn K (.ref a.Row_of) = true
  d_Row_of : DefAt K "of" "Row.of" s_Row_of a.Row_of ["cls", "parts"]
  k_Row_shape : PySem.W.keepIn K (.ref a.Row_shape) = true
  d_Row_shape : DefAt K "shape" "Row.shape" s_Row_shape a.Row_shape ["self"]
  k_Row_put_last : PySem.W.keepIn K (.ref a.Row_put_last) = true
  d_Row_put_last : DefAt K "put_last" "Row.put_last" s_Row_put_last a.Row_put_last ["self", "value"]
  k_Row_put_at : PySem.W.keepIn K (.ref a.Row_put_at) = true
  d_Row_put_at : DefAt K "put_at" "Row.put_at" s_Row_put_at a.Row_put_at ["self", "index", "value"]
  k_Book___init__ : PySem.W.keepIn K (.ref a.Book___init__) = true
  d_Book___init__ : DefAt K "__init__" "Book.__init__" s_Book___init__ a.Book___init__ ["self"]
  k_Book_of : PySem.W.keepIn K (.ref a.Book_of) = true
  d_Book_of : DefAt K "of" "Book.of" s_Book_of a.Book_of ["cls", "pairs"]
  k_Book_shape : PySem.W.keepIn K (.ref a.Book_shape) = true
  d_Book_shape : DefAt K "shape" "Book.shape" s_Book_shape a.Book_shape ["self"]
  k_Book_pairs : PySem.W.keepIn K (.ref a.Book_pairs) = true
  d_Book_pairs : DefAt K "pairs" "Book.pairs" s_Book_pairs a.Book_pairs ["self"]
  k_Book_children : PySem.W.keepIn K (.ref a.Book_children) = true
  d_Book_children : DefAt K "children" "Book.children" s_Book_children a.Book_children ["self"]
  k_Book_enter : PySem.W.keepIn K (.ref a.Book_enter) = true
  d_Book_enter : DefAt K "enter" "Book.enter" s_Book_enter a.Book_enter ["self", "key", "value"]
  k_Book_check_entry : PySem.W.keepIn K (.ref a.Book_check_entry) = true
  d_Book_check_entry : DefAt K "check_entry" "Book.check_entry" s_Book_check_entry a.Book_check_entry ["self", "key"]
  k_Book_change : PySem.W.keepIn K (.ref a.Book_change) = true
  d_Book_change : DefAt K "change" "Book.change" s_Book_change a.Book_change ["self", "key", "value"]
  k_Book_value_of : PySem.W.keepIn K (.ref a.Book_value_of) = true
  d_Book_value_of : DefAt K "value_of" "Book.value_of" s_Book_value_of a.Book_value_of ["self", "key"]
  k_Thing___init__ : PySem.W.keepIn K (.ref a.Thing___init__) = true
  d_Thing___init__ : DefAt K "__init__" "Thing.__init__" s_Thing___init__ a.Thing___init__ ["self", "brand"]
  k_Thing_shape : PySem.W.keepIn K (.ref a.Thing_shape) = true
  d_Thing_shape : DefAt K "shape" "Thing.shape" s_Thing_shape a.Thing_shape ["self"]
  k_Thing_brand : PySem.W.keepIn K (.ref a.Thing_brand) = true
  d_Thing_brand : DefAt K "brand" "Thing.brand" s_Thing_brand a.Thing_brand ["self"]
  k_Thing_fields : PySem.W.keepIn K (.ref a.Thing_fields) = true
  d_Thing_fields : DefAt K "fields" "Thing.fields" s_Thing_fields a.Thing_fields ["self"]
  k_Thing_children : PySem.W.keepIn K (.ref a.Thing_children) = true
  d_Thing_children : DefAt K "children" "Thing.children" s_Thing_children a.Thing_children ["self"]
  k_Thing_set_field : PySem.W.keepIn K (.ref a.Thing_set_field) = true
  d_Thing_set_field : DefAt K "set_field" "Thing.set_field" s_Thing_set_field a.Thing_set_field ["self", "label", "value"]
  k_Thing_field : PySem.W.keepIn K (.ref a.Thing_field) = true
  d_Thing_field : DefAt K "field" "Thing.field" s_Thing_field a.Thing_field ["self", "label"]
  g_check_labels : mg "check_labels" = some (.ref a.check_labels)
  k_check_labels : PySem.W.keepIn K (.ref a.check_labels) = true
  d_check_labels : DefAt K "check_labels" "check_labels" s_check_labels a.check_labels ["labels"]
  k_Fields___init__ : PySem.W.keepIn K (.ref a.Fields___init__) = true
  d_Fields___init__ : DefS K "__init__" "Fields.__init__" s_Fields___init__ a.Fields___init__ ["self", "brand"] "labels"
  k_Fields___call__ : PySem.W.keepIn K (.ref a.Fields___call__) = true
  d_Fields___call__ : DefAt K "__call__" "Fields.__call__" s_Fields___call__ a.Fields___call__ ["self", "arguments"]
  k_Single___init__ : PySem.W.keepIn K (.ref a.Single___init__) = true
  d_Single___init__ : DefAt K "__init__" "Single.__init__" s_Single___init__ a.Single___init__ ["self", "thing"]
  k_Single___call__ : PySem.W.keepIn K (.ref a.Single___call__) = true
  d_Single___call__ : DefAt K "__call__" "Single.__call__" s_Single___call__ a.Single___call__ ["self", "arguments"]
  k_Parts___init__ : PySem.W.keepIn K (.ref a.Parts___init__) = true
  d_Parts___init__ : DefS K "__init__" "Parts.__init__" s_Parts___init__ a.Parts___init__ ["self"] "labels"
  k_Parts___call__ : PySem.W.keepIn K (.ref a.Parts___call__) = true
  d_Parts___call__ : DefAt K "__call__" "Parts.__call__" s_Parts___call__ a.Parts___call__ ["self", "thing"]
  k_Whole___call__ : PySem.W.keepIn K (.ref a.Whole___call__) = true
  d_Whole___call__ : DefAt K "__call__" "Whole.__call__" s_Whole___call__ a.Whole___call__ ["self", "thing"]
  k_Refill___call__ : PySem.W.keepIn K (.ref a.Refill___call__) = true
  d_Refill___call__ : DefAt K "__call__" "Refill.__call__" s_Refill___call__ a.Refill___call__ ["self", "thing", "state"]
  g__law_begin : mg "_law_begin" = some (.ref a._law_begin)
  k__law_begin : PySem.W.keepIn K (.ref a._law_begin) = true
  d__law_begin : DefAt K "_law_begin" "_law_begin" s__law_begin a._law_begin ["script"]
  g__law_mixed : mg "_law_mixed" = some (.ref a._law_mixed)
  k__law_mixed : PySem.W.keepIn K (.ref a._law_mixed) = true
  d__law_mixed : DefAt K "_law_mixed" "_law_mixed" s__law_mixed a._law_mixed ["cell", "k"]
  g__law_next : mg "_law_next" = some (.ref a._law_next)
  k__law_next : PySem.W.keepIn K (.ref a._law_next) = true
  d__law_next : DefAt K "_law_next" "_law_next" s__law_next a._law_next ["draw", "bound"]
  g__law_atom : mg "_law_atom" = some (.ref a._law_atom)
  k__law_atom : PySem.W.keepIn K (.ref a._law_atom) = true
  d__law_atom : DefAt K "_law_atom" "_law_atom" s__law_atom a._law_atom ["draw"]
  g__law_labels : mg "_law_labels" = some (.ref a._law_labels)
  k__law_labels : PySem.W.keepIn K (.ref a._law_labels) = true
  d__law_labels : DefAt K "_law_labels" "_law_labels" s__law_labels a._law_labels ["draw", "many"]
  g__law_thing : mg "_law_thing" = some (.ref a._law_thing)
  k__law_thing : PySem.W.keepIn K (.ref a._law_thing) = true
  d__law_thing : DefAt K "_law_thing" "_law_thing" s__law_thing a._law_thing ["draw", "most"]
  g__law_like : mg "_law_like" = some (.ref a._law_like)
  k__law_like : PySem.W.keepIn K (.ref a._law_like) = true
  d__law_like : DefAt K "_law_like" "_law_like" s__law_like a._law_like ["pairs_here", "others"]
  g__law_fields_right : mg "_law_fields_right" = some (.ref a._law_fields_right)
  k__law_fields_right : PySem.W.keepIn K (.ref a._law_fields_right) = true
  d__law_fields_right : DefAt K "_law_fields_right" "_law_fields_right" s__law_fields_right a._law_fields_right ["draw", "words", "items"]
  g__law_taken_right : mg "_law_taken_right" = some (.ref a._law_taken_right)
  k__law_taken_right : PySem.W.keepIn K (.ref a._law_taken_right) = true
  d__law_taken_right : DefAt K "_law_taken_right" "_law_taken_right" s__law_taken_right a._law_taken_right ["made", "pairs_here", "words"]
  g__law_refilled_right : mg "_law_refilled_right" = some (.ref a._law_refilled_right)
  k__law_refilled_right : PySem.W.keepIn K (.ref a._law_refilled_right) = true
  d__law_refilled_right : DefAt K "_law_refilled_right" "_law_refilled_right" s__law_refilled_right a._law_refilled_right ["draw", "made", "pairs_here"]
  g_law : mg "law" = some (.ref a.law)
  k_law : PySem.W.keepIn K (.ref a.law) = true
  d_law : DefAt K "law" "law" s_law a.law ["script"]
  g_JarError : mg "JarError" = some (.ref a.JarError)
  x_JarError : PySem.W.subIn K (.ref a.JarError) (.type "BaseException") = some true
  t_JarError : PySem.W.typeIn K (.ref a.JarError) = some (.type "type")
  h_JarError : PySem.W.hasDictIn K a.JarError = true
  g_InvalidValue : mg "InvalidValue" = some (.ref a.InvalidValue)
  x_InvalidValue : PySem.W.subIn K (.ref a.InvalidValue) (.type "BaseException") = some true
  t_InvalidValue : PySem.W.typeIn K (.ref a.InvalidValue) = some (.type "type")
  h_InvalidValue : PySem.W.hasDictIn K a.InvalidValue = true
  e_InvalidValue : ErrK P K mg a.InvalidValue a.InvalidValue_i a.InvalidValue_c a.InvalidValue_d "ValueError" "ValueError.__init__" "ValueError.__new__" [.type "ValueError", .type "Exception", .type "BaseException", .type "object"] "InvalidValue" ["value"]
  i_InvalidValue : IniK K a.InvalidValue_i a.InvalidValue_c a.InvalidValue_d "InvalidValue.__init__" "not a value" ["value"]
  k_InvalidValue : PySem.W.keepIn K (.ref a.InvalidValue) = true
  R_InvalidValue : ErrR K a.InvalidValue
  n_InvalidValue_value : PySem.W.findIn K (.ref a.InvalidValue) "value" = some none
  g_InvalidKey : mg "InvalidKey" = some (.ref a.InvalidKey)
  x_InvalidKey : PySem.W.subIn K (.ref a.InvalidKey) (.type "BaseException") = some true
  t_InvalidKey : PySem.W.typeIn K (.ref a.InvalidKey) = some (.type "type")
  h_InvalidKey : PySem.W.hasDictIn K a.InvalidKey = true
  e_InvalidKey : ErrK P K mg a.InvalidKey a.InvalidKey_i a.InvalidKey_c a.InvalidKey_d "ValueError" "ValueError.__init__" "ValueError.__new__" [.type "ValueError", .type "Exception", .type "BaseException", .type "object"] "InvalidKey" ["key"]
  i_InvalidKey : IniK K a.InvalidKey_i a.InvalidKey_c a.InvalidKey_d "InvalidKey.__init__" "invalid key" ["key"]
  k_InvalidKey : PySem.W.keepIn K (.ref a.InvalidKey) = true
  R_InvalidKey : ErrR K a.InvalidKey
  n_InvalidKey_key : PySem.W.findIn K (.ref a.InvalidKey) "key" = some none
  g_InvalidBrand : mg "InvalidBrand" = some (.ref a.InvalidBrand)
  x_InvalidBrand : PySem.W.subIn K (.ref a.InvalidBrand) (.type "BaseException") = some true
  t_InvalidBrand : PySem.W.typeIn K (.ref a.InvalidBrand) = some (.type "type")
  h_InvalidBrand : PySem.W.hasDictIn K a.InvalidBrand = true
  e_InvalidBrand : ErrK P K mg a.InvalidBrand a.InvalidBrand_i a.InvalidBrand_c a.InvalidBrand_d "ValueError" "ValueError.__init__" "ValueError.__new__" [.type "ValueError", .type "Exception", .type "BaseException", .type "object"] "InvalidBrand" ["given"]
  i_InvalidBrand : IniK K a.InvalidBrand_i a.InvalidBrand_c a.InvalidBrand_d "InvalidBrand.__init__" "invalid brand" ["given"]
  k_InvalidBrand : PySem.W.keepIn K (.ref a.InvalidBrand) = true
  R_InvalidBrand : ErrR K a.InvalidBrand
  n_InvalidBrand_given : PySem.W.findIn K (.ref a.InvalidBrand) "given" = some none
  g_StateError : mg "StateError" = some (.ref a.StateError)
  x_StateError : PySem.W.subIn K (.ref a.StateError) (.type "BaseException") = some true
  t_StateError : PySem.W.typeIn K (.ref a.StateError) = some (.type "type")
  h_StateError : PySem.W.hasDictIn K a.StateError = true
  g_KeyTaken : mg "KeyTaken" = some (.ref a.KeyTaken)
  x_KeyTaken : PySem.W.subIn K (.ref a.KeyTaken) (.type "BaseException") = some true
  t_KeyTaken : PySem.W.typeIn K (.ref a.KeyTaken) = some (.type "type")
  h_KeyTaken : PySem.W.hasDictIn K a.KeyTaken = true
  e_KeyTaken : ErrK P K mg a.KeyTaken a.KeyTaken_i a.KeyTaken_c a.KeyTaken_d "RuntimeError" "RuntimeError.__init__" "RuntimeError.__new__" [.type "RuntimeError", .type "Exception", .type "BaseException", .type "object"] "KeyTaken" ["key"]
  i_KeyTaken : IniK K a.KeyTaken_i a.KeyTaken_c a.KeyTaken_d "KeyTaken.__init__" "the key is there already" ["key"]
  k_KeyTaken : PySem.W.keepIn K (.ref a.KeyTaken) = true
  R_KeyTaken : ErrR K a.KeyTaken
  n_KeyTaken_key : PySem.W.findIn K (.ref a.KeyTaken) "key" = some none
  g_MissingError : mg "MissingError" = some (.ref a.MissingError)
  x_MissingError : PySem.W.subIn K (.ref a.MissingError) (.type "BaseException") = some true
  t_MissingError : PySem.W.typeIn K (.ref a.MissingError) = some (.type "type")
  h_MissingError : PySem.W.hasDictIn K a.MissingError = true
  g_NoEntry : mg "NoEntry" = some (.ref a.NoEntry)
  x_NoEntry : PySem.W.subIn K (.ref a.NoEntry) (.type "BaseException") = some true
  t_NoEntry : PySem.W.typeIn K (.ref a.NoEntry) = some (.type "type")
  h_NoEntry : PySem.W.hasDictIn K a.NoEntry = true
  e_NoEntry : ErrK P K mg a.NoEntry a.NoEntry_i a.NoEntry_c a.NoEntry_d "LookupError" "LookupError.__init__" "LookupError.__new__" [.type "LookupError", .type "Exception", .type "BaseException", .type "object"] "NoEntry" ["key"]
  i_NoEntry : IniK K a.NoEntry_i a.NoEntry_c a.NoEntry_d "NoEntry.__init__" "no such entry" ["key"]
  k_NoEntry : PySem.W.keepIn K (.ref a.NoEntry) = true
  R_NoEntry : ErrR K a.NoEntry
  n_NoEntry_key : PySem.W.findIn K (.ref a.NoEntry) "key" = some none
  g_Node : mg "Node" = some (.ref a.Node)
  c_Node : Cls K a.Node
  k_Node : PySem.W.keepIn K (.ref a.Node) = true
  e_Node : IdEq K a.Node
  t_Node : PySem.W.typeIn K (.ref a.Node) = some (.type "type")
  p_Node_shape : PropOf K a.Node "shape" a.Node_shape_p a.Node_shape
  p_Node_children : Meth K a.Node "children" a.Node_children
  g_Sequence : mg "Sequence" = some (.ref a.Sequence)
  c_Sequence : Cls K a.Sequence
  k_Sequence : PySem.W.keepIn K (.ref a.Sequence) = true
  e_Sequence : IdEq K a.Sequence
  t_Sequence : PySem.W.typeIn K (.ref a.Sequence) = some (.type "type")
  p_Sequence_shape : PropOf K a.Sequence "shape" a.Node_shape_p a.Node_shape
  p_Sequence_children : Meth K a.Sequence "children" a.Sequence_children
  m_Sequence : Mk K a.Sequence a.Sequence___init__
  p_Sequence_parts : PropOf K a.Sequence "parts" a.Sequence_parts_p a.Sequence_parts
  n_Sequence_kept : NoAttr K a.Sequence "kept"
  g_Row : mg "Row" = some (.ref a.Row)
  c_Row : Cls K a.Row
  k_Row : PySem.W.keepIn K (.ref a.Row) = true
  e_Row : IdEq K a.Row
  t_Row : PySem.W.typeIn K (.ref a.Row) = some (.type "type")
  r_Row : ClX.CRead K a.Row (.type "type")
  p_Row_shape : PropOf K a.Row "shape" a.Row_shape_p a.Row_shape
  p_Row_children : Meth K a.Row "children" a.Sequence_children
  m_Row : Mk K a.Row a.Sequence___init__
  p_Row_parts : PropOf K a.Row "parts" a.Sequence_parts_p a.Sequence_parts
  p_Row_of : ClX.CMet K a.Row (.type "type") "of" a.Row_of_p a.Row_of
  p_Row_put_last : Meth K a.Row "put_last" a.Row_put_last
  p_Row_put_at : Meth K a.Row "put_at" a.Row_put_at
  n_Row_kept : NoAttr K a.Row "kept"
  g_Book : mg "Book" = some (.ref a.Book)
  c_Book : Cls K a.Book
  k_Book : PySem.W.keepIn K (.ref a.Book) = true
  e_Book : IdEq K a.Book
  t_Book : PySem.W.typeIn K (.ref a.Book) = some (.type "type")
  r_Book : ClX.CRead K a.Book (.type "type")
  p_Book_shape : PropOf K a.Book "shape" a.Book_shape_p a.Book_shape
  p_Book_children : Meth K a.Book "children" a.Book_children
  m_Book : Mk K a.Book a.Book___init__
  p_Book_of : ClX.CMet K a.Book (.type "type") "of" a.Book_of_p a.Book_of
  p_Book_pairs : PropOf K a.Book "pairs" a.Book_pairs_p a.Book_pairs
  p_Book_enter : Meth K a.Book "enter" a.Book_enter
  p_Book_check_entry : Meth K a.Book "check_entry" a.Book_check_entry
  p_Book_change : Meth K a.Book "change" a.Book_change
  p_Book_value_of : Meth K a.Book "value_of" a.Book_value_of
  n_Book_entries : NoAttr K a.Book "entries"
  g_Thing : mg "Thing" = some (.ref a.Thing)
  c_Thing : Cls K a.Thing
  k_Thing : PySem.W.keepIn K (.ref a.Thing) = true
  e_Thing : IdEq K a.Thing
  t_Thing : PySem.W.typeIn K (.ref a.Thing) = some (.type "type")
  p_Thing_shape : PropOf K a.Thing "shape" a.Thing_shape_p a.Thing_shape
  p_Thing_children : Meth K a.Thing "children" a.Thing_children
  m_Thing : Mk K a.Thing a.Thing___init__
  p_Thing_brand : PropOf K a.Thing "brand" a.Thing_brand_p a.Thing_brand
  p_Thing_fields : PropOf K a.Thing "fields" a.Thing_fields_p a.Thing_fields
  p_Thing_set_field : Meth K a.Thing "set_field" a.Thing_set_field
  p_Thing_field : Meth K a.Thing "field" a.Thing_field
  n_Thing_called : NoAttr K a.Thing "called"
  n_Thing_settings : NoAttr K a.Thing "settings"
  g_Fields : mg "Fields" = some (.ref a.Fields)
  c_Fields : Cls K a.Fields
  k_Fields : PySem.W.keepIn K (.ref a.Fields) = true
  e_Fields : IdEq K a.Fields
  t_Fields : PySem.W.typeIn K (.ref a.Fields) = some (.type "type")
  m_Fields : Mk K a.Fields a.Fields___init__
  p_Fields___call__ : Meth K a.Fields "__call__" a.Fields___call__
  n_Fields_new_brand : NoAttr K a.Fields "new_brand"
  n_Fields_label_row : NoAttr K a.Fields "label_row"
  g_Single : mg "Single" = some (.ref a.Single)
  c_Single : Cls K a.Single
  k_Single : PySem.W.keepIn K (.ref a.Single) = true
  e_Single : IdEq K a.Single
  t_Single : PySem.W.typeIn K (.ref a.Single) = some (.type "type")
  m_Single : Mk K a.Single a.Single___init__
  p_Single___call__ : Meth K a.Single "__call__" a.Single___call__
  n_Single_only_thing : NoAttr K a.Single "only_thing"
  g_Parts : mg "Parts" = some (.ref a.Parts)
  c_Parts : Cls K a.Parts
  k_Parts : PySem.W.keepIn K (.ref a.Parts) = true
  e_Parts : IdEq K a.Parts
  t_Parts : PySem.W.typeIn K (.ref a.Parts) = some (.type "type")
  m_Parts : Mk K a.Parts a.Parts___init__
  p_Parts___call__ : Meth K a.Parts "__call__" a.Parts___call__
  n_Parts_label_row : NoAttr K a.Parts "label_row"
  g_Whole : mg "Whole" = some (.ref a.Whole)
  c_Whole : Cls K a.Whole
  k_Whole : PySem.W.keepIn K (.ref a.Whole) = true
  e_Whole : IdEq K a.Whole
  t_Whole : PySem.W.typeIn K (.ref a.Whole) = some (.type "type")
  p_Whole___call__ : Meth K a.Whole "__call__" a.Whole___call__
  g_Refill : mg "Refill" = some (.ref a.Refill)
  c_Refill : Cls K a.Refill
  k_Refill : PySem.W.keepIn K (.ref a.Refill) = true
  e_Refill : IdEq K a.Refill
  t_Refill : PySem.W.typeIn K (.ref a.Refill) = some (.type "type")
  p_Refill___call__ : Meth K a.Refill "__call__" a.Refill___call__
  u_InvalidValue_JarError : PySem.W.kitOne K (.ref a.InvalidValue) (.ref a.JarError) = some true
  v_InvalidValue_JarError : PySem.W.exmOne K (.ref a.InvalidValue) (.ref a.JarError) = some true
  u_InvalidValue_StateError : PySem.W.kitOne K (.ref a.InvalidValue) (.ref a.StateError) = some false
  v_InvalidValue_StateError : PySem.W.exmOne K (.ref a.InvalidValue) (.ref a.StateError) = some false
  u_InvalidValue_MissingError : PySem.W.kitOne K (.ref a.InvalidValue) (.ref a.MissingError) = some false
  v_InvalidValue_MissingError : PySem.W.exmOne K (.ref a.InvalidValue) (.ref a.MissingError) = some false
  u_InvalidKey_JarError : PySem.W.kitOne K (.ref a.InvalidKey) (.ref a.JarError) = some true
  v_InvalidKey_JarError : PySem.W.exmOne K (.ref a.InvalidKey) (.ref a.JarError) = some true
  u_InvalidKey_StateError : PySem.W.kitOne K (.ref a.InvalidKey) (.ref a.StateError) = some false
  v_InvalidKey_StateError : PySem.W.exmOne K (.ref a.InvalidKey) (.ref a.StateError) = some false
  u_InvalidKey_MissingError : PySem.W.kitOne K (.ref a.InvalidKey) (.ref a.MissingError) = some false
  v_InvalidKey_MissingError : PySem.W.exmOne K (.ref a.InvalidKey) (.ref a.MissingError) = some false
  u_InvalidBrand_JarError : PySem.W.kitOne K (.ref a.InvalidBrand) (.ref a.JarError) = some true
  v_InvalidBrand_JarError : PySem.W.exmOne K (.ref a.InvalidBrand) (.ref a.JarError) = some true
  u_InvalidBrand_StateError : PySem.W.kitOne K (.ref a.InvalidBrand) (.ref a.StateError) = some false
  v_InvalidBrand_StateError : PySem.W.exmOne K (.ref a.InvalidBrand) (.ref a.StateError) = some false
  u_InvalidBrand_MissingError : PySem.W.kitOne K (.ref a.InvalidBrand) (.ref a.MissingError) = some false
  v_InvalidBrand_MissingError : PySem.W.exmOne K (.ref a.InvalidBrand) (.ref a.MissingError) = some false
  u_KeyTaken_JarError : PySem.W.kitOne K (.ref a.KeyTaken) (.ref a.JarError) = some false
  v_KeyTaken_JarError : PySem.W.exmOne K (.ref a.KeyTaken) (.ref a.JarError) = some false
  u_KeyTaken_StateError : PySem.W.kitOne K (.ref a.KeyTaken) (.ref a.StateError) = some true
  v_KeyTaken_StateError : PySem.W.exmOne K (.ref a.KeyTaken) (.ref a.StateError) = some true
  u_KeyTaken_MissingError : PySem.W.kitOne K (.ref a.KeyTaken) (.ref a.MissingError) = some false
  v_KeyTaken_MissingError : PySem.W.exmOne K (.ref a.KeyTaken) (.ref a.MissingError) = some false
  u_NoEntry_JarError : PySem.W.kitOne K (.ref a.NoEntry) (.ref a.JarError) = some false
  v_NoEntry_JarError : PySem.W.exmOne K (.ref a.NoEntry) (.ref a.JarError) = some false
  u_NoEntry_StateError : PySem.W.kitOne K (.ref a.NoEntry) (.ref a.StateError) = some false
  v_NoEntry_StateError : PySem.W.exmOne K (.ref a.NoEntry) (.ref a.StateError) = some false
  u_NoEntry_MissingError : PySem.W.kitOne K (.ref a.NoEntry) (.ref a.MissingError) = some true
  v_NoEntry_MissingError : PySem.W.exmOne K (.ref a.NoEntry) (.ref a.MissingError) = some true
  u_InvalidValue_InvalidValue : PySem.W.kitOne K (.ref a.InvalidValue) (.ref a.InvalidValue) = some true
  v_InvalidValue_InvalidValue : PySem.W.exmOne K (.ref a.InvalidValue) (.ref a.InvalidValue) = some true
  u_InvalidValue_InvalidKey : PySem.W.kitOne K (.ref a.InvalidValue) (.ref a.InvalidKey) = some false
  v_InvalidValue_InvalidKey : PySem.W.exmOne K (.ref a.InvalidValue) (.ref a.InvalidKey) = some false
  u_InvalidValue_InvalidBrand : PySem.W.kitOne K (.ref a.InvalidValue) (.ref a.InvalidBrand) = some false
  v_InvalidValue_InvalidBrand : PySem.W.exmOne K (.ref a.InvalidValue) (.ref a.InvalidBrand) = some false
  u_InvalidValue_KeyTaken : PySem.W.kitOne K (.ref a.InvalidValue) (.ref a.KeyTaken) = some false
  v_InvalidValue_KeyTaken : PySem.W.exmOne K (.ref a.InvalidValue) (.ref a.KeyTaken) = some false
  u_InvalidValue_NoEntry : PySem.W.kitOne K (.ref a.InvalidValue) (.ref a.NoEntry) = some false
  v_InvalidValue_NoEntry : PySem.W.exmOne K (.ref a.InvalidValue) (.ref a.NoEntry) = some false
  u_InvalidKey_InvalidValue : PySem.W.kitOne K (.ref a.InvalidKey) (.ref a.InvalidValue) = some false
  v_InvalidKey_InvalidValue : PySem.W.exmOne K (.ref a.InvalidKey) (.ref a.InvalidValue) = some false
  u_InvalidKey_InvalidKey : PySem.W.kitOne K (.ref a.InvalidKey) (.ref a.InvalidKey) = some true
  v_InvalidKey_InvalidKey : PySem.W.exmOne K (.ref a.InvalidKey) (.ref a.InvalidKey) = some true
  u_InvalidKey_InvalidBrand : PySem.W.kitOne K (.ref a.InvalidKey) (.ref a.InvalidBrand) = some false
  v_InvalidKey_InvalidBrand : PySem.W.exmOne K (.ref a.InvalidKey) (.ref a.InvalidBrand) = some false
  u_InvalidKey_KeyTaken : PySem.W.kitOne K (.ref a.InvalidKey) (.ref a.KeyTaken) = some false
  v_InvalidKey_KeyTaken : PySem.W.exmOne K (.ref a.InvalidKey) (.ref a.KeyTaken) = some false
  u_InvalidKey_NoEntry : PySem.W.kitOne K (.ref a.InvalidKey) (.ref a.NoEntry) = some false
  v_InvalidKey_NoEntry : PySem.W.exmOne K (.ref a.InvalidKey) (.ref a.NoEntry) = some false
  u_InvalidBrand_InvalidValue : PySem.W.kitOne K (.ref a.InvalidBrand) (.ref a.InvalidValue) = some false
  v_InvalidBrand_InvalidValue : PySem.W.exmOne K (.ref a.InvalidBrand) (.ref a.InvalidValue) = some false
  u_InvalidBrand_InvalidKey : PySem.W.kitOne K (.ref a.InvalidBrand) (.ref a.InvalidKey) = some false
  v_InvalidBrand_InvalidKey : PySem.W.exmOne K (.ref a.InvalidBrand) (.ref a.InvalidKey) = some false
  u_InvalidBrand_InvalidBrand : PySem.W.kitOne K (.ref a.InvalidBrand) (.ref a.InvalidBrand) = some true
  v_InvalidBrand_InvalidBrand : PySem.W.exmOne K (.ref a.InvalidBrand) (.ref a.InvalidBrand) = some true
  u_InvalidBrand_KeyTaken : PySem.W.kitOne K (.ref a.InvalidBrand) (.ref a.KeyTaken) = some false
  v_InvalidBrand_KeyTaken : PySem.W.exmOne K (.ref a.InvalidBrand) (.ref a.KeyTaken) = some false
  u_InvalidBrand_NoEntry : PySem.W.kitOne K (.ref a.InvalidBrand) (.ref a.NoEntry) = some false
  v_InvalidBrand_NoEntry : PySem.W.exmOne K (.ref a.InvalidBrand) (.ref a.NoEntry) = some false
  u_KeyTaken_InvalidValue : PySem.W.kitOne K (.ref a.KeyTaken) (.ref a.InvalidValue) = some false
  v_KeyTaken_InvalidValue : PySem.W.exmOne K (.ref a.KeyTaken) (.ref a.InvalidValue) = some false
  u_KeyTaken_InvalidKey : PySem.W.kitOne K (.ref a.KeyTaken) (.ref a.InvalidKey) = some false
  v_KeyTaken_InvalidKey : PySem.W.exmOne K (.ref a.KeyTaken) (.ref a.InvalidKey) = some false
  u_KeyTaken_InvalidBrand : PySem.W.kitOne K (.ref a.KeyTaken) (.ref a.InvalidBrand) = some false
  v_KeyTaken_InvalidBrand : PySem.W.exmOne K (.ref a.KeyTaken) (.ref a.InvalidBrand) = some false
  u_KeyTaken_KeyTaken : PySem.W.kitOne K (.ref a.KeyTaken) (.ref a.KeyTaken) = some true
  v_KeyTaken_KeyTaken : PySem.W.exmOne K (.ref a.KeyTaken) (.ref a.KeyTaken) = some true
  u_KeyTaken_NoEntry : PySem.W.kitOne K (.ref a.KeyTaken) (.ref a.NoEntry) = some false
  v_KeyTaken_NoEntry : PySem.W.exmOne K (.ref a.KeyTaken) (.ref a.NoEntry) = some false
  u_NoEntry_InvalidValue : PySem.W.kitOne K (.ref a.NoEntry) (.ref a.InvalidValue) = some false
  v_NoEntry_InvalidValue : PySem.W.exmOne K (.ref a.NoEntry) (.ref a.InvalidValue) = some false
  u_NoEntry_InvalidKey : PySem.W.kitOne K (.ref a.NoEntry) (.ref a.InvalidKey) = some false
  v_NoEntry_InvalidKey : PySem.W.exmOne K (.ref a.NoEntry) (.ref a.InvalidKey) = some false
  u_NoEntry_InvalidBrand : PySem.W.kitOne K (.ref a.NoEntry) (.ref a.InvalidBrand) = some false
  v_NoEntry_InvalidBrand : PySem.W.exmOne K (.ref a.NoEntry) (.ref a.InvalidBrand) = some false
  u_NoEntry_KeyTaken : PySem.W.kitOne K (.ref a.NoEntry) (.ref a.KeyTaken) = some false
  v_NoEntry_KeyTaken : PySem.W.exmOne K (.ref a.NoEntry) (.ref a.KeyTaken) = some false
  u_NoEntry_NoEntry : PySem.W.kitOne K (.ref a.NoEntry) (.ref a.NoEntry) = some true
  v_NoEntry_NoEntry : PySem.W.exmOne K (.ref a.NoEntry) (.ref a.NoEntry) = some true
  w_NoneType : PySem.W.kitOne K (.type "NoneType") (.ref a.Node) = some false
  w_bool : PySem.W.kitOne K (.type "bool") (.ref a.Node) = some false
  w_int : PySem.W.kitOne K (.type "int") (.ref a.Node) = some false
  w_str : PySem.W.kitOne K (.type "str") (.ref a.Node) = some false
  w_list : PySem.W.kitOne K (.type "list") (.ref a.Node) = some false
  w_tuple : PySem.W.kitOne K (.type "tuple") (.ref a.Node) = some false
  w_dict : PySem.W.kitOne K (.type "dict") (.ref a.Node) = some false
  w_Row_Node : PySem.W.kitOne K (.ref a.Row) (.ref a.Node) = some true
  w_Row_int : PySem.W.kitOne K (.ref a.Row) (.type "int") = some false
  w_Row_bool : PySem.W.kitOne K (.ref a.Row) (.type "bool") = some false
  w_Row_str : PySem.W.kitOne K (.ref a.Row) (.type "str") = some false
  w_Row_tuple : PySem.W.kitOne K (.ref a.Row) (.type "tuple") = some false
  wc_Row : PySem.W.findIn K (.ref a.Row) "__class__" = some (some (.builtin "object.__class__"))
  w_Book_Node : PySem.W.kitOne K (.ref a.Book) (.ref a.Node) = some true
  w_Book_int : PySem.W.kitOne K (.ref a.Book) (.type "int") = some false
  w_Book_bool : PySem.W.kitOne K (.ref a.Book) (.type "bool") = some false
  w_Book_str : PySem.W.kitOne K (.ref a.Book) (.type "str") = some false
  w_Book_tuple : PySem.W.kitOne K (.ref a.Book) (.type "tuple") = some false
  wc_Book : PySem.W.findIn K (.ref a.Book) "__class__" = some (some (.builtin "object.__class__"))
  w_Thing_Node : PySem.W.kitOne K (.ref a.Thing) (.ref a.Node) = some true
  w_Thing_int : PySem.W.kitOne K (.ref a.Thing) (.type "int") = some false
  w_Thing_bool : PySem.W.kitOne K (.ref a.Thing) (.type "bool") = some false
  w_Thing_str : PySem.W.kitOne K (.ref a.Thing) (.type "str") = some false
  w_Thing_tuple : PySem.W.kitOne K (.ref a.Thing) (.type "tuple") = some false
  wc_Thing : PySem.W.findIn K (.ref a.Thing) "__class__" = some (some (.builtin "object.__class__"))
  wg : PySem.W.specialIn K (.builtin "object.__class__") "__get__" = some (some (.builtin "getset_descriptor.__get__"))
  wt : PySem.W.takesIn K (.builtin "object.__class__") = some true
  ne_Row : PySem.W.findIn K (.ref a.Row) "__ne__" = some (some (.builtin "object.__ne__"))
  ne_Book : PySem.W.findIn K (.ref a.Book) "__ne__" = some (some (.builtin "object.__ne__"))
  ne_Thing : PySem.W.findIn K (.ref a.Thing) "__ne__" = some (some (.builtin "object.__ne__"))
  w_Thing_Thing : PySem.W.kitOne K (.ref a.Thing) (.ref a.Thing) = some true
  w_Thing_Book : PySem.W.kitOne K (.ref a.Thing) (.ref a.Book) = some false
  w_Book_Thing : PySem.W.kitOne K (.ref a.Book) (.ref a.Thing) = some false
  w_Book_Book : PySem.W.kitOne K (.ref a.Book) (.ref a.Book) = some true
  ca_Fields : PySem.W.findIn K (.ref a.Fields) "__call__" = some (some (.ref a.Fields___call__))
  cf_Fields : PySem.W.isFn K (.ref a.Fields___call__) = true
  ci_Fields : PySem.W.fnIn K a.Fields___call__ = true
  ca_Single : PySem.W.findIn K (.ref a.Single) "__call__" = some (some (.ref a.Single___call__))
  cf_Single : PySem.W.isFn K (.ref a.Single___call__) = true
  ci_Single : PySem.W.fnIn K a.Single___call__ = true
  ca_Parts : PySem.W.findIn K (.ref a.Parts) "__call__" = some (some (.ref a.Parts___call__))
  cf_Parts : PySem.W.isFn K (.ref a.Parts___call__) = true
  ci_Parts : PySem.W.fnIn K a.Parts___call__ = true
  ca_Whole : PySem.W.findIn K (.ref a.Whole) "__call__" = some (some (.ref a.Whole___call__))
  cf_Whole : PySem.W.isFn K (.ref a.Whole___call__) = true
  ci_Whole : PySem.W.fnIn K a.Whole___call__ = true
  ca_Refill : PySem.W.findIn K (.ref a.Refill) "__call__" = some (some (.ref a.Refill___call__))
  cf_Refill : PySem.W.isFn K (.ref a.Refill___call__) = true
  ci_Refill : PySem.W.fnIn K a.Refill___call__ = true
  m0_Whole : PySem.W.makesIn K a.Whole = true
  i0_Whole : PySem.W.findIn K (.ref a.Whole) "__init__" = some (some (.builtin "object.__init__"))
  m0_Refill : PySem.W.makesIn K a.Refill = true
  i0_Refill : PySem.W.findIn K (.ref a.Refill) "__init__" = some (some (.builtin "object.__init__"))
end BJL

namespace BJL
open PySem PySem.Spec PyProof.Rows L2 BJ
section
variable {P : Program} {w : World} {K : PySem.W.Frag} {mg : Str → Option Value} {base : Heap} {a : Adr}
open Evl
def dInt : PyData → Bool | .int _ => true | .bool _ => true | _ => false
def dBool : PyData → Bool | .bool _ => true | _ => false
def dStr : PyData → Bool | .str _ => true | _ => false
def dTup : PyData → Bool | .tuple _ => true | _ => false
theorem kitD (d : PyData) : kitB (tyN d) "int" = some (dInt d) ∧ kitB (tyN d) "bool" = some (dBool d) ∧ kitB (tyN d) "str" = some (dStr d) ∧ kitB (tyN d) "tuple" = some (dTup d) := by
  cases d with
  | none => exact ⟨show kitB "NoneType" "int" = _ by decide +kernel, show kitB "NoneType" "bool" = _ by decide +kernel, show kitB "NoneType" "str" = _ by decide +kernel, show kitB "NoneType" "tuple" = _ by decide +kernel⟩
  | bool b => exact ⟨show kitB "bool" "int" = some true by decide +kernel, show kitB "bool" "bool" = some true by decide +kernel, show kitB "bool" "str" = some false by decide +kernel, show kitB "bool" "tuple" = some false by decide +kernel⟩
  | int i => exact ⟨show kitB "int" "int" = some true by decide +kernel, show kitB "int" "bool" = some false by decide +kernel, show kitB "int" "str" = some false by decide +kernel, show kitB "int" "tuple" = some false by decide +kernel⟩
  | str x => exact ⟨show kitB "str" "int" = some false by decide +kernel, show kitB "str" "bool" = some false by decide +kernel, show kitB "str" "str" = some true by decide +kernel, show kitB "str" "tuple" = some false by decide +kernel⟩
  | list xs => exact ⟨show kitB "list" "int" = some false by decide +kernel, show kitB "list" "bool" = some false by decide +kernel, show kitB "list" "str" = some false by decide +kernel, show kitB "list" "tuple" = some false by decide +kernel⟩
  | tuple xs => exact ⟨show kitB "tuple" "int" = some false by decide +kernel, show kitB "tuple" "bool" = some false by decide +kernel, show kitB "tuple" "str" = some false by decide +kernel, show kitB "tuple" "tuple" = some true by decide +kernel⟩
  | dict xs => exact ⟨show kitB "dict" "int" = some false by decide +kernel, show kitB "dict" "bool" = some false by decide +kernel, show kitB "dict" "str" = some false by decide +kernel, show kitB "dict" "tuple" = some false by decide +kernel⟩

def isI : V → Bool | .int _ => true | _ => false
def isS : V → Bool | .str _ => true | _ => false
def isB : V → Bool | .bl _ => true | _ => false
/-- texts are no longer than the model's line -/
def Fits (x : V) : Prop := ∀ z : Str, x = .str z → z.length ≤ sizeLine
def big : Int := 1000000000000000000000000000000000000000000000000000000000000000000000000000000000000000000000000000000000000000000000000000000000000000000000000000000000000000000000000000000000000000000000000000000000000000000000000000000000000000000000000000000000000000000000000000000000000000000000000000000000000
def keyI : V → Bool | .int i => decide (-big < i) && decide (i < big) | _ => false
def keyS : V → Bool | .str z => decide ((z.length : Int) ≤ 2000) | _ => false
def keyV (x : V) : Bool := keyS x || keyI x
def atomB (x : V) : Bool := decide (x = V.non) || (isB x || keyV x)
def octV : V → Bool | .int i => decide (0 ≤ i) && decide (i ≤ 255) | _ => false
/-- the classes of nodes -/
def NodeC (a : Adr) (C : Addr) : Prop := C = a.Row ∨ C = a.Book ∨ C = a.Thing
theorem nodeC_cls (T : Txt P K mg a) {C : Addr} (h : NodeC a C) : Cls K C ∧ IdEq K C ∧ PySem.W.findIn K (.ref C) "__class__" = some (some (.builtin "object.__class__")) := by
  rcases h with rfl | rfl | rfl
  · exact ⟨T.c_Row, T.e_Row, T.wc_Row⟩
  · exact ⟨T.c_Book, T.e_Book, T.wc_Book⟩
  · exact ⟨T.c_Thing, T.e_Thing, T.wc_Thing⟩
theorem nodeC_kit (T : Txt P K mg a) {C : Addr} (h : NodeC a C) : PySem.W.kitOne K (.ref C) (.type "int") = some false ∧ PySem.W.kitOne K (.ref C) (.type "bool") = some false ∧ PySem.W.kitOne K (.ref C) (.type "str") = some false ∧ PySem.W.kitOne K (.ref C) (.type "tuple") = some false ∧ PySem.W.kitOne K (.ref C) (.ref a.Node) = some true := by
  rcases h with rfl | rfl | rfl
  · exact ⟨T.w_Row_int, T.w_Row_bool, T.w_Row_str, T.w_Row_tuple, T.w_Row_Node⟩
  · exact ⟨T.w_Book_int, T.w_Book_bool, T.w_Book_str, T.w_Book_tuple, T.w_Book_Node⟩
  · exact ⟨T.w_Thing_int, T.w_Thing_bool, T.w_Thing_str, T.w_Thing_tuple, T.w_Thing_Node⟩
/-- a node -/
def NodeAt (a : Adr) (H : Hp) (x : V) : Prop := ∃ p C dx fs, x = .ref p ∧ H p = some (.ins C dx fs) ∧ NodeC a C
theorem NodeAt.ex {H H' : Hp} {x : V} (h : NodeAt a H x) (e : Ex H H') : NodeAt a H' x := by
  obtain ⟨p, C, dx, fs, h1, h2, h3⟩ := h
  exact ⟨p, C, dx, fs, h1, e _ _ h2, h3⟩
theorem tyx_ex' {K : PySem.W.Frag} {H H' : Hp} (e : Ex H H') {x : V} {t : Value} (h : TyX K H x t) : TyX K H' x t := by
  cases h with
  | base b =>
    cases b with
    | non => exact .base .non
    | bl y => exact .base (.bl y)
    | int i => exact .base (.int i)
    | str y => exact .base (.str y)
    | flt y => exact .base (.flt y)
    | lst ea => exact .base (.lst (e _ _ ea))
    | frz ea => exact .base (.frz (e _ _ ea))
    | tup ea => exact .base (.tup (e _ _ ea))
    | dK ea => exact .base (.dK (e _ _ ea))
    | dT ea => exact .base (.dT (e _ _ ea))
    | ins ea cl ha hn htk hm => exact .base (.ins (e _ _ ea) cl ha hn htk hm)
  | byt b => exact .byt b
  | set ea => exact .set (e _ _ ea)
  | kList ea c => exact .kList ea c
  | kTuple ea c => exact .kTuple ea c
  | kDict ea c => exact .kDict ea c
  | fTuple ea => exact .fTuple (e _ _ ea)
  | fDict ea => exact .fDict (e _ _ ea)
/-- x's type is known; b: it is a node -/
def Kn (K : PySem.W.Frag) (a : Adr) (H : Hp) (x : V) (b : Bool) : Prop := ∃ t, TyX K H x t ∧ PySem.W.kitOne K t (.type "int") = some (isI x || isB x) ∧ PySem.W.kitOne K t (.type "bool") = some (isB x) ∧ PySem.W.kitOne K t (.type "str") = some (isS x) ∧ PySem.W.kitOne K t (.ref a.Node) = some b
theorem Kn.ex {H H' : Hp} {x : V} {b : Bool} (h : Kn K a H x b) (e : Ex H H') : Kn K a H' x b := by
  obtain ⟨t, h1, h2⟩ := h
  exact ⟨t, tyx_ex' e h1, h2⟩
theorem kn_dz (T : Txt P K mg a) {H : Hp} {x : V} {d : PyData} (h : Dz K H x d) : Kn K a H x false := by
  obtain ⟨k1, k2, k3, _⟩ := kitD d
  refine ⟨.type (tyN d), dz_ty h, ?_, ?_, ?_, ?_⟩
  · rw [show PySem.W.kitOne K (.type (tyN d)) (.type "int") = _ from kit_ty k1]; cases h <;> rfl
  · rw [show PySem.W.kitOne K (.type (tyN d)) (.type "bool") = _ from kit_ty k2]; cases h <;> rfl
  · rw [show PySem.W.kitOne K (.type (tyN d)) (.type "str") = _ from kit_ty k3]; cases h <;> rfl
  · cases h with
    | non => exact T.w_NoneType
    | bl _ => exact T.w_bool
    | int _ => exact T.w_int
    | str _ => exact T.w_str
    | lstN _ _ _ => exact T.w_list
    | tup _ _ => exact T.w_tuple
    | dict _ _ => exact T.w_dict
theorem ty_node (T : Txt P K mg a) {H : Hp} {p C dx : Addr} {fs : List (Str × V)} (h : H p = some (.ins C dx fs)) (n : NodeC a C) : TyX K H (.ref p) (.ref C) := by
  obtain ⟨c1, c2, c3⟩ := nodeC_cls T n
  exact .base (.ins h c1 c3 T.wg T.wt c2.m)
theorem kn_node (T : Txt P K mg a) {H : Hp} {x : V} (h : NodeAt a H x) : Kn K a H x true := by
  obtain ⟨p, C, dx, fs, rfl, h2, h3⟩ := h
  obtain ⟨k1, k2, k3, _, k5⟩ := nodeC_kit T h3
  exact ⟨_, ty_node T h2 h3, k1, k2, k3, k5⟩
def spIsI (K : PySem.W.Frag) (a : Adr) : Sp := fun vs H Q _ => ∃ x b, vs = [x] ∧ Kn K a H x b ∧ Q (.bl (isI x)) H
theorem ok_is_integer (T : Txt P K mg a) : CallO P w K mg base 1 (.ref a.is_integer) (spIsI K a) := by
  refine fnO (T.d_is_integer.okX sc_is_integer (fun vs H Q E h => ?_) (fun cdv A outer s H vs Q E hr h => ?_))
  · obtain ⟨x, b, rfl, _⟩ := h
    rfl
  · obtain ⟨x, b, rfl, ⟨t, ty, k1, k2, _⟩, hq⟩ := h
    refine ⟨_, (pss_one (ps_ret (pe_and (pe_callB (call_isG' (K := K) rfl) (by rfl) T.b_isinstance (by decide +kernel) (pa_cons (pv 0) (pa_cons (pe_bltn (v := .ty "int") (u := .type "int") (by rfl) T.b_int (by decide +kernel) (by exact rfl)) pa_nil))) (pe_one (pe_not (pe_callB (call_isG' (K := K) rfl) (by rfl) T.b_isinstance (by decide +kernel) (pa_cons (pv 0) (pa_cons (pe_bltn (v := .ty "bool") (u := .type "bool") (by rfl) T.b_bool (by decide +kernel) (by exact rfl)) pa_nil)))))))), ?_⟩
    refine ⟨_, rfl, x, _, t, _, _, rfl, .ty "int", .ty ty, k1, _, rfl, ?_⟩
    cases x <;> first | exact hq | exact ⟨_, rfl, _, _, t, _, _, rfl, .ty "bool", .ty ty, k2, _, rfl, hq⟩
/-- a judgement of what is known -/
def spBV (K : PySem.W.Frag) (a : Adr) (f : V → Bool → Bool) : Sp := fun vs H Q _ => ∃ x b, vs = [x] ∧ Kn K a H x b ∧ Fits x ∧ Q (.bl (f x b)) H
theorem ok_is_whole_atom (T : Txt P K mg a) : CallO P w K mg base 2 (.ref a.is_whole_atom) (spBV K a fun x _ => keyI x) := by
  have G_is_integer : CallO P w K mg base 1 (.ref a.is_integer) (spIsI K a) := ok_is_integer T
  refine fnO (T.d_is_whole_atom.okX sc_is_whole_atom (fun vs H Q E h => ?_) (fun cdv A outer s H vs Q E hr h => ?_))
  · obtain ⟨x, b, rfl, _⟩ := h
    rfl
  · obtain ⟨x, b, rfl, kn, hz, hq⟩ := h
    (try dsimp only at hq)
    refine ⟨_, (pss_one (ps_ret (pe_and (pe_co G_is_integer (hr.mono (by decide)) rfl T.g_is_integer T.k_is_integer (takes_of rfl rfl rfl rfl) (pa_cons (pv 0) pa_nil)) (pe_one (pe_chain op_lt op_lt (pe_un un_neg (pe_glob (v := .int (1000000000000000000000000000000000000000000000000000000000000000000000000000000000000000000000000000000000000000000000000000000000000000000000000000000000000000000000000000000000000000000000000000000000000000000000000000000000000000000000000000000000000000000000000000000000000000000000000000000000000)) (by rfl) T.c_MOST_INTEGER.choose_spec ⟨_, rfl⟩)) (pv 0) (pe_glob (v := .int (1000000000000000000000000000000000000000000000000000000000000000000000000000000000000000000000000000000000000000000000000000000000000000000000000000000000000000000000000000000000000000000000000000000000000000000000000000000000000000000000000000000000000000000000000000000000000000000000000000000000000)) (by rfl) T.c_MOST_INTEGER.choose_spec ⟨_, rfl⟩)))))), ?_⟩
    refine ⟨_, rfl, x, b, rfl, kn, isI x, rfl, ?_⟩
    cases x with
    | int i =>
      refine ⟨_, rfl, _, rfl, _, _, rfl, rfl, _, rfl, ?_⟩
      rw [show keyI (.int i) = (decide (-big < i) && decide (i < big)) from rfl] at hq
      by_cases h1 : -big < i
      · rw [decide_eq_true h1] at hq
        rw [if_pos (decide_eq_true (show -(1000000000000000000000000000000000000000000000000000000000000000000000000000000000000000000000000000000000000000000000000000000000000000000000000000000000000000000000000000000000000000000000000000000000000000000000000000000000000000000000000000000000000000000000000000000000000000000000000000000000000 : Int) < i from h1))]
        exact ⟨_, _, rfl, rfl, hq⟩
      · rw [decide_eq_false h1] at hq
        rw [if_neg (by rw [decide_eq_false (show ¬ -(1000000000000000000000000000000000000000000000000000000000000000000000000000000000000000000000000000000000000000000000000000000000000000000000000000000000000000000000000000000000000000000000000000000000000000000000000000000000000000000000000000000000000000000000000000000000000000000000000000000000000 : Int) < i from h1)]; exact Bool.false_ne_true)]
        exact hq
    | _ => exact hq
theorem ok_is_text (T : Txt P K mg a) : CallO P w K mg base 2 (.ref a.is_text) (spBV K a fun x _ => keyS x) := by
  refine fnO (T.d_is_text.okX sc_is_text (fun vs H Q E h => ?_) (fun cdv A outer s H vs Q E hr h => ?_))
  · obtain ⟨x, b, rfl, _⟩ := h
    rfl
  · obtain ⟨x, b, rfl, ⟨t, ty, _, _, k3, _⟩, hz, hq⟩ := h
    refine ⟨_, (pss_one (ps_ret (pe_and (pe_callB (call_isG' (K := K) rfl) (by rfl) T.b_isinstance (by decide +kernel) (pa_cons (pv 0) (pa_cons (pe_bltn (v := .ty "str") (u := .type "str") (by rfl) T.b_str (by decide +kernel) (by exact rfl)) pa_nil))) (pe_one (pe_cmpR op_le (pe_callB call_len_str (by rfl) T.b_len (by decide +kernel) (pa_cons (pv 0) pa_nil)) (pe_glob (v := .int (2000)) (by rfl) T.c_MOST_CHARACTERS.choose_spec ⟨_, rfl⟩) (nomark _)))))), ?_⟩
    refine ⟨_, rfl, x, _, t, _, isS x, rfl, .ty "str", .ty ty, k3, isS x, rfl, ?_⟩
    cases x with
    | str z => exact ⟨_, rfl, z, rfl, hz z rfl, _, _, rfl, rfl, hq⟩
    | _ => exact hq
theorem ok_is_key (T : Txt P K mg a) : CallO P w K mg base 3 (.ref a.is_key) (spBV K a fun x _ => keyV x) := by
  have G_is_text : CallO P w K mg base 2 (.ref a.is_text) (spBV K a fun x _ => keyS x) := ok_is_text T
  have G_is_whole_atom : CallO P w K mg base 2 (.ref a.is_whole_atom) (spBV K a fun x _ => keyI x) := ok_is_whole_atom T
  refine fnO (T.d_is_key.okX sc_is_key (fun vs H Q E h => ?_) (fun cdv A outer s H vs Q E hr h => ?_))
  · obtain ⟨x, b, rfl, _⟩ := h
    rfl
  · obtain ⟨x, b, rfl, kn, hz, hq⟩ := h
    (try dsimp only at hq)
    refine ⟨_, (pss_one (ps_ret (pe_or (pe_co G_is_text (hr.mono (by decide)) rfl T.g_is_text T.k_is_text (takes_of rfl rfl rfl rfl) (pa_cons (pv 0) pa_nil)) (pe_one (pe_co G_is_whole_atom (hr.mono (by decide)) rfl T.g_is_whole_atom T.k_is_whole_atom (takes_of rfl rfl rfl rfl) (pa_cons (pv 0) pa_nil)))))), ?_⟩
    refine ⟨_, rfl, x, b, rfl, kn, hz, keyS x, rfl, ?_⟩
    rw [show keyV x = (keyS x || keyI x) from rfl] at hq
    generalize keyS x = b at hq
    cases b with
    | true => exact hq
    | false => exact ⟨_, rfl, x, _, rfl, kn, hz, hq⟩
theorem ok_is_atom (T : Txt P K mg a) : CallO P w K mg base 4 (.ref a.is_atom) (spBV K a fun x _ => atomB x) := by
  have G_is_key : CallO P w K mg base 3 (.ref a.is_key) (spBV K a fun x _ => keyV x) := ok_is_key T
  refine fnO (T.d_is_atom.okX sc_is_atom (fun vs H Q E h => ?_) (fun cdv A outer s H vs Q E hr h => ?_))
  · obtain ⟨x, b, rfl, _⟩ := h
    rfl
  · obtain ⟨x, b, rfl, kn, hz, hq⟩ := h
    (try dsimp only at hq)
    refine ⟨_, (pss_one (ps_ret (pe_or (pe_cmp (pc_isN (pv 0)) rfl) (pe_or (pe_callB (call_isG' (K := K) rfl) (by rfl) T.b_isinstance (by decide +kernel) (pa_cons (pv 0) (pa_cons (pe_bltn (v := .ty "bool") (u := .type "bool") (by rfl) T.b_bool (by decide +kernel) (by exact rfl)) pa_nil))) (pe_one (pe_co G_is_key (hr.mono (by decide)) rfl T.g_is_key T.k_is_key (takes_of rfl rfl rfl rfl) (pa_cons (pv 0) pa_nil))))))), ?_⟩
    obtain ⟨t, ty, k1, k2, _⟩ := id kn
    rw [show atomB x = (decide (x = V.non) || (isB x || keyV x)) from rfl] at hq
    refine ⟨_, rfl, _, rfl, ?_⟩
    by_cases hn : x = .non
    · rw [decide_eq_true hn] at hq ⊢
      exact hq
    · rw [decide_eq_false hn] at hq ⊢
      refine ⟨_, rfl, x, _, t, _, isB x, rfl, .ty "bool", .ty ty, k2, isB x, rfl, ?_⟩
      generalize isB x = bb at hq
      cases bb with
      | true => exact hq
      | false => exact ⟨_, rfl, x, b, rfl, kn, hz, hq⟩
def valB (x : V) (b : Bool) : Bool := atomB x || b
theorem ok_holds_value (T : Txt P K mg a) : CallO P w K mg base 5 (.ref a.holds_value) (spBV K a valB) := by
  have G_is_atom : CallO P w K mg base 4 (.ref a.is_atom) (spBV K a fun x _ => atomB x) := ok_is_atom T
  refine fnO (T.d_holds_value.okX sc_holds_value (fun vs H Q E h => ?_) (fun cdv A outer s H vs Q E hr h => ?_))
  · obtain ⟨x, b, rfl, _⟩ := h
    rfl
  · obtain ⟨x, b, rfl, kn, hz, hq⟩ := h
    (try dsimp only at hq)
    refine ⟨_, (pss_one (ps_ret (pe_or (pe_co G_is_atom (hr.mono (by decide)) rfl T.g_is_atom T.k_is_atom (takes_of rfl rfl rfl rfl) (pa_cons (pv 0) pa_nil)) (pe_one (pe_callB (call_isG' (K := K) rfl) (by rfl) T.b_isinstance (by decide +kernel) (pa_cons (pv 0) (pa_cons (pe_glob (v := .ref a.Node) (by rfl) T.g_Node rfl) pa_nil))))))), ?_⟩
    obtain ⟨t, ty, k1, k2, k3, k5⟩ := id kn
    refine ⟨_, rfl, x, b, rfl, kn, hz, atomB x, rfl, ?_⟩
    rw [show valB x b = (atomB x || b) from rfl] at hq
    generalize atomB x = bb at hq
    cases bb with
    | true => exact hq
    | false => exact ⟨_, rfl, x, _, t, _, b, rfl, .own _, .ty ty, k5, hq⟩
/-- an error of the class C with one field -/
abbrev Bad (C : Addr) (f : Str) (x : V) (H : Hp) (E : XK) : Prop := ∀ d H', H d = none → Ex H H' → H' d = some (.xd [(f, x)]) → E (.ref C) (some d) H'
theorem Bad.back {C : Addr} {f : Str} {x : V} {H H' : Hp} {E : XK} (h : Bad C f x H E) (e : Ex H H') : Bad C f x H' E := fun d H2 hd he hx => h d H2 (fresh_back e hd) (e.trans he) hx
def spCheck (K : PySem.W.Frag) (a : Adr) (C : Addr) (f : Str) (ok : V → Bool → Bool) : Sp := fun vs H Q E => ∃ x b, vs = [x] ∧ Kn K a H x b ∧ Fits x ∧ ((ok x b = true ∧ Q .non H) ∨ (ok x b = false ∧ Bad C f x H E))
theorem ok_check_value (T : Txt P K mg a) : CallO P w K mg base 8 (.ref a.check_value) (spCheck K a a.InvalidValue "value" valB) := by
  have G_holds_value : CallO P w K mg base 5 (.ref a.holds_value) (spBV K a valB) := ok_holds_value T
  refine fnO (T.d_check_value.okX sc_check_value (fun vs H Q E h => ?_) (fun cdv A outer s H vs Q E hr h => ?_))
  · obtain ⟨x, b, rfl, _⟩ := h
    rfl
  · obtain ⟨x, b, rfl, kn, hz, hx⟩ := h
    refine ⟨_, (pss_one (ps_if (pt_not (pt_val (pe_co G_holds_value (hr.mono (by decide)) rfl T.g_holds_value T.k_holds_value (takes_of rfl rfl rfl rfl) (pa_cons (pv 0) pa_nil))))
 (pss_one (ps_raiseErr rfl T.e_InvalidValue T.i_InvalidValue T.k_InvalidValue T.x_InvalidValue T.t_InvalidValue hr (takes_of rfl rfl rfl rfl) (pa_cons (pv 0) pa_nil) (by rfl)))
 pss_nil)), ?_⟩
    refine ⟨_, rfl, x, b, rfl, kn, hz, _, rfl, ?_⟩
    rcases hx with ⟨hk, hq⟩ | ⟨hk, hq⟩
    · rw [hk]
      exact hq
    · rw [hk]
      exact ⟨_, rfl, rfl, fun d hd => hq d _ hd (Ex.new hd) upd_same⟩
theorem ok_check_key (T : Txt P K mg a) : CallO P w K mg base 6 (.ref a.check_key) (spCheck K a a.InvalidKey "key" fun x _ => keyV x) := by
  have G_is_key : CallO P w K mg base 3 (.ref a.is_key) (spBV K a fun x _ => keyV x) := ok_is_key T
  refine fnO (T.d_check_key.okX sc_check_key (fun vs H Q E h => ?_) (fun cdv A outer s H vs Q E hr h => ?_))
  · obtain ⟨x, b, rfl, _⟩ := h
    rfl
  · obtain ⟨x, b, rfl, kn, hz, hx⟩ := h
    (try dsimp only at hx)
    refine ⟨_, (pss_one (ps_if (pt_not (pt_val (pe_co G_is_key (hr.mono (by decide)) rfl T.g_is_key T.k_is_key (takes_of rfl rfl rfl rfl) (pa_cons (pv 0) pa_nil))))
 (pss_one (ps_raiseErr rfl T.e_InvalidKey T.i_InvalidKey T.k_InvalidKey T.x_InvalidKey T.t_InvalidKey hr (takes_of rfl rfl rfl rfl) (pa_cons (pv 0) pa_nil) (by rfl)))
 pss_nil)), ?_⟩
    refine ⟨_, rfl, x, b, rfl, kn, hz, ?_⟩
    (try dsimp only)
    rcases hx with ⟨hk, hq⟩ | ⟨hk, hq⟩
    · rw [hk]
      exact ⟨_, rfl, hq⟩
    · rw [hk]
      exact ⟨_, rfl, _, rfl, rfl, fun d hd => hq d _ hd (Ex.new hd) upd_same⟩
theorem ok_check_label (T : Txt P K mg a) : CallO P w K mg base 6 (.ref a.check_label) (spCheck K a a.InvalidKey "key" fun x _ => keyS x) := by
  have G_is_text : CallO P w K mg base 2 (.ref a.is_text) (spBV K a fun x _ => keyS x) := ok_is_text T
  refine fnO (T.d_check_label.okX sc_check_label (fun vs H Q E h => ?_) (fun cdv A outer s H vs Q E hr h => ?_))
  · obtain ⟨x, b, rfl, _⟩ := h
    rfl
  · obtain ⟨x, b, rfl, kn, hz, hx⟩ := h
    (try dsimp only at hx)
    refine ⟨_, (pss_one (ps_if (pt_not (pt_val (pe_co G_is_text (hr.mono (by decide)) rfl T.g_is_text T.k_is_text (takes_of rfl rfl rfl rfl) (pa_cons (pv 0) pa_nil))))
 (pss_one (ps_raiseErr rfl T.e_InvalidKey T.i_InvalidKey T.k_InvalidKey T.x_InvalidKey T.t_InvalidKey hr (takes_of rfl rfl rfl rfl) (pa_cons (pv 0) pa_nil) (by rfl)))
 pss_nil)), ?_⟩
    refine ⟨_, rfl, x, b, rfl, kn, hz, ?_⟩
    (try dsimp only)
    rcases hx with ⟨hk, hq⟩ | ⟨hk, hq⟩
    · rw [hk]
      exact ⟨_, rfl, hq⟩
    · rw [hk]
      exact ⟨_, rfl, _, rfl, rfl, fun d hd => hq d _ hd (Ex.new hd) upd_same⟩

end
end BJL

namespace BJL
open PySem PySem.Spec PyProof.Rows L2 BJ
section
variable {P : Program} {w : World} {K : PySem.W.Frag} {mg : Str → Option Value} {base : Heap} {a : Adr}
open Evl
/-- the objects of H, p aside, stand -/
def ExB (p : Addr) (H H' : Hp) : Prop := ∀ b o, H b = some o → b ≠ p → H' b = some o
/-- what is known of x; it is a value | it is none -/
def GoodV (K : PySem.W.Frag) (a : Adr) (H : Hp) (x : V) : Prop := ∃ b, Kn K a H x b ∧ Fits x ∧ valB x b = true
def BadV (K : PySem.W.Frag) (a : Adr) (H : Hp) (x : V) : Prop := ∃ b, Kn K a H x b ∧ Fits x ∧ valB x b = false
theorem GoodV.ex {H H' : Hp} {x : V} (h : GoodV K a H x) (e : Ex H H') : GoodV K a H' x := by
  obtain ⟨b, h1, h2⟩ := h
  exact ⟨b, h1.ex e, h2⟩
theorem BadV.ex {H H' : Hp} {x : V} (h : BadV K a H x) (e : Ex H H') : BadV K a H' x := by
  obtain ⟨b, h1, h2⟩ := h
  exact ⟨b, h1.ex e, h2⟩
/-- all are values, or the first that is none -/
def seqEnd (K : PySem.W.Frag) (a : Adr) (xs : List V) (H : Hp) (E : XK) (good : Prop) : Prop :=
  ((∀ x ∈ xs, GoodV K a H x) ∧ good) ∨ ∃ j x, xs[j]? = some x ∧ (∀ y ∈ xs.take j, GoodV K a H y) ∧ BadV K a H x ∧ Bad a.InvalidValue "value" x H E
theorem seqEnd_imp {xs : List V} {H H' : Hp} {E E' : XK} {g g' : Prop} (h : seqEnd K a xs H E g) (e : Ex H H') (h1 : ∀ x, Bad a.InvalidValue "value" x H E → Bad a.InvalidValue "value" x H' E') (h2 : g → g') : seqEnd K a xs H' E' g' := by
  rcases h with ⟨h3, h4⟩ | ⟨j, x, h3, h4, h5, h6⟩
  · exact .inl ⟨fun x hx => (h3 x hx).ex e, h2 h4⟩
  · exact .inr ⟨j, x, h3, fun y hy => (h4 y hy).ex e, h5.ex e, h1 x h6⟩
def spSInit (K : PySem.W.Frag) (a : Adr) : Sp := fun vs H Q E => ∃ p C dx t xs, vs = [.ref p, .ref t] ∧ H p = some (.ins C dx []) ∧ Cls K C ∧ NoAttr K C "kept" ∧ SqT K H t xs ∧ xs.length ≤ 100 ∧
  seqEnd K a xs H E (∀ H' l, H l = none → ExB p H H' → H' p = some (.ins C dx [("kept", .ref l)]) → H' l = some (.lst xs) → Q .non H')
theorem body_sinit (T : Txt P K mg a) (cdv : Value) (A : Around) (outer : List Env) (s : Shared) (H : Hp) (vs : List V) (Q : VK) (E : XK) (hr : Room 10 (A.deeper (envOfC "Sequence.__init__" (defScope s_Sequence___init__) s.heap.objs.size a.Sequence___init__ cdv))) (h : spSInit K a vs H Q E) :
    ∃ t, PSs (cxOf (L2.CX P w) P w K mg base ["self", "parts", "value"] "Sequence.__init__" (defScope s_Sequence___init__) a.Sequence___init__ cdv A outer s H E) (defBody s_Sequence___init__) t ∧ t { nx := fun _ H' => Q .non H', rt := Q } (start ["self", "parts", "value"] vs) H := by
  have G_check_value : CallO P w K mg base 8 (.ref a.check_value) (spCheck K a a.InvalidValue "value" valB) := ok_check_value T
  obtain ⟨p, C, dx, t, xs, rfl, hp, hc, hn, ht, hlen, hend⟩ := h
  refine ⟨_, (pss_cons (ps_for (passes_of rfl) rfl (pi_tup (pv 1)) (pg_name (i := 2) sc_Sequence___init__.nd rfl (Or.inl rfl))
 (pss_one (ps_expr (pe_co G_check_value (hr.mono (by decide)) rfl T.g_check_value T.k_check_value (takes_of rfl rfl rfl rfl) (pa_cons (pv 2) pa_nil)))))
 (pss_one (ps_fld (pv 0) (pe_callTy call_list_ofN (by rfl) T.b_list (by decide +kernel) (pa_cons (pv 1) pa_nil)) rfl))), ?_⟩
  rcases hend with ⟨hall, hq⟩ | ⟨j, x0, hj, hpre, hbad, hB⟩
  · refine q_forT (K := K) (a := t) (xs := xs) (ev_var rfl) ht (fun i σ' H' => ∃ v, σ' = [some (.ref p), some (.ref t), v] ∧ Ex H H') (fun H1 e1 => ⟨none, rfl, e1⟩) (fun i σ' H' _ ⟨_, _, e⟩ => ex_t e ht) ?_ ?_
    · rintro i x σ' H' hi ⟨v, rfl, eH⟩
      obtain ⟨b, k1, k2, k3⟩ := hall x (List.mem_of_getElem? hi)
      exact ⟨_, rfl, x, b, rfl, k1.ex eH, k2, .inl ⟨k3, _, rfl, eH⟩⟩
    · rintro σ' H' ⟨v, rfl, eH⟩
      refine ⟨_, rfl, t, xs, rfl, .inr (ex_t eH ht), fun l hl _ => ⟨_, rfl, p, C, dx, [], rfl, (eH.trans (Ex.new hl)) _ _ hp, hc, hn, (by decide), ?_⟩⟩
      have pl : l ≠ p := fun z => by rw [z, eH _ _ hp] at hl; cases hl
      refine hq _ l (fresh_back eH hl) (fun b o hb hbp => ?_) upd_same ?_
      · rw [upd_ne hbp]
        exact (eH.trans (Ex.new hl)) _ _ hb
      · rw [upd_ne pl]
        exact upd_same
  · have hjl : j < xs.length := (List.getElem?_eq_some_iff.mp hj).1
    refine q_forT (K := K) (a := t) (xs := xs) (ev_var rfl) ht (fun i σ' H' => ∃ v, σ' = [some (.ref p), some (.ref t), v] ∧ Ex H H' ∧ i ≤ j) (fun H1 e1 => ⟨none, rfl, e1, Nat.zero_le _⟩) (fun i σ' H' _ ⟨_, _, e, _⟩ => ex_t e ht) ?_ ?_
    · rintro i x σ' H' hi ⟨v, rfl, eH, hij⟩
      by_cases h : i = j
      · subst h
        rw [hj] at hi
        cases hi
        obtain ⟨b, k1, k2, k3⟩ := hbad
        exact ⟨_, rfl, _, b, rfl, k1.ex eH, k2, .inr ⟨k3, hB.back eH⟩⟩
      · have hlt : i < j := by omega
        obtain ⟨b, k1, k2, k3⟩ := hpre x (List.mem_of_getElem? (i := i) (by rw [List.getElem?_take_of_lt hlt]; exact hi))
        exact ⟨_, rfl, x, b, rfl, k1.ex eH, k2, .inl ⟨k3, _, rfl, eH, hlt⟩⟩
    · rintro σ' H' ⟨v, rfl, eH, hij⟩
      omega
/-- C(v, ..) for a class C of sequences -/
def spSeq (K : PySem.W.Frag) (a : Adr) (C : Addr) : Sp := fun xs H Q E => xs.length ≤ 100 ∧ seqEnd K a xs H E (∀ p dx l H', H p = none → H l = none → Ex H H' → H' p = some (.ins C dx [("kept", .ref l)]) → H' l = some (.lst xs) → Q (.ref p) H')
theorem spSeq_ex {C : Addr} {xs : List V} {H H' : Hp} {Q : VK} {E : XK} (e : Ex H H') (h : spSeq K a C xs H Q E) : spSeq K a C xs H' Q E :=
  ⟨h.1, seqEnd_imp h.2 e (fun x hb => hb.back e) fun hg p dx l H2 hp hl he => hg p dx l H2 (fresh_back e hp) (fresh_back e hl) (e.trans he)⟩
theorem mk_seq (T : Txt P K mg a) {C : Addr} (M : Mk K C a.Sequence___init__) (c : Cls K C) (n : NoAttr K C "kept") : CallX P w K mg base 12 (.ref C) [] fun vs zs H Q E => zs = [] ∧ spSeq K a C vs H Q E := by
  have h1 := (T.d_Sequence___init__.ok (N := ["self", "parts", "value"]) (sp := spSInit K a) (P := P) (w := w) (base := base) (mg := mg) (k := 10) sc_Sequence___init__ (fun cdv A outer s H vs Q E hr h => body_sinit T cdv A outer s H vs Q E hr h)).x
  refine (CallX.make M h1).imp ?_
  rintro xs zs H Q E ⟨rfl, hlen, hend⟩ p dx hp hd ne hs
  have e1 : Ex H (upd (upd H dx (.own p)) p (.ins C dx [])) := (Ex.new hd).trans (Ex.new (by rw [upd_ne ne.symm]; exact hp))
  refine ⟨rfl, [.ref p], xs, rfl, rfl, (by rw [sizeLine_eq]; omega), fun t ht => ?_⟩
  have e2 := e1.trans (Ex.new (o := .tup xs) ht)
  refine ⟨p, C, dx, t, xs, rfl, (Ex.new ht) _ _ upd_same, c, n, st_of upd_same, hlen, ?_⟩
  refine seqEnd_imp hend e2 (fun x hb => hb.back e2) fun hg H' l hl he hp' hl' => ⟨rfl, hg p dx l H' hp (fresh_back e2 hl) (fun b o hb => he b o (e2 b o hb) fun z => ?_) hp' hl'⟩
  rw [z, hp] at hb
  cases hb
theorem ok_Row (T : Txt P K mg a) : CallX P w K mg base 12 (.ref a.Row) [] fun vs zs H Q E => zs = [] ∧ spSeq K a a.Row vs H Q E := mk_seq T T.m_Row T.c_Row T.n_Row_kept

end
end BJL

namespace BJL
open PySem PySem.Spec PyProof.Rows L2 BJ
section
variable {P : Program} {w : World} {K : PySem.W.Frag} {mg : Str → Option Value} {base : Heap} {a : Adr}
theorem ok__law_mixed (T : Txt P K mg a) : CallO P w K mg base 1 (.ref a._law_mixed) spMixed := by
  refine fnO (T.d__law_mixed.okX sc__law_mixed (fun vs H Q E h => ?_) (fun cdv A outer s H vs Q E hr h => ?_))
  · obtain ⟨cell, k, rfl, _⟩ := h
    rfl
  · obtain ⟨cell, k, rfl, k0, k1, hq⟩ := h
    refine ⟨_, (pss_cons (ps_set (i := 2) sc__law_mixed.nd rfl (Or.inl rfl) (pe_op op_mod (pe_op op_add (pe_op op_add (pe_op op_add (pe_op op_mod (pv 0) pe_int) (pe_op op_mul (pe_op op_mul pe_int (pv 1)) (pv 1))) (pe_op op_mul pe_int (pv 1))) pe_int) pe_int))
 (pss_cons (ps_set (i := 2) sc__law_mixed.nd rfl (Or.inl rfl) (pe_op op_mod (pe_op op_mul (pe_op op_mod (pe_op op_mul (pv 2) (pv 2)) pe_int) (pv 2)) pe_int))
 (pss_one (ps_ret (pe_op op_fdiv (pe_op op_mod (pe_op op_mul (pv 2) (pe_op op_add pe_int (pe_op op_mul pe_int (pe_op op_mod (pv 1) pe_int)))) pe_int) pe_int))))), ?_⟩
    refine ⟨_, rfl, _, _, rfl, rfl, (by show (0 : Int) < _; decide), _, rfl, _, _, rfl, rfl, .inl (by omega), _, rfl, _, _, rfl, rfl, .inl (by constructor <;> omega), _, _, rfl, rfl, _, rfl, _, _, rfl, rfl, .inl (by omega), _, _, rfl, rfl, _, _, rfl, rfl, _, _, rfl, rfl, (by show (0 : Int) < _; decide), ?_⟩
    generalize hm : (cell % 1000000007 + 7919 * k * k + 31 * k + 7) % 2147483647 = m
    have m0 : 0 ≤ m := by omega
    have m1 : m < 2147483647 := by omega
    refine ⟨_, rfl, _, rfl, _, _, rfl, rfl, .inl (by omega), _, _, rfl, rfl, (by show (0 : Int) < _; decide), _, rfl, _, _, rfl, rfl, .inl (by omega), _, _, rfl, rfl, (by show (0 : Int) < _; decide), ?_⟩
    generalize hm2 : m * m % 2147483647 * m % 2147483629 = m'
    have m0' : 0 ≤ m' := by omega
    have m1' : m' < 2147483629 := by omega
    refine ⟨_, rfl, _, rfl, _, _, rfl, rfl, (by show (0 : Int) < _; decide), _, _, rfl, rfl, .inl (by omega), _, _, rfl, rfl, _, _, rfl, rfl, .inl (by omega), _, _, rfl, rfl, (by show (0 : Int) < _; decide), _, _, rfl, rfl, ⟨by decide, by decide⟩, ?_⟩
    exact hq _ (by omega)
theorem ok__law_begin (T : Txt P K mg a) : CallO P w K mg base 1 (.ref a._law_begin) (spBegin K) := by
  refine fnO (T.d__law_begin.okX sc__law_begin (fun vs H Q E h => ?_) (fun cdv A outer s H vs Q E hr h => ?_))
  · obtain ⟨s, ns, rfl, _⟩ := h
    rfl
  · obtain ⟨s, ns, rfl, hS, hl, hq⟩ := h
    refine ⟨_, (pss_one (ps_ret (pe_disp (pps_cons pe_str (pe_op op_catS (pv 0) (pe_lst (pa_cons pe_int pa_nil))) (pps_cons pe_str pe_int (pps_cons pe_str pe_int (pps_cons pe_str pe_int pps_nil)))) (by rfl) (by rfl) (fun z => by cases z) (by decide)))), ?_⟩
    intro d nd
    refine ⟨_, rfl, (by show 1 ≤ sizeLine; decide), fun q nq => ?_⟩
    have hS1 : Scr K (upd (upd H d (.dK [])) q (.lst [.int 0])) s (ns.map V.int) := by
      rcases hS with (h | ⟨o, h⟩) | h
      · exact .inl (.inl (upd_keep (upd_keep h nd) nq))
      · exact .inl (.inr ⟨o, upd_keep (upd_keep h nd) nq⟩)
      · exact .inr h
    have nqd : q ≠ d := fun z => by
      rw [z, upd_same] at nq
      cases nq
    have nq0 : H q = none := by rw [upd_ne nqd] at nq; exact nq
    refine ⟨_, _, _, _, rfl, rfl, hS1, .inl (.inl upd_same), (by rw [List.length_map, sizeLine_eq]; show ns.length + 1 ≤ 16777216; omega), fun c nc => ?_⟩
    have ncq : c ≠ q := fun z => by
      rw [z, upd_same] at nc
      cases nc
    have ncd : c ≠ d := fun z => by
      rw [z, upd_ne nqd.symm, upd_same] at nc
      cases nc
    have nc0 : H c = none := by rw [upd_ne ncq, upd_ne ncd] at nc; exact nc
    refine ⟨?_, drw c 0 0 0, rfl, (by show 4 ≤ 15; decide), ?_⟩
    · rw [upd_ne ncd.symm, upd_ne nqd.symm, upd_same]
    have em : mergeK [] (drw c 0 0 0) = drw c 0 0 0 := by
      have h1 : ¬ (("cells" : Str) = "at") := by decide
      have h2 : ¬ (("cells" : Str) = "left") := by decide
      have h3 : ¬ (("cells" : Str) = "used") := by decide
      have h4 : ¬ (("at" : Str) = "left") := by decide
      have h5 : ¬ (("at" : Str) = "used") := by decide
      have h6 : ¬ (("left" : Str) = "used") := by decide
      simp [mergeK, drw, putK, h1, h2, h3, h4, h5, h6]
    rw [em]
    refine hq d c _ (fun p o e => ?_) nd nc0 ⟨⟨0, 0, 0, upd_same, by omega, by omega, by omega, by omega, by omega⟩, ?_, by simp, by rw [List.length_append]; show ns.length + 1 ≤ 64; omega⟩
    · have pd : p ≠ d := ne_of_none e nd
      rw [upd_ne pd, upd_ne (ne_of_none e nc0), upd_ne (ne_of_none e nq0), upd_ne pd]
      exact e
    · rw [upd_ne ncd, upd_same, List.map_append]
      rfl

end
end BJL

namespace BJL
open PySem PySem.Spec PyProof.Rows L2 BJ
section
variable {P : Program} {w : World} {K : PySem.W.Frag} {mg : Str → Option Value} {base : Heap} {a : Adr}
theorem ok__law_next (T : Txt P K mg a) : CallO P w K mg base 2 (.ref a._law_next) spNext := by
  have G__law_mixed : CallO P w K mg base 1 (.ref a._law_mixed) spMixed := ok__law_mixed T
  refine fnO (T.d__law_next.okX sc__law_next (fun vs H Q E h => ?_) (fun cdv A outer s H vs Q E hr h => ?_))
  · obtain ⟨d, c, cells, n, b, rfl, _⟩ := h
    rfl
  · obtain ⟨d, c, cells, n, b, rfl, D, hn, b0, b1, hq⟩ := h
    have hu := hu_of hr
    refine ⟨_, (pss_cons (ps_if (pt_cmpR op_gt (pe_dget hu (pv 0) pe_str (fun _ _ => rfl)) pe_int (nomark _))
 (pss_cons (ps_set (i := 2) sc__law_next.nd rfl (Or.inl rfl) (pe_op op_modN (pe_dget hu (pv 0) pe_str (fun _ _ => rfl)) (pv 1)))
 (pss_cons (ps_dput hu (pv 0) pe_str (pe_op op_fdivN (pe_dget hu (pv 0) pe_str (fun _ _ => rfl)) (pv 1)) rfl)
 (pss_one (ps_ret (pv 2)))))
 pss_nil)
 (pss_cons (ps_set (i := 3) sc__law_next.nd rfl (Or.inl rfl) (pe_dget hu (pv 0) pe_str (fun _ _ => rfl)))
 (pss_cons (ps_set (i := 4) sc__law_next.nd rfl (Or.inl rfl) (pe_ix (ix_list' (K := K) rfl) (pv 3) (pe_op op_modN (pe_dget hu (pv 0) pe_str (fun _ _ => rfl)) (pe_callB call_len_seq (by rfl) T.b_len (by decide +kernel) (pa_cons (pv 3) pa_nil))) (fun _ _ => rfl)))
 (pss_cons (ps_dput hu (pv 0) pe_str (pe_op op_add (pe_dget hu (pv 0) pe_str (fun _ _ => rfl)) pe_int) rfl)
 (pss_cons (ps_if (PW.pt (pw_and (pt_cmpR op_ge (pv 4) (pe_op op_pow pe_int pe_int) (nomark _)) (pw_and1 (pt_cmpR op_le (pe_dget hu (pv 0) pe_str (fun _ _ => rfl)) (pe_callB call_len_seq (by rfl) T.b_len (by decide +kernel) (pa_cons (pv 3) pa_nil)) (nomark _)))))
 (pss_cons (ps_dput hu (pv 0) pe_str (pe_op op_fdivN (pv 4) (pv 1)) rfl)
 (pss_one (ps_ret (pe_op op_modN (pv 4) (pv 1)))))
 pss_nil)
 (pss_cons (ps_dput hu (pv 0) pe_str (pe_op op_add (pe_dget hu (pv 0) pe_str (fun _ _ => rfl)) pe_int) rfl)
 (pss_one (ps_ret (pe_op op_modN (pe_co G__law_mixed (hr.mono (by decide)) rfl T.g__law_mixed T.k__law_mixed (takes_of rfl rfl rfl rfl) (pa_cons (pe_co G__law_mixed (hr.mono (by decide)) rfl T.g__law_mixed T.k__law_mixed (takes_of rfl rfl rfl rfl) (pa_cons (pv 4) (pa_cons (pe_dget hu (pv 0) pe_str (fun _ _ => rfl)) pa_nil))) (pa_cons (pe_dget hu (pv 0) pe_str (fun _ _ => rfl)) pa_nil))) (pv 1)))))))))), ?_⟩
    obtain ⟨av, lv, uv, hd, a0, a1, u0, u1, l0⟩ := D.dict
    have bb : b.natAbs < 1073741824 := by omega
    refine ⟨_, rfl, d, _, rfl, dg (k := .inr "left") hd drw_left, _, _, rfl, rfl, _, rfl, ?_⟩
    refine ifd (fun hl => ?_) (fun hl => ?_)
    · refine ⟨_, rfl, d, _, rfl, dg (k := .inr "left") hd drw_left, _, rfl, _, _, rfl, rfl, (by show b ≠ 0; omega), ?_⟩
      refine ⟨_, rfl, d, _, rfl, dg (k := .inr "left") hd drw_left, _, rfl, _, _, rfl, rfl, ⟨(by omega), bb⟩, _, rfl, d, _, rfl, dp (k := .inr "left") hd drw_put_left (by show 4 < 1000; decide), ?_⟩
      refine ⟨_, rfl, ?_⟩
      exact hq _ _ (fm b0).1 (fm b0).2 (Dr_up D a0 (by omega) u0 (by omega) (fd b0 l0)) But.upd
    · refine ⟨_, rfl, d, _, rfl, dg (k := .inr "cells") hd drw_cells, ?_⟩
      have hlen : 0 < cells.length := List.length_pos_iff.mpr D.ne
      have hm := fm (i := av) (b := (cells.length : Int)) (by omega)
      have hi : (av.fmod (cells.length : Int)).toNat < cells.length := by omega
      have hx : (cells.map V.int)[(av.fmod (cells.length : Int)).toNat]? = some (.int cells[(av.fmod (cells.length : Int)).toNat]) := by
        rw [List.getElem?_map, List.getElem?_eq_getElem hi]
        rfl
      generalize cells[(av.fmod (cells.length : Int)).toNat] = cell at hx
      have hlm : ((cells.map V.int).length : Int) = (cells.length : Int) := by rw [List.length_map]
      have hat : atI (cells.map V.int) (av.fmod ((cells.map V.int).length : Int)) = some (.int cell) := by
        rw [hlm]
        have := atI_nat hx
        rw [show (((av.fmod (cells.length : Int)).toNat : Nat) : Int) = av.fmod (cells.length : Int) by omega] at this
        exact this
      refine ⟨_, rfl, _, rfl, d, _, rfl, dg (k := .inr "at") hd drw_at, _, rfl, c, _, rfl, .inl (SqL.of D.list), _, _, rfl, rfl, (by show (((cells.map V.int).length : Nat) : Int) ≠ 0; omega), c, _, _, _, rfl, rfl, SqL.of D.list, hat, ?_⟩
      refine ⟨_, rfl, d, _, rfl, dg (k := .inr "at") hd drw_at, _, _, rfl, rfl, _, rfl, d, _, rfl, dp (k := .inr "at") hd drw_put_at (by show 4 < 1000; decide), ?_⟩
      have hd1 : (upd H d (.dK (drw c (av + 1) lv uv))) d = some (.dK (drw c (av + 1) lv uv)) := upd_same
      have hc1 : SqL K (upd H d (.dK (drw c (av + 1) lv uv))) c (cells.map V.int) := SqL.of (by rw [upd_ne D.dc.symm]; exact D.list)
      -- the way by the mixer
      have fin : ∀ r : Int, Q (.int (r.fmod b)) (upd (upd H d (.dK (drw c (av + 1) lv uv))) d (.dK (drw c (av + 1) lv (uv + 1)))) := fun r => by
        rw [upd_upd]
        exact hq _ _ (fm b0).1 (fm b0).2 (Dr_up D (by omega) (by omega) (by omega) (by omega) l0) But.upd
      have last : ∀ tl, tl = (tSeq (sDPut (tVar 0) (tC (V.str "used")) (tOp (rI0 fun i j => V.int (i + j)) (tDGet (tVar 0) (tC (V.str "used"))) (tC (V.int 1))))
          (tRet (tOp (rI (fun x j => j ≠ 0) fun i j => V.int (i.fmod j)) (tCa spMixed (fun cls d _ H => E cls d H) (tCons (tCa spMixed (fun cls d _ H => E cls d H) (tCons (tVar 4) (tCons (tDGet (tVar 0) (tC (V.str "at"))) tNil))) (tCons (tDGet (tVar 0) (tC (V.str "used"))) tNil))) (tVar 1)))) →
          tl { nx := fun _ H' => Q .non H', rt := Q } [some (.ref d), some (.int b), none, some (.ref c), some (.int cell)] (upd H d (.dK (drw c (av + 1) lv uv))) := by
        rintro _ rfl
        have hd2 : (upd (upd H d (.dK (drw c (av + 1) lv uv))) d (.dK (drw c (av + 1) lv (uv + 1)))) d = some (.dK (drw c (av + 1) lv (uv + 1))) := upd_same
        refine ⟨_, rfl, d, _, rfl, dg (k := .inr "used") hd1 drw_used, _, _, rfl, rfl, _, rfl, d, _, rfl, dp (k := .inr "used") hd1 drw_put_used (by show 4 < 1000; decide), ?_⟩
        refine ⟨_, rfl, _, rfl, d, _, rfl, dg (k := .inr "at") hd2 drw_at, cell, av + 1, rfl, by omega, by omega, fun r r0 => ?_⟩
        refine ⟨_, rfl, d, _, rfl, dg (k := .inr "used") hd2 drw_used, r, uv + 1, rfl, by omega, by omega, fun r' r0' => ?_⟩
        exact ⟨_, rfl, _, _, rfl, rfl, (by show b ≠ 0; omega), fin r'⟩
      refine ⟨_, rfl, _, _, rfl, rfl, ⟨by decide, by decide, by decide⟩, _, _, rfl, rfl, _, rfl, ?_⟩
      refine ifd (fun h1 => ?_) (fun h1 => ?_)
      · refine ⟨_, rfl, d, _, rfl, dg (k := .inr "at") hd1 drw_at, _, rfl, c, _, rfl, .inl hc1, _, _, rfl, rfl, _, rfl, ?_⟩
        refine ifd (fun h2 => ?_) (fun h2 => last _ rfl)
        refine ⟨_, rfl, _, rfl, _, _, rfl, rfl, ⟨(by omega), bb⟩, _, rfl, d, _, rfl, dp (k := .inr "left") hd1 drw_put_left (by show 4 < 1000; decide), ?_⟩
        refine ⟨_, rfl, _, rfl, _, _, rfl, rfl, (by show b ≠ 0; omega), ?_⟩
        rw [upd_upd]
        have hcell : (0 : Int) ≤ cell := by
          have h1' : (10 : Int) ^ (18 : Int).toNat ≤ cell := h1
          have h10 : (0 : Int) ≤ (10 : Int) ^ (18 : Int).toNat := by decide
          omega
        exact hq _ _ (fm b0).1 (fm b0).2 (Dr_up D (by omega) (by omega) (by omega) (by omega) (fd b0 hcell)) But.upd
      · refine iteF ?_
        exact last _ rfl

end
end BJL

namespace BJL
open PySem PySem.Spec PyProof.Rows L2 BJ
section
variable {P : Program} {w : World} {K : PySem.W.Frag} {mg : Str → Option Value} {base : Heap} {a : Adr}
open Evl
/-- what can be shown -/
def okC (c : Nat) (d : PyData) : Bool := d.showable && d.leavesShort 310 && decide (d.depth ≤ 2) && decide (d.bulk ≤ c)
abbrev okB (d : PyData) : Bool := okC 2001 d
theorem okC_all {c : Nat} {ds : List PyData} (h : ∀ d ∈ ds, okC c d = true) : PyData.showableAll ds = true ∧ PyData.leavesShortAll 310 ds = true ∧ PyData.depthAll ds ≤ 2 ∧ PyData.bulkAll ds ≤ (c + 1) * ds.length := by
  induction ds with
  | nil => exact ⟨rfl, rfl, Nat.zero_le _, Nat.zero_le _⟩
  | cons d ds ih =>
    obtain ⟨i1, i2, i3, i4⟩ := ih fun x hx => h x (List.mem_cons_of_mem _ hx)
    have hd := h d List.mem_cons_self
    unfold okC at hd
    simp only [Bool.and_eq_true, decide_eq_true_eq] at hd
    obtain ⟨⟨⟨h1, h2⟩, h3⟩, h4⟩ := hd
    refine ⟨?_, ?_, ?_, ?_⟩
    · unfold PyData.showableAll; rw [h1, i1]; rfl
    · unfold PyData.leavesShortAll; rw [h2, i2]; rfl
    · unfold PyData.depthAll; omega
    · unfold PyData.bulkAll; rw [List.length_cons, Nat.mul_succ]; omega
theorem small_z {d : PyData} (h1 : d.showable = true) (h2 : d.leavesShort 310 = true) (h3 : d.depth ≤ 40) (h4 : d.bulk ≤ 50000) : ShowsZ d :=
  ⟨h1, h3, by have h := PyData.shown_le_bulk 310 (by decide) d h2; rw [sizeLine_eq]; omega⟩
theorem ok_z {d : PyData} (h : okB d = true) : ShowsZ d := by
  unfold okB okC at h
  simp only [Bool.and_eq_true, decide_eq_true_eq] at h
  exact small_z h.1.1.1 h.1.1.2 (by omega) (by omega)
theorem ok_lst {ds : List PyData} (h : ∀ d ∈ ds, okB d = true) (hl : ds.length ≤ 20) : ShowsZ (.list ds) := by
  obtain ⟨h1, h2, h3, h4⟩ := okC_all h
  exact small_z (by unfold PyData.showable; exact h1) (by unfold PyData.leavesShort; exact h2) (by unfold PyData.depth; omega) (by unfold PyData.bulk; omega)
theorem ok_tup {ds : List PyData} (h : ∀ d ∈ ds, okB d = true) (hl : ds.length ≤ 20) : ShowsZ (.tuple ds) := by
  obtain ⟨h1, h2, h3, h4⟩ := okC_all h
  exact small_z (by unfold PyData.showable; exact h1) (by unfold PyData.leavesShort; exact h2) (by unfold PyData.depth; omega) (by unfold PyData.bulk; omega)
/-- an atom of any kind -/
def atomD : V → Option PyData
  | .non => some .none
  | .bl b => some (.bool b)
  | .int i => some (.int i)
  | .str z => some (.str z)
  | _ => none
def okAtom (v : V) : Bool := match atomD v with
  | some d => okB d && d.canLay0 && atomB v
  | none => false
theorem atom_dz {v : V} {d : PyData} (h : atomD v = some d) (H : Hp) : Dz K H v d := by
  cases v with
  | non => cases h; exact .non
  | bl b => cases h; exact .bl b
  | int i => cases h; exact .int i
  | str z => cases h; exact .str z
  | _ => cases h
theorem atom_dp {v : V} {d : PyData} (h : atomD v = some d) (H : Hp) : Dp K H v d := by
  cases v with
  | non => cases h; exact .non
  | bl b => cases h; exact .bl b
  | int i => cases h; exact .int i
  | str z => cases h; exact .str z
  | _ => cases h
theorem okAtom_is {v : V} (h : okAtom v = true) : ∃ d, atomD v = some d ∧ okB d = true ∧ d.canLay0 = true ∧ Fits v ∧ atomB v = true := by
  unfold okAtom at h
  cases e : atomD v with
  | none => rw [e] at h; cases h
  | some d =>
    rw [e] at h
    simp only [Bool.and_eq_true] at h
    refine ⟨d, rfl, h.1.1, h.1.2, fun z hz => ?_, h.2⟩
    subst hz
    have q : (decide (V.str z = V.non) || (false || (decide ((z.length : Int) ≤ 2000) || false))) = true := h.2
    rw [decide_eq_false (fun z => nomatch z), Bool.false_or, Bool.false_or, Bool.or_false] at q
    have := of_decide_eq_true q
    rw [sizeLine_eq]
    omega
theorem laid {H : Hp} {p : Addr} (_ : H p = none) (o : HO) : upd H p o p = some o := upd_same
/-- a value: an atom that is drawn, or a node -/
def ValAt (K : PySem.W.Frag) (a : Adr) (H : Hp) (v : V) : Prop := okAtom v = true ∨ NodeAt a H v
theorem ValAt.ex {H H' : Hp} {v : V} (h : ValAt K a H v) (e : Ex H H') : ValAt K a H' v := h.imp id fun n => n.ex e
theorem ValAt.good (T : Txt P K mg a) {H : Hp} {v : V} (h : ValAt K a H v) : GoodV K a H v := by
  rcases h with h | h
  · obtain ⟨d, h1, _, _, h4, h5⟩ := okAtom_is h
    exact ⟨false, kn_dz T (atom_dz h1 H), h4, by unfold valB; rw [h5]; rfl⟩
  · refine ⟨true, kn_node T h, fun z e => ?_, by unfold valB; cases atomB v <;> rfl⟩
    obtain ⟨p, C, dx, fs, h1, _⟩ := h
    rw [h1] at e
    cases e
theorem rc_isN {H : Hp} {x : V} {t : Value} {C : Addr} {b : Bool} (h : TyX K H x t) (k : PySem.W.kitOne K t (.ref C) = some b) : RC (rIsG K) [x, .ref C] H (.bl b) :=
  fun H1 e Q q => ⟨x, _, t, _, b, rfl, .own _, .ty (tyx_ex' e h), k, q H1 (Ex.refl _)⟩

end
end BJL

namespace BJL
open PySem PySem.Spec PyProof.Rows L2 BJ
section
variable {P : Program} {w : World} {K : PySem.W.Frag} {mg : Str → Option Value} {base : Heap} {a : Adr}
open Evl
def LTRS : Str := "abcdefghijklmnopqrstuvwxyzABCDEFGHIJKLMNOPQRSTUVWXYZ"
def OTHS : Str := "._0123456789"
def sgnB (c : Nat) : Bool := decide (c ∈ LTRS.cps.toList) || decide (c ∈ OTHS.cps.toList)
def brandL (l : List Nat) : Bool := (decide (1 ≤ (l.length : Int)) && decide ((l.length : Int) ≤ 40)) && (decide (l.getD 0 0 ∈ LTRS.cps.toList) && l.all sgnB)
def brandV : V → Bool | .str z => brandL z.cps.toList | _ => false
def thingV : V → Bool | .str z => brandL z.cps.toList && !decide (V.str z = V.str "bag") | _ => false
def spBrand (K : PySem.W.Frag) (a : Adr) : Sp := fun vs H Q _ => ∃ x b, vs = [x] ∧ Kn K a H x b ∧ Fits x ∧ ∀ H', Ex H H' → Q (.bl (brandV x)) H'
theorem ok_is_brand (T : Txt P K mg a) : CallO P w K mg base 2 (.ref a.is_brand) (spBrand K a) := by
  refine fnO (T.d_is_brand.okX sc_is_brand (fun vs H Q E h => ?_) (fun cdv A outer s H vs Q E hr h => ?_))
  · obtain ⟨x, b, rfl, _⟩ := h
    rfl
  · obtain ⟨x, b, rfl, kn, hz, hq⟩ := h
    refine ⟨_, (pss_cons (ps_if (PW.pt (pw_or (pt_not (pt_val (pe_callB (call_isG' (K := K) rfl) (by rfl) T.b_isinstance (by decide +kernel) (pa_cons (pv 0) (pa_cons (pe_bltn (v := .ty "str") (u := .type "str") (by rfl) T.b_str (by decide +kernel) (by exact rfl)) pa_nil))))) (pw_or (pt_not (pt_chain op_le op_le pe_int (pe_callB call_len_str (by rfl) T.b_len (by decide +kernel) (pa_cons (pv 0) pa_nil)) (pe_glob (v := .int (40)) (by rfl) T.c_MOST_BRAND.choose_spec ⟨_, rfl⟩))) (pw_or1 (pt_cmpR op_notIn_sign (pe_ix ix_str (pv 0) pe_int (fun _ _ => rfl)) (pe_glob (v := .str "abcdefghijklmnopqrstuvwxyzABCDEFGHIJKLMNOPQRSTUVWXYZ") (by rfl) T.c_LETTERS.choose_spec ⟨_, rfl⟩) (by rfl))))))
 (pss_one (ps_ret pe_bl))
 pss_nil)
 (pss_one (ps_ret (pe_callB (cr_all rfl) (by rfl) T.b_all (by decide +kernel) (pa_cons (pe_lc (own := [("sign", 1)]) (g := (gName 1)) (by rfl) sc_is_brand.nd (pi_str (pv 0)) (blkOk_by (own := [("sign", 1)]) (N := ["thing", "sign"]) (sc := defScope s_is_brand) (by decide +kernel)) (fun _ _ _ _ _ => (pg_name (i := 1) sc_is_brand.nd rfl (Or.inl rfl))) (fun _ _ _ _ _ => pts_nil) (fun _ _ _ _ _ => (pe_or (pe_cmpR op_in_sign (pv 1) (pe_glob (v := .str "abcdefghijklmnopqrstuvwxyzABCDEFGHIJKLMNOPQRSTUVWXYZ") (by rfl) T.c_LETTERS.choose_spec ⟨_, rfl⟩) (by rfl)) (pe_one (pe_cmpR op_in_sign (pv 1) (pe_glob (v := .str "._0123456789") (by rfl) T.c_OTHERS.choose_spec ⟨_, rfl⟩) (by rfl)))))) pa_nil))))), ?_⟩
    obtain ⟨t, ty, _, _, k3, _⟩ := id kn
    have t1 : EvT (tNot (tB (tCB (rIsG K) (tCons (tVar 0) (tCons (tC (.ty "str")) tNil))))) (L2.start ["thing", "sign"] [x]) H (!isS x) :=
      et_not (et_B (ev_cb (ea_cons (ev_var rfl) (ea_cons ev_c ea_nil)) fun H1 e Q q => ⟨x, _, t, _, _, rfl, .ty "str", .ty (tyx_ex' e ty), k3, q H1 (Ex.refl _)⟩))
    cases x with
    | str z =>
      have hlen : z.length = z.cps.toList.length := strLen_tl z
      have lenE : Ev (tCB (fun xs H Q => ∃ z : Str, xs = [.str z] ∧ z.length ≤ sizeLine ∧ Q (.int z.length) H) (tCons (tVar 0) tNil)) (L2.start ["thing", "sign"] [.str z]) H (.int (z.cps.toList.length : Int)) :=
        ev_cb (ea_cons (ev_var rfl) ea_nil) fun H1 e Q q => ⟨z, rfl, hz z rfl, by rw [hlen]; exact q H1 (Ex.refl _)⟩
      have t2 := et_not (et_test (ev_chain (k := decide (1 ≤ (z.cps.toList.length : Int))) (v := .bl (decide (1 ≤ (z.cps.toList.length : Int)) && decide ((z.cps.toList.length : Int) ≤ 40))) (r := rI0 fun i j => V.bl (decide (i ≤ j))) (r' := rI0 fun i j => V.bl (decide (i ≤ j))) (ta := tC (.int 1)) (tc := tC (.int 40)) (z := .int 40) ev_c lenE rv_I0 (fun h => ⟨ev_c, by rw [h]; exact rv_I0⟩) fun h => by rw [h]; rfl))
      have t3 : (decide (1 ≤ (z.cps.toList.length : Int)) && decide ((z.cps.toList.length : Int) ≤ 40)) = true → EvT (tTest (tOp (fun x y H Q => ∃ (c : Nat) (z : Str), x = .str ⟨#[c]⟩ ∧ y = .str z ∧ Q (.bl (!decide (c ∈ z.cps.toList))) H) (tOp rIxS (tVar 0) (tC (.int 0))) (tC (.str LTRS)))) (L2.start ["thing", "sign"] [.str z]) H (!decide (z.cps.toList.getD 0 0 ∈ LTRS.cps.toList)) := fun h => by
        rw [Bool.and_eq_true] at h
        have h1 : 0 < z.cps.toList.length := by have := of_decide_eq_true h.1; omega
        refine et_test (ev_op (x := .str ⟨#[z.cps.toList.getD 0 0]⟩) (ev_op (x := .str z) (y := .int 0) (ev_var rfl) ev_c fun H1 e Q q => ⟨z, 0, z.cps.toList.getD 0 0, rfl, rfl, hz z rfl, ?_, q H1 (Ex.refl _)⟩) ev_c fun H1 e Q q => ⟨_, _, rfl, rfl, q H1 (Ex.refl _)⟩)
        have : atI z.cps.toList ((0 : Nat) : Int) = z.cps.toList[0]? := by unfold atI; rw [ixN_nat h1]; rfl
        rw [show atI z.cps.toList 0 = z.cps.toList[0]? from this, List.getD, List.getElem?_eq_getElem h1]
        rfl
      have tt := et_or t1 fun _ => et_or t2 fun h => t3 (by simpa using h)
      have hbr : ∀ bb, (!isS (V.str z) || (!(decide (1 ≤ (z.cps.toList.length : Int)) && decide ((z.cps.toList.length : Int) ≤ 40)) || !decide (z.cps.toList.getD 0 0 ∈ LTRS.cps.toList))) = bb →
          (bb = true → brandL z.cps.toList = false) ∧ (bb = false → (decide (1 ≤ (z.cps.toList.length : Int)) && decide ((z.cps.toList.length : Int) ≤ 40)) = true ∧ brandL z.cps.toList = z.cps.toList.all sgnB) := fun bb => by
        unfold brandL
        rw [show isS (V.str z) = true from rfl]
        generalize (decide (1 ≤ (z.cps.toList.length : Int)) && decide ((z.cps.toList.length : Int) ≤ 40)) = B1
        generalize decide (z.cps.toList.getD 0 0 ∈ LTRS.cps.toList) = B2
        generalize z.cps.toList.all sgnB = B3
        rintro rfl
        cases B1 <;> cases B2 <;> cases B3 <;> exact ⟨(fun h => by first | rfl | cases h), (fun h => by first | exact ⟨rfl, rfl⟩ | cases h)⟩
      refine q_when tt (fun hb H1 e1 => ?_) fun hb H1 e1 => ?_
      · have := hq H1 e1
        rw [show brandV (.str z) = false from (hbr _ hb).1 rfl] at this
        exact this
      · obtain ⟨hB, hall⟩ := (hbr _ hb).2 rfl
        rw [Bool.and_eq_true] at hB
        have hl : z.cps.toList.length ≤ 40 := by have := of_decide_eq_true hB.2; omega
        have el := el_all (H := H1) (vs := [1]) (te := tOrV (tOp (fun x y H Q => ∃ (c : Nat) (z : Str), x = .str ⟨#[c]⟩ ∧ y = .str z ∧ Q (.bl (decide (c ∈ z.cps.toList))) H) (tVar 1) (tC (.str LTRS))) (tOp (fun x y H Q => ∃ (c : Nat) (z : Str), x = .str ⟨#[c]⟩ ∧ y = .str z ∧ Q (.bl (decide (c ∈ z.cps.toList))) H) (tVar 1) (tC (.str OTHS)))) (j := 1) (ei_str (s := z) (tl := tVar 0) (σ := L2.start ["thing", "sign"] [.str z]) (ev_var rfl)) (fun y => .bl (sgnB (match y with | .str s => s.cps.getD 0 0 | _ => 0))) (by rw [List.length_map]; omega) (fun _ => rfl)
          (fun y hy H2 e2 => by
            obtain ⟨c, hc, rfl⟩ := List.mem_map.mp hy
            exact ev_orV (ev_op (x := .str ⟨#[c]⟩) (ev_var rfl) ev_c fun H1 e Q q => ⟨_, _, rfl, rfl, q H1 (Ex.refl _)⟩) fun _ => ev_op (x := .str ⟨#[c]⟩) (ev_var rfl) ev_c fun H1 e Q q => ⟨_, _, rfl, rfl, q H1 (Ex.refl _)⟩)
        rw [List.map_map] at el
        have el2 := ev_allL (K := K) (bs := z.cps.toList.map sgnB) (by rw [List.map_map]; exact el)
        refine s_ret el2 fun H2 e2 => ?_
        have := hq H2 (e1.trans e2)
        rw [show brandV (.str z) = z.cps.toList.all sgnB from hall] at this
        rw [List.all_map]
        exact this
    | _ =>
      refine q_when (b := !false || false) (et_or t1 fun z => nomatch z) (fun _ H1 e1 => hq H1 e1) fun z => nomatch z
/-- a Thing at p: what it is called, its dict at sd -/
structure ThAt (a : Adr) (H : Hp) (p : Addr) (x : V) (sd : Addr) (kvs : List (Key × V)) : Prop where
  at_ : ∃ dx, H p = some (.ins a.Thing dx [("called", x), ("settings", .ref sd)])
  dict : H sd = some (.dK kvs)
theorem ThAt.ex {H H' : Hp} {p sd : Addr} {x : V} {kvs : List (Key × V)} (h : ThAt a H p x sd kvs) (e : Ex H H') : ThAt a H' p x sd kvs := by
  obtain ⟨⟨dx, h1⟩, h2⟩ := h
  exact ⟨⟨dx, e _ _ h1⟩, e _ _ h2⟩
theorem ThAt.node {H : Hp} {p sd : Addr} {x : V} {kvs : List (Key × V)} (h : ThAt a H p x sd kvs) : NodeAt a H (.ref p) := by
  obtain ⟨⟨dx, h1⟩, _⟩ := h
  exact ⟨p, _, dx, _, rfl, h1, by unfold NodeC; simp⟩
def spTInit (K : PySem.W.Frag) (a : Adr) : Sp := fun vs H Q E => ∃ p dx x b, vs = [.ref p, x] ∧ H p = some (.ins a.Thing dx []) ∧ Kn K a H x b ∧ Fits x ∧
  ((thingV x = true ∧ ∀ H' sd, H sd = none → ExB p H H' → H' p = some (.ins a.Thing dx [("called", x), ("settings", .ref sd)]) → H' sd = some (.dK []) → Q .non H') ∨ (thingV x = false ∧ Bad a.InvalidBrand "given" x H E))
theorem of_Thing_init (T : Txt P K mg a) : ∃ fd, FnOk P w K mg base (L2.CX P w) 8 a.Thing___init__ fd ["self", "brand"] (spTInit K a) ∧ Binds K fd ["self", "brand"] [] ∧ Fun K "__init__" "Thing.__init__" s_Thing___init__ a.Thing___init__ fd := by
  have G_is_brand : CallO P w K mg base 2 (.ref a.is_brand) (spBrand K a) := ok_is_brand T
  refine T.d_Thing___init__.okX sc_Thing___init__ (fun vs H Q E h => ?_) (fun cdv A outer s H vs Q E hr h => ?_)
  · obtain ⟨p, dx, x, b, rfl, _⟩ := h
    rfl
  · obtain ⟨p, dx, x, b, rfl, hp, kn, hz, hx⟩ := h
    refine ⟨_, (pss_cons (ps_if (PW.pt (pw_or (pt_not (pt_val (pe_co G_is_brand (hr.mono (by decide)) rfl T.g_is_brand T.k_is_brand (takes_of rfl rfl rfl rfl) (pa_cons (pv 1) pa_nil)))) (pw_or1 (pt_cmpR op_eq (pv 1) (pe_glob (v := .str "bag") (by rfl) T.c_BAG.choose_spec ⟨_, rfl⟩) (nomark _)))))
 (pss_one (ps_raiseErr rfl T.e_InvalidBrand T.i_InvalidBrand T.k_InvalidBrand T.x_InvalidBrand T.t_InvalidBrand hr (takes_of rfl rfl rfl rfl) (pa_cons (pv 1) pa_nil) (by rfl)))
 pss_nil)
 (pss_cons (ps_fld (pv 0) (pv 1) rfl)
 (pss_one (ps_fld (pv 0) pe_dnewK rfl)))), ?_⟩
    have t1 : EvT (tNot (tB (tCa (spBrand K a) (fun cls d _ H => E cls d H) (tCons (tVar 1) tNil)))) (L2.start ["self", "brand"] [.ref p, x]) H (!brandV x) :=
      et_not (et_B (ev_ca (ea_cons (ev_var rfl) ea_nil) fun H1 e Q E q => ⟨x, b, rfl, kn.ex e, hz, q⟩))
    have raise : thingV x = false → ∀ {D : Ends} {H1 : Hp}, Ex H H1 → tRaiseErr a.InvalidBrand ["given"] (fun cls d _ H => E cls d H) (tCons (tVar 1) tNil) D (L2.start ["self", "brand"] [.ref p, x]) H1 := fun hf D H1 e => by
      rcases hx with ⟨ht, _⟩ | ⟨_, hB⟩
      · rw [ht] at hf; cases hf
      · exact ⟨_, rfl, rfl, fun d hd => hB d _ (fresh_back e hd) (e.trans (Ex.new hd)) upd_same⟩
    cases hb : brandV x with
    | false =>
      rw [hb] at t1
      have hf : thingV x = false := by
        cases x with
        | str z => show (brandL z.cps.toList && _) = false; rw [show brandL z.cps.toList = false from hb]; rfl
        | _ => rfl
      exact q_when (b := !false || false) (et_or t1 fun z => nomatch z) (fun _ H1 e => raise hf e) fun z => nomatch z
    | true =>
      rw [hb] at t1
      cases x with
      | str z =>
        have t2 : EvT (tTest (tOp rEq (tVar 1) (tC (.str "bag")))) (L2.start ["self", "brand"] [.ref p, .str z]) H (decide (V.str z = V.str "bag")) := et_test (ev_op (ev_var rfl) ev_c (rv_eq rfl))
        have hv : thingV (.str z) = !decide (V.str z = V.str "bag") := by show (brandL z.cps.toList && _) = _; rw [show brandL z.cps.toList = true from hb]; rfl
        refine q_when (et_or t1 fun _ => t2) (fun hc H1 e => raise (by rw [hv]; simpa using hc) e) fun hc H1 e => ?_
        rcases hx with ⟨_, hq⟩ | ⟨hf, _⟩
        · refine ⟨_, rfl, _, rfl, p, a.Thing, dx, [], rfl, e _ _ hp, T.c_Thing, T.n_Thing_called, (by decide), fun sd nsd => ?_⟩
          have psd : sd ≠ p := fun z => by rw [z, upd_same] at nsd; cases nsd
          have nsd0 : H1 sd = none := by rw [upd_ne psd] at nsd; exact nsd
          refine ⟨_, rfl, p, a.Thing, dx, [("called", .str z)], rfl, (by rw [upd_ne psd.symm]; exact upd_same), T.c_Thing, T.n_Thing_settings, (by show 1 < 1000; decide), ?_⟩
          refine hq _ sd (fresh_back e nsd0) (fun b o hbo hbp => ?_) upd_same ?_
          · have hbs : b ≠ sd := fun z => by rw [z, fresh_back e nsd0] at hbo; cases hbo
            rw [upd_ne hbp, upd_ne hbs, upd_ne hbp]
            exact e _ _ hbo
          · rw [upd_ne psd]
            exact upd_same
        · rw [hv] at hf
          rw [show decide (V.str z = V.str "bag") = true by simpa using hf] at hc
          cases hc
      | _ => cases hb
/-- Thing(x) -/
def spThing (K : PySem.W.Frag) (a : Adr) (x : V) : Hp → VK → XK → Prop := fun H Q E => ∃ b, Kn K a H x b ∧ Fits x ∧
  ((thingV x = true ∧ ∀ p sd H', H p = none → H sd = none → Ex H H' → ThAt a H' p x sd [] → Q (.ref p) H') ∨ (thingV x = false ∧ Bad a.InvalidBrand "given" x H E))
theorem mk_thing {x : V} {H : Hp} {Q : VK} {E : XK} (h : spThing K a x H Q E) (p dx : Addr) (hp : H p = none) (hd : H dx = none) (ne : dx ≠ p) :
    spTInit K a [.ref p, x] (upd (upd H dx (.own p)) p (.ins a.Thing dx [])) (fun v H2 => v = .non ∧ Q (.ref p) H2) E := by
  obtain ⟨b, kn, hz, h⟩ := h
  have e1 : Ex H (upd (upd H dx (.own p)) p (.ins a.Thing dx [])) := (Ex.new hd).trans (Ex.new (by rw [upd_ne ne.symm]; exact hp))
  refine ⟨p, dx, x, b, rfl, upd_same, kn.ex e1, hz, ?_⟩
  rcases h with ⟨ho, hq⟩ | ⟨ho, hB⟩
  · refine .inl ⟨ho, fun H' sd hsd he hp' hs' => ⟨rfl, hq p sd H' hp (fresh_back e1 hsd) (fun b o hb => he b o (e1 b o hb) fun z => ?_) ⟨⟨dx, hp'⟩, hs'⟩⟩⟩
    rw [z, hp] at hb
    cases hb
  · exact .inr ⟨ho, hB.back e1⟩
theorem ok_Thing (T : Txt P K mg a) : CallX P w K mg base 9 (.ref a.Thing) [] fun vs zs H Q E => ∃ x, vs = [x] ∧ zs = [] ∧ spThing K a x H Q E := by
  refine (CallX.make T.m_Thing (fnO (of_Thing_init T)).x).imp ?_
  rintro vs zs H Q E ⟨x, rfl, rfl, h⟩ p dx hp hd ne hs
  exact ⟨rfl, mk_thing h p dx hp hd ne⟩
theorem ok_Thing_brand (T : Txt P K mg a) : CallX P w K mg base 9 (.ref a.Thing) ["brand"] fun vs zs H Q E => ∃ x, vs = [] ∧ zs = [x] ∧ spThing K a x H Q E := by
  obtain ⟨fd, F, _, F2⟩ := of_Thing_init (P := P) (w := w) (base := base) (mg := mg) T
  have h1 := callX_of F (ks := ["brand"]) (n := 1) (g := fun us ws => us ++ ws) (gV := fun vs zs => vs ++ zs) ⟨fun s us ws X hu hw => by
    obtain ⟨oc, od, kV, doc, pm, an, cdv, ct, osl, rfl, lk, hcd⟩ := F2.ex
    match us, ws, hu, hw with
    | [u], [v], _, _ => exact .of_eq rfl, fun r r2 => r.append r2⟩
  refine (CallX.make T.m_Thing h1).imp ?_
  rintro vs zs H Q E ⟨x, rfl, rfl, h⟩ p dx hp hd ne hs
  exact ⟨rfl, rfl, mk_thing h p dx hp hd ne⟩

end
end BJL

namespace BJL
open PySem PySem.Spec PyProof.Rows L2 BJ
section
variable {P : Program} {w : World} {K : PySem.W.Frag} {mg : Str → Option Value} {base : Heap} {a : Adr}
open Evl
/-- a property that hands out a field -/
def spGet (K : PySem.W.Frag) (f : Str) : Sp := fun vs H Q _ => ∃ p C dx v fs, vs = [.ref p] ∧ H p = some (.ins C dx fs) ∧ Cls K C ∧ NoAttr K C f ∧ fs.lookup f = some v ∧ Q v H
theorem ok_Thing_brand_get (T : Txt P K mg a) : CallO P w K mg base 1 (.ref a.Thing_brand) (spGet K "called") := by
  refine fnO (T.d_Thing_brand.okX sc_Thing_brand (fun vs H Q E h => ?_) (fun cdv A outer s H vs Q E hr h => ?_))
  · obtain ⟨p, C, dx, v, fs, rfl, _⟩ := h
    rfl
  · obtain ⟨p, C, dx, v, fs, rfl, hp, c, n, l, hq⟩ := h
    exact ⟨_, (pss_one (ps_ret (pe_fld (pv 0) rfl))), _, rfl, p, C, dx, fs, v, rfl, hp, c, n, l, hq⟩
def spShape (z : Str) : Sp := fun vs H Q _ => ∃ p, vs = [p] ∧ Q (.str z) H
def spFields (K : PySem.W.Frag) (a : Adr) : Sp := fun vs H Q _ => ∃ p x sd kvs, vs = [.ref p] ∧ ThAt a H p x sd kvs ∧ kvs.length ≤ 1000 ∧ ∀ t ts H', Ex H H' → H' t = some (.tup (ts.map V.ref)) → Prs H' ts kvs → Q (.ref t) H'
theorem ok_Thing_fields (T : Txt P K mg a) : CallO P w K mg base 1 (.ref a.Thing_fields) (spFields K a) := by
  refine fnO (T.d_Thing_fields.okX sc_Thing_fields (fun vs H Q E h => ?_) (fun cdv A outer s H vs Q E hr h => ?_))
  · obtain ⟨p, x, sd, kvs, rfl, _⟩ := h
    rfl
  · obtain ⟨p, x, sd, kvs, rfl, ⟨⟨dx, hp⟩, hsd⟩, hl, hq⟩ := h
    refine ⟨_, (pss_one (ps_ret (pe_callTy call_tuple_of (by rfl) T.b_tuple (by decide +kernel) (pa_cons (pe_lock (pe_lc (own := [("label", 1), ("value", 2)]) (g := (gTup K 2 (gCons (gName 1) (gCons (gName 2) gNil)))) (by rfl) sc_Thing_fields.nd (pi_items (pe_fld (pv 0) rfl)) (blkOk_by (own := [("label", 1), ("value", 2)]) (N := ["self", "label", "value"]) (sc := defScope s_Thing_fields) (by decide +kernel)) (fun _ _ _ _ _ => (pg_tup rfl (pgs_cons (pg_name (i := 1) sc_Thing_fields.nd rfl (Or.inl rfl)) (pgs_cons (pg_name (i := 2) sc_Thing_fields.nd rfl (Or.inl rfl)) pgs_nil)))) (fun _ _ _ _ _ => pts_nil) (fun _ _ _ _ _ => (pe_tup (pa_cons (pv 1) (pa_cons (pv 2) pa_nil)))))) pa_nil)))), ?_⟩
    have psd : p ≠ sd := ne_of hp hsd fun z => nomatch z
    refine ⟨sd, .dK kvs, hsd, trivial, fun od => ?_⟩
    refine ⟨_, rfl, p, a.Thing, dx, _, _, rfl, (by rw [upd_ne psd]; exact hp), T.c_Thing, T.n_Thing_settings, rfl, sd, od, kvs, rfl, upd_same, fun Dl hDl => ?_⟩
    have nD : Dl ≠ sd := fun z => by rw [z, upd_same] at hDl; cases hDl
    -- what stands, the dict aside
    refine lc_it walk_items (fun i H' => Ex (upd H sd (.frz od (.dK kvs))) H' ∧ ∃ ts, H' Dl = some (.lst (ts.map V.ref)) ∧ Prs H' ts (kvs.take i) ∧ ∀ t ∈ ts, t ≠ Dl) ⟨Ex.new hDl, [], upd_same, .nil, fun t h => nomatch h⟩ (fun i H' _ h => h.1 _ _ upd_same) (fun i x H2 H3 hi ⟨e2, ts, hx, hts, hne⟩ y => ?_) (fun H' ⟨e', ts, hx, hts, hne⟩ => ?_)
    · obtain ⟨U, kx, vx, rfl, hU, rfl, hk, hv⟩ := y
      have hkv : kvs[i]? = some kvs[i] := List.getElem?_eq_getElem hi
      dsimp only at hk hv
      rw [hkv] at hk hv
      cases hk
      cases hv
      refine ⟨U, _, rfl, st_of upd_same, rfl, _, _, rfl, _, _, rfl, rfl, rfl, ?_⟩
      unfold tYes
      dsimp only
      rw [if_pos rfl]
      refine ⟨_, rfl, _, rfl, (by show 2 ≤ sizeLine; decide), fun t nt => ?_⟩
      have eU := Ex.new (o := .tup [kV kvs[i].1, kvs[i].2]) hU
      have et := Ex.new (o := .tup [kV kvs[i].1, kvs[i].2]) nt
      have hxU := (eU.trans et) _ _ hx
      have htD : t ≠ Dl := fun z => by rw [z] at nt; rw [eU _ _ hx] at nt; cases nt
      have hlen := hts.len
      rw [List.length_take] at hlen
      refine ⟨_, hxU, (by rw [List.length_map, sizeLine_eq]; omega), Ex.mut (e2.trans (eU.trans et)) hDl, ts ++ [t], ?_, ?_, fun t' ht' => ?_⟩
      · rw [List.map_append]
        exact upd_same
      · rw [List.take_add_one, hkv]
        refine Prs.snoc (by rw [upd_ne htD]; exact upd_same) (hts.keep fun t' ht' o ho => ?_)
        rw [upd_ne (hne t' ht')]
        exact (eU.trans et) _ _ ho
      · rcases List.mem_append.mp ht' with h | h
        · exact hne t' h
        · rw [List.mem_singleton.mp h]; exact htD
    · rw [List.take_length] at hts
      refine ⟨e' _ _ upd_same, Dl, ts.map V.ref, rfl, .inl ⟨sq_of (by rw [upd_ne nD]; exact hx), fun t nt => ?_⟩⟩
      have eA := ex_unlock hsd e'
      have et := Ex.new (o := .tup (ts.map V.ref)) nt
      refine hq t ts _ (eA.trans et) upd_same ?_
      have hP : Prs (upd H' sd (.dK kvs)) ts kvs := hts.keep fun t' ht' o ho => by
        have : t' ≠ sd := fun z => by
          obtain ⟨i, hi⟩ := List.mem_iff_getElem?.mp ht'
          have hlt := (List.getElem?_eq_some_iff.mp hi).1
          have hk := hts.len
          obtain ⟨t2, ht2, ho2⟩ := hts.get i kvs[i] (List.getElem?_eq_getElem (by omega))
          rw [hi] at ht2
          cases ht2
          rw [z, e' _ _ upd_same] at ho2
          cases ho2
        rw [upd_ne this]
        exact ho
      exact hP.ex et
/-- thing.set_field(l, x) -/
def spSet (K : PySem.W.Frag) (a : Adr) : Sp := fun vs H Q E => ∃ p c sd kvs l x b, vs = [.ref p, l, x] ∧ ThAt a H p c sd kvs ∧ kvs.length ≤ 900 ∧ Kn K a H l b ∧ Fits l ∧
  ((keyS l = false ∧ Bad a.InvalidKey "key" l H E) ∨ (keyS l = true ∧ BadV K a H x ∧ Bad a.InvalidValue "value" x H E) ∨ (∃ z, l = .str z ∧ keyS l = true ∧ GoodV K a H x ∧ Q .non (upd H sd (.dK (putK kvs (.inr z) x)))))
theorem of_set_field (T : Txt P K mg a) : ∃ fd, FnOk P w K mg base (L2.CX P w) 10 a.Thing_set_field fd ["self", "label", "value"] (spSet K a) ∧ Binds K fd ["self", "label", "value"] [] ∧ Fun K "set_field" "Thing.set_field" s_Thing_set_field a.Thing_set_field fd := by
  have G_check_label : CallO P w K mg base 6 (.ref a.check_label) (spCheck K a a.InvalidKey "key" fun x _ => keyS x) := ok_check_label T
  have G_check_value : CallO P w K mg base 8 (.ref a.check_value) (spCheck K a a.InvalidValue "value" valB) := ok_check_value T
  refine T.d_Thing_set_field.okX sc_Thing_set_field (fun vs H Q E h => ?_) (fun cdv A outer s H vs Q E hr h => ?_)
  · obtain ⟨p, c, sd, kvs, l, x, b, rfl, _⟩ := h
    rfl
  · obtain ⟨p, c, sd, kvs, l, x, b, rfl, ⟨⟨dx, hp⟩, hsd⟩, hlen, kn, hz, h⟩ := h
    have hu := hu_of hr
    refine ⟨_, (pss_cons (ps_expr (pe_co G_check_label (hr.mono (by decide)) rfl T.g_check_label T.k_check_label (takes_of rfl rfl rfl rfl) (pa_cons (pv 1) pa_nil)))
 (pss_cons (ps_expr (pe_co G_check_value (hr.mono (by decide)) rfl T.g_check_value T.k_check_value (takes_of rfl rfl rfl rfl) (pa_cons (pv 2) pa_nil)))
 (pss_one (ps_dput hu (pe_fld (pv 0) rfl) (pv 1) (pv 2) rfl)))), ?_⟩
    rcases h with ⟨hk, hB⟩ | ⟨hk, ⟨bx, k1, k2, k3⟩, hB⟩ | ⟨z, rfl, hk, ⟨bx, k1, k2, k3⟩, hq⟩
    · exact ⟨_, rfl, l, b, rfl, kn, hz, .inr ⟨hk, hB⟩⟩
    · exact ⟨_, rfl, l, b, rfl, kn, hz, .inl ⟨hk, _, rfl, x, bx, rfl, k1, k2, .inr ⟨k3, hB⟩⟩⟩
    · exact ⟨_, rfl, _, b, rfl, kn, hz, .inl ⟨hk, _, rfl, x, bx, rfl, k1, k2, .inl ⟨k3, _, rfl, _, rfl, p, a.Thing, dx, _, _, rfl, hp, T.c_Thing, T.n_Thing_settings, rfl, _, rfl, sd, _, rfl, DPut.k (k := .inr z) hsd (small1000 (by omega)), hq⟩⟩⟩
/-- thing.field(l) -/
def spField (K : PySem.W.Frag) (a : Adr) : Sp := fun vs H Q E => ∃ p c sd kvs l b, vs = [.ref p, l] ∧ ThAt a H p c sd kvs ∧ Kn K a H l b ∧ Fits l ∧
  ((keyS l = false ∧ Bad a.InvalidKey "key" l H E) ∨ (∃ z, l = .str z ∧ keyS l = true ∧ ((∃ v, valV kvs (.inr z) = some v ∧ Q v H) ∨ (valV kvs (.inr z) = none ∧ Bad a.NoEntry "key" l H E))))
theorem of_field (T : Txt P K mg a) : ∃ fd, FnOk P w K mg base (L2.CX P w) 10 a.Thing_field fd ["self", "label"] (spField K a) ∧ Binds K fd ["self", "label"] [] ∧ Fun K "field" "Thing.field" s_Thing_field a.Thing_field fd := by
  have G_check_label : CallO P w K mg base 6 (.ref a.check_label) (spCheck K a a.InvalidKey "key" fun x _ => keyS x) := ok_check_label T
  refine T.d_Thing_field.okX sc_Thing_field (fun vs H Q E h => ?_) (fun cdv A outer s H vs Q E hr h => ?_)
  · obtain ⟨p, c, sd, kvs, l, b, rfl, _⟩ := h
    rfl
  · obtain ⟨p, c, sd, kvs, l, b, rfl, ⟨⟨dx, hp⟩, hsd⟩, kn, hz, h⟩ := h
    have hu := hu_of hr
    refine ⟨_, (pss_cons (ps_expr (pe_co G_check_label (hr.mono (by decide)) rfl T.g_check_label T.k_check_label (takes_of rfl rfl rfl rfl) (pa_cons (pv 1) pa_nil)))
 (pss_cons (ps_if (pt_cmp (pc_dnotin hu (pv 1) (pe_fld (pv 0) rfl)))
 (pss_one (ps_raiseErr rfl T.e_NoEntry T.i_NoEntry T.k_NoEntry T.x_NoEntry T.t_NoEntry hr (takes_of rfl rfl rfl rfl) (pa_cons (pv 1) pa_nil) (by rfl)))
 pss_nil)
 (pss_one (ps_ret (pe_dget hu (pe_fld (pv 0) rfl) (pv 1) (fun _ _ => rfl)))))), ?_⟩
    rcases h with ⟨hk, hB⟩ | ⟨z, rfl, hk, h⟩
    · exact ⟨_, rfl, l, b, rfl, kn, hz, .inr ⟨hk, hB⟩⟩
    · refine ⟨_, rfl, _, b, rfl, kn, hz, .inl ⟨hk, _, rfl, _, rfl, p, a.Thing, dx, _, _, rfl, hp, T.c_Thing, T.n_Thing_settings, rfl, sd, _, rfl, DGet.k (k := .inr z) hsd, _, rfl, ?_⟩⟩
      rcases h with ⟨v, hv, hq⟩ | ⟨hv, hB⟩
      · rw [hv]
        exact iteF ⟨_, rfl, p, a.Thing, dx, _, _, rfl, hp, T.c_Thing, T.n_Thing_settings, rfl, _, rfl, sd, v, rfl, dg (k := .inr z) hsd hv, hq⟩
      · rw [hv]
        exact iteT ⟨_, rfl, rfl, fun d hd => hB d _ hd (Ex.new hd) upd_same⟩
theorem ok_set_field_kw (T : Txt P K mg a) : CallX P w K mg base 10 (.ref a.Thing_set_field) ["value", "label"] fun vs zs H Q E => vs.length = 1 ∧ zs.length = 2 ∧ spSet K a (vs ++ zs.reverse) H Q E := by
  obtain ⟨fd, F, _, F2⟩ := of_set_field (P := P) (w := w) (base := base) (mg := mg) T
  refine callX_of F (n := 1) (g := fun us ws => us ++ ws.reverse) (gV := fun vs zs => vs ++ zs.reverse) ⟨fun s us ws X hu hw => ?_, fun r r2 => r.append (vals_rev r2)⟩
  obtain ⟨oc, od, kV, doc, pm, an, cdv, ct, osl, rfl, lk, hcd⟩ := F2.ex
  match us, ws, hu, hw with
  | [u], [v1, v2], _, _ => exact .of_eq rfl
theorem ok_field_label (T : Txt P K mg a) : CallX P w K mg base 10 (.ref a.Thing_field) ["label"] fun vs zs H Q E => vs.length = 1 ∧ zs.length = 1 ∧ spField K a (vs ++ zs) H Q E := by
  obtain ⟨fd, F, _, F2⟩ := of_field (P := P) (w := w) (base := base) (mg := mg) T
  refine callX_of F (n := 1) (g := fun us ws => us ++ ws) (gV := fun vs zs => vs ++ zs) ⟨fun s us ws X hu hw => ?_, fun r r2 => r.append r2⟩
  obtain ⟨oc, od, kV, doc, pm, an, cdv, ct, osl, rfl, lk, hcd⟩ := F2.ex
  match us, ws, hu, hw with
  | [u], [v], _, _ => exact .of_eq rfl
theorem ok_field (T : Txt P K mg a) : CallX P w K mg base 10 (.ref a.Thing_field) [] fun vs zs H Q E => zs = [] ∧ spField K a vs H Q E := (fnO (of_field T)).x

end
end BJL

namespace BJL
open PySem PySem.Spec PyProof.Rows L2 BJ
section
variable {P : Program} {w : World} {K : PySem.W.Frag} {mg : Str → Option Value} {base : Heap} {a : Adr}
open Evl
/-- a Book at p, its dict at sd -/
structure BkAt (a : Adr) (H : Hp) (p sd : Addr) (kvs : List (Key × V)) : Prop where
  at_ : ∃ dx, H p = some (.ins a.Book dx [("entries", .ref sd)])
  dict : H sd = some (.dK kvs)
theorem BkAt.ex {H H' : Hp} {p sd : Addr} {kvs : List (Key × V)} (h : BkAt a H p sd kvs) (e : Ex H H') : BkAt a H' p sd kvs := by
  obtain ⟨⟨dx, h1⟩, h2⟩ := h
  exact ⟨⟨dx, e _ _ h1⟩, e _ _ h2⟩
theorem BkAt.node {H : Hp} {p sd : Addr} {kvs : List (Key × V)} (h : BkAt a H p sd kvs) : NodeAt a H (.ref p) := by
  obtain ⟨⟨dx, h1⟩, _⟩ := h
  exact ⟨p, _, dx, _, rfl, h1, by unfold NodeC; simp⟩
def spBInit (a : Adr) : Sp := fun vs H Q E => ∃ p dx, vs = [.ref p] ∧ H p = some (.ins a.Book dx []) ∧ ∀ H' sd, H sd = none → ExB p H H' → H' p = some (.ins a.Book dx [("entries", .ref sd)]) → H' sd = some (.dK []) → Q .non H'
theorem of_Book_init (T : Txt P K mg a) : ∃ fd, FnOk P w K mg base (L2.CX P w) 2 a.Book___init__ fd ["self"] (spBInit a) ∧ Binds K fd ["self"] [] ∧ Fun K "__init__" "Book.__init__" s_Book___init__ a.Book___init__ fd := by
  refine T.d_Book___init__.okX sc_Book___init__ (fun vs H Q E h => ?_) (fun cdv A outer s H vs Q E hr h => ?_)
  · obtain ⟨p, dx, rfl, _⟩ := h
    rfl
  · obtain ⟨p, dx, rfl, hp, hq⟩ := h
    refine ⟨_, (pss_one (ps_fld (pv 0) pe_dnewK rfl)), ?_⟩
    intro sd nsd
    have psd : sd ≠ p := fun z => by rw [z, hp] at nsd; cases nsd
    refine ⟨_, rfl, p, a.Book, dx, [], rfl, (by rw [upd_ne psd.symm]; exact hp), T.c_Book, T.n_Book_entries, (by decide), ?_⟩
    refine hq _ sd nsd (fun b o hbo hbp => ?_) upd_same ?_
    · have hbs : b ≠ sd := fun z => by rw [z, nsd] at hbo; cases hbo
      rw [upd_ne hbp, upd_ne hbs]
      exact hbo
    · rw [upd_ne psd]
      exact upd_same
theorem ok_Book (T : Txt P K mg a) : CallX P w K mg base 3 (.ref a.Book) [] fun vs zs H Q E => vs = [] ∧ zs = [] ∧ ∀ p sd H', H p = none → H sd = none → Ex H H' → BkAt a H' p sd [] → Q (.ref p) H' := by
  refine (CallX.make T.m_Book (fnO (of_Book_init T)).x).imp ?_
  rintro vs zs H Q E ⟨rfl, rfl, hq⟩ p dx hp hd ne hs
  have e1 : Ex H (upd (upd H dx (.own p)) p (.ins a.Book dx [])) := (Ex.new hd).trans (Ex.new (by rw [upd_ne ne.symm]; exact hp))
  refine ⟨rfl, p, dx, rfl, upd_same, fun H' sd hsd he hp' hs' => ⟨rfl, hq p sd H' hp (fresh_back e1 hsd) (fun b o hb => he b o (e1 b o hb) fun z => ?_) ⟨⟨dx, hp'⟩, hs'⟩⟩⟩
  rw [z, hp] at hb
  cases hb
/-- keys as they are passed -/
theorem key_of {x : V} (h : keyV x = true) : ∃ k : Key, x = kV k := by
  cases x with
  | int i => exact ⟨.inl i, rfl⟩
  | str z => exact ⟨.inr z, rfl⟩
  | _ => cases h
/-- book.enter(l, x) -/
def spEnter (K : PySem.W.Frag) (a : Adr) : Sp := fun vs H Q E => ∃ p sd kvs l x b, vs = [.ref p, l, x] ∧ BkAt a H p sd kvs ∧ kvs.length ≤ 900 ∧ Kn K a H l b ∧ Fits l ∧
  ((keyV l = false ∧ Bad a.InvalidKey "key" l H E) ∨ ∃ k, l = kV k ∧ keyV l = true ∧ (((∃ v, valV kvs k = some v) ∧ Bad a.KeyTaken "key" l H E) ∨
    (valV kvs k = none ∧ ((BadV K a H x ∧ Bad a.InvalidValue "value" x H E) ∨ (GoodV K a H x ∧ Q .non (upd H sd (.dK (putK kvs k x))))))))
theorem of_enter (T : Txt P K mg a) : ∃ fd, FnOk P w K mg base (L2.CX P w) 10 a.Book_enter fd ["self", "key", "value"] (spEnter K a) ∧ Binds K fd ["self", "key", "value"] [] ∧ Fun K "enter" "Book.enter" s_Book_enter a.Book_enter fd := by
  have G_check_key : CallO P w K mg base 6 (.ref a.check_key) (spCheck K a a.InvalidKey "key" fun x _ => keyV x) := ok_check_key T
  have G_check_value : CallO P w K mg base 8 (.ref a.check_value) (spCheck K a a.InvalidValue "value" valB) := ok_check_value T
  refine T.d_Book_enter.okX sc_Book_enter (fun vs H Q E h => ?_) (fun cdv A outer s H vs Q E hr h => ?_)
  · obtain ⟨p, sd, kvs, l, x, b, rfl, _⟩ := h
    rfl
  · obtain ⟨p, sd, kvs, l, x, b, rfl, ⟨⟨dx, hp⟩, hsd⟩, hlen, kn, hz, h⟩ := h
    have hu := hu_of hr
    refine ⟨_, (pss_cons (ps_expr (pe_co G_check_key (hr.mono (by decide)) rfl T.g_check_key T.k_check_key (takes_of rfl rfl rfl rfl) (pa_cons (pv 1) pa_nil)))
 (pss_cons (ps_if (pt_cmp (pc_din hu (pv 1) (pe_fld (pv 0) rfl)))
 (pss_one (ps_raiseErr rfl T.e_KeyTaken T.i_KeyTaken T.k_KeyTaken T.x_KeyTaken T.t_KeyTaken hr (takes_of rfl rfl rfl rfl) (pa_cons (pv 1) pa_nil) (by rfl)))
 pss_nil)
 (pss_cons (ps_expr (pe_co G_check_value (hr.mono (by decide)) rfl T.g_check_value T.k_check_value (takes_of rfl rfl rfl rfl) (pa_cons (pv 2) pa_nil)))
 (pss_one (ps_dput hu (pe_fld (pv 0) rfl) (pv 1) (pv 2) rfl))))), ?_⟩
    rcases h with ⟨hk, hB⟩ | ⟨k, rfl, hk, h⟩
    · exact ⟨_, rfl, l, b, rfl, kn, hz, .inr ⟨hk, hB⟩⟩
    · refine ⟨_, rfl, _, b, rfl, kn, hz, .inl ⟨hk, _, rfl, _, rfl, p, a.Book, dx, _, _, rfl, hp, T.c_Book, T.n_Book_entries, rfl, sd, _, rfl, DGet.k hsd, ?_⟩⟩
      rcases h with ⟨⟨v, hv⟩, hB⟩ | ⟨hv, h⟩
      · rw [hv]
        exact ⟨_, rfl, iteT ⟨_, rfl, rfl, fun d hd => hB d _ hd (Ex.new hd) upd_same⟩⟩
      · rw [hv]
        refine ⟨_, rfl, iteF ?_⟩
        rcases h with ⟨⟨bx, k1, k2, k3⟩, hB⟩ | ⟨⟨bx, k1, k2, k3⟩, hq⟩
        · exact ⟨_, rfl, x, bx, rfl, k1, k2, .inr ⟨k3, hB⟩⟩
        · exact ⟨_, rfl, x, bx, rfl, k1, k2, .inl ⟨k3, _, rfl, _, rfl, p, a.Book, dx, _, _, rfl, hp, T.c_Book, T.n_Book_entries, rfl, _, rfl, sd, _, rfl, DPut.k hsd (small1000 (by omega)), hq⟩⟩

end
end BJL

namespace BJL
open PySem PySem.Spec PyProof.Rows L2 BJ
section
variable {P : Program} {w : World} {K : PySem.W.Frag} {mg : Str → Option Value} {base : Heap} {a : Adr}
open Evl
theorem at_nat {xs : List V} {i : Nat} (h : i < xs.length) : atI xs (i : Int) = xs[i]? := by
  unfold atI
  rw [ixN_nat h]
  rfl
theorem ev_ixT {te ty : TE} {σ : L2.St} {H : Hp} {p : Addr} {i : Nat} {xs : List V} {v : V} (h : Ev te σ H (.ref p)) (hi : Ev ty σ H (.int (i : Nat))) (hp : SqT K H p xs) (hv : xs[i]? = some v) : Ev (tOp (rIxT K) te ty) σ H v :=
  ev_op h hi fun H1 e1 Q1 k1 => ⟨p, xs, _, _, rfl, rfl, ex_t e1 hp, (at_nat (List.getElem?_eq_some_iff.mp hv).1).trans hv, k1 H1 (Ex.refl _)⟩
theorem ev_ixL {te ty : TE} {σ : L2.St} {H : Hp} {p : Addr} {i : Nat} {xs : List V} {v : V} (h : Ev te σ H (.ref p)) (hi : Ev ty σ H (.int (i : Nat))) (hp : SqL K H p xs) (hv : xs[i]? = some v) : Ev (tOp (rIxL K) te ty) σ H v :=
  ev_op h hi fun H1 e1 Q1 k1 => ⟨p, xs, _, _, rfl, rfl, ex_l e1 hp, (at_nat (List.getElem?_eq_some_iff.mp hv).1).trans hv, k1 H1 (Ex.refl _)⟩
theorem ev_lenT {ta : TE} {σ : L2.St} {H : Hp} {p : Addr} {xs : List V} (ha : Ev ta σ H (.ref p)) (h : SqT K H p xs) : Ev (tCB (rLenS K) (tCons ta tNil)) σ H (.int (xs.length : Int)) := fun H1 e Q q =>
  ha H1 e _ fun H2 e2 => ⟨p, xs, rfl, Or.inr (ex_t (e.trans e2) h), q H2 e2⟩
theorem rv_neI {H : Hp} {i j : Int} (h : i = j) : RV rNe (.int i) (.int j) H (.bl false) := fun H1 e Q k => ⟨rfl, by rw [decide_eq_true (congrArg V.int h)]; exact k H1 (Ex.refl _)⟩

def spPairs (K : PySem.W.Frag) (a : Adr) : Sp := fun vs H Q _ => ∃ p sd kvs, vs = [.ref p] ∧ BkAt a H p sd kvs ∧ kvs.length ≤ 1000 ∧ ∀ t ts H', Ex H H' → H' t = some (.tup (ts.map V.ref)) → Prs H' ts kvs → Q (.ref t) H'
theorem ok_Book_pairs (T : Txt P K mg a) : CallO P w K mg base 1 (.ref a.Book_pairs) (spPairs K a) := by
  refine fnO (T.d_Book_pairs.okX sc_Book_pairs (fun vs H Q E h => ?_) (fun cdv A outer s H vs Q E hr h => ?_))
  · obtain ⟨p, sd, kvs, rfl, _⟩ := h
    rfl
  · obtain ⟨p, sd, kvs, rfl, ⟨⟨dx, hp⟩, hsd⟩, hl, hq⟩ := h
    refine ⟨_, (pss_one (ps_ret (pe_callTy call_tuple_of (by rfl) T.b_tuple (by decide +kernel) (pa_cons (pe_lock (pe_lc (own := [("key", 1), ("value", 2)]) (g := (gTup K 2 (gCons (gName 1) (gCons (gName 2) gNil)))) (by rfl) sc_Book_pairs.nd (pi_items (pe_fld (pv 0) rfl)) (blkOk_by (own := [("key", 1), ("value", 2)]) (N := ["self", "key", "value"]) (sc := defScope s_Book_pairs) (by decide +kernel)) (fun _ _ _ _ _ => (pg_tup rfl (pgs_cons (pg_name (i := 1) sc_Book_pairs.nd rfl (Or.inl rfl)) (pgs_cons (pg_name (i := 2) sc_Book_pairs.nd rfl (Or.inl rfl)) pgs_nil)))) (fun _ _ _ _ _ => pts_nil) (fun _ _ _ _ _ => (pe_tup (pa_cons (pv 1) (pa_cons (pv 2) pa_nil)))))) pa_nil)))), ?_⟩
    have psd : p ≠ sd := ne_of hp hsd fun z => nomatch z
    refine ⟨sd, .dK kvs, hsd, trivial, fun od => ?_⟩
    refine ⟨_, rfl, p, a.Book, dx, _, _, rfl, (by rw [upd_ne psd]; exact hp), T.c_Book, T.n_Book_entries, rfl, sd, od, kvs, rfl, upd_same, fun Dl hDl => ?_⟩
    have nD : Dl ≠ sd := fun z => by rw [z, upd_same] at hDl; cases hDl
    -- what stands, the dict aside
    refine lc_it walk_items (fun i H' => Ex (upd H sd (.frz od (.dK kvs))) H' ∧ ∃ ts, H' Dl = some (.lst (ts.map V.ref)) ∧ Prs H' ts (kvs.take i) ∧ ∀ t ∈ ts, t ≠ Dl) ⟨Ex.new hDl, [], upd_same, .nil, fun t h => nomatch h⟩ (fun i H' _ h => h.1 _ _ upd_same) (fun i x H2 H3 hi ⟨e2, ts, hx, hts, hne⟩ y => ?_) (fun H' ⟨e', ts, hx, hts, hne⟩ => ?_)
    · obtain ⟨U, kx, vx, rfl, hU, rfl, hk, hv⟩ := y
      have hkv : kvs[i]? = some kvs[i] := List.getElem?_eq_getElem hi
      dsimp only at hk hv
      rw [hkv] at hk hv
      cases hk
      cases hv
      refine ⟨U, _, rfl, st_of upd_same, rfl, _, _, rfl, _, _, rfl, rfl, rfl, ?_⟩
      unfold tYes
      dsimp only
      rw [if_pos rfl]
      refine ⟨_, rfl, _, rfl, (by show 2 ≤ sizeLine; decide), fun t nt => ?_⟩
      have eU := Ex.new (o := .tup [kV kvs[i].1, kvs[i].2]) hU
      have et := Ex.new (o := .tup [kV kvs[i].1, kvs[i].2]) nt
      have hxU := (eU.trans et) _ _ hx
      have htD : t ≠ Dl := fun z => by rw [z] at nt; rw [eU _ _ hx] at nt; cases nt
      have hlen := hts.len
      rw [List.length_take] at hlen
      refine ⟨_, hxU, (by rw [List.length_map, sizeLine_eq]; omega), Ex.mut (e2.trans (eU.trans et)) hDl, ts ++ [t], ?_, ?_, fun t' ht' => ?_⟩
      · rw [List.map_append]
        exact upd_same
      · rw [List.take_add_one, hkv]
        refine Prs.snoc (by rw [upd_ne htD]; exact upd_same) (hts.keep fun t' ht' o ho => ?_)
        rw [upd_ne (hne t' ht')]
        exact (eU.trans et) _ _ ho
      · rcases List.mem_append.mp ht' with h | h
        · exact hne t' h
        · rw [List.mem_singleton.mp h]; exact htD
    · rw [List.take_length] at hts
      refine ⟨e' _ _ upd_same, Dl, ts.map V.ref, rfl, .inl ⟨sq_of (by rw [upd_ne nD]; exact hx), fun t nt => ?_⟩⟩
      have eA := ex_unlock hsd e'
      have et := Ex.new (o := .tup (ts.map V.ref)) nt
      refine hq t ts _ (eA.trans et) upd_same ?_
      have hP : Prs (upd H' sd (.dK kvs)) ts kvs := hts.keep fun t' ht' o ho => by
        have : t' ≠ sd := fun z => by
          obtain ⟨i, hi⟩ := List.mem_iff_getElem?.mp ht'
          have hlt := (List.getElem?_eq_some_iff.mp hi).1
          have hk := hts.len
          obtain ⟨t2, ht2, ho2⟩ := hts.get i kvs[i] (List.getElem?_eq_getElem (by omega))
          rw [hi] at ht2
          cases ht2
          rw [z, e' _ _ upd_same] at ho2
          cases ho2
        rw [upd_ne this]
        exact ho
      exact hP.ex et
theorem ok_enter (T : Txt P K mg a) : CallX P w K mg base 10 (.ref a.Book_enter) [] fun vs zs H Q E => zs = [] ∧ spEnter K a vs H Q E := (fnO (of_enter T)).x
theorem ok_enter_kw (T : Txt P K mg a) : CallX P w K mg base 10 (.ref a.Book_enter) ["value", "key"] fun vs zs H Q E => vs.length = 1 ∧ zs.length = 2 ∧ spEnter K a (vs ++ zs.reverse) H Q E := by
  obtain ⟨fd, F, _, F2⟩ := of_enter (P := P) (w := w) (base := base) (mg := mg) T
  refine callX_of F (n := 1) (g := fun us ws => us ++ ws.reverse) (gV := fun vs zs => vs ++ zs.reverse) ⟨fun s us ws X hu hw => ?_, fun r r2 => r.append (vals_rev r2)⟩
  obtain ⟨oc, od, kV, doc, pm, an, cdv, ct, osl, rfl, lk, hcd⟩ := F2.ex
  match us, ws, hu, hw with
  | [u], [v1, v2], _, _ => exact .of_eq rfl

end
end BJL

namespace BJL
open PySem PySem.Spec PyProof.Rows L2 BJ
section
variable {P : Program} {w : World} {K : PySem.W.Frag} {mg : Str → Option Value} {base : Heap} {a : Adr}
open Evl
/-- it can be told whether y is a pair -/
def PairT (K : PySem.W.Frag) (H : Hp) (y : V) (b : Bool) : Prop := (∃ n, TyX K H y (.type n) ∧ kitB n "tuple" = some false ∧ b = false) ∨ (∃ t ys, y = .ref t ∧ SqT K H t ys ∧ b = decide (ys.length = 2))
/-- keys that differ, and values -/
structure EnOk (K : PySem.W.Frag) (a : Adr) (H : Hp) (kvs : List (Key × V)) : Prop where
  nd : (kvs.map (·.1)).Nodup
  key : ∀ kv ∈ kvs, (∃ b, Kn K a H (kV kv.1) b) ∧ Fits (kV kv.1) ∧ keyV (kV kv.1) = true
  val : ∀ kv ∈ kvs, GoodV K a H kv.2
/-- enter(u, v) raises -/
def entBad (K : PySem.W.Frag) (a : Adr) (kvs : List (Key × V)) (u v : V) (H : Hp) (E : XK) : Prop := ∃ b, Kn K a H u b ∧ Fits u ∧ ((keyV u = false ∧ Bad a.InvalidKey "key" u H E) ∨ ∃ k, u = kV k ∧ keyV u = true ∧
  (((∃ y, valV kvs k = some y) ∧ Bad a.KeyTaken "key" u H E) ∨ (valV kvs k = none ∧ BadV K a H v ∧ Bad a.InvalidValue "value" v H E)))
def spBOf (K : PySem.W.Frag) (a : Adr) : Sp := fun vs H Q E => ∃ x, vs = [.ref a.Book, x] ∧
  ((∃ n, TyX K H x (.type n) ∧ kitB n "tuple" = some false ∧ Bad a.InvalidValue "value" x H E) ∨
   (∃ t xs, x = .ref t ∧ SqT K H t xs ∧ xs.length ≤ 100 ∧
    ((∃ bs : V → Bool, (∀ y ∈ xs, PairT K H y (bs y)) ∧ xs.all bs = false ∧ Bad a.InvalidValue "value" x H E) ∨
     (∃ rts rest kvs, xs = (rts ++ rest).map V.ref ∧ Prs H rts kvs ∧ EnOk K a H kvs ∧ (∀ t ∈ rest, ∃ u v, H t = some (.tup [u, v])) ∧
        ((rest = [] ∧ ∀ p sd H', H p = none → H sd = none → Ex H H' → BkAt a H' p sd kvs → Q (.ref p) H') ∨
         ∃ t0 more u v, rest = t0 :: more ∧ H t0 = some (.tup [u, v]) ∧ entBad K a kvs u v H E)))))
theorem take_put {kvs : List (Key × V)} (nd : (kvs.map (·.1)).Nodup) {i : Nat} (hi : i < kvs.length) : valV (kvs.take i) kvs[i].1 = none ∧ putK (kvs.take i) kvs[i].1 kvs[i].2 = kvs.take (i + 1) := by
  have h1 : valV (kvs.take i) kvs[i].1 = none := by
    cases h : valV (kvs.take i) kvs[i].1 with
    | none => rfl
    | some v =>
      exfalso
      have hm := valV_in h
      obtain ⟨j, hj⟩ := List.mem_iff_getElem?.mp hm
      have hjl := (List.getElem?_eq_some_iff.mp hj).1
      rw [List.length_map, List.length_take] at hjl
      rw [List.getElem?_map, List.getElem?_take_of_lt (by omega)] at hj
      have hji : (kvs.map (·.1))[j]? = (kvs.map (·.1))[i]? := by
        rw [List.getElem?_map, List.getElem?_map, hj, List.getElem?_eq_getElem hi]
        rfl
      have := (List.getElem?_inj (by rw [List.length_map]; omega) nd).mp hji
      omega
  refine ⟨h1, ?_⟩
  rw [putK_new _ h1, List.take_add_one, List.getElem?_eq_getElem hi]
  rfl
theorem prs_tup {H : Hp} {ts : List Addr} {kvs : List (Key × V)} : Prs H ts kvs → ∀ t ∈ ts, ∃ u v, H t = some (.tup [u, v]) := by
  intro h t ht
  obtain ⟨i, hi⟩ := List.mem_iff_getElem?.mp ht
  have hl := Prs.len h
  have hlt := (List.getElem?_eq_some_iff.mp hi).1
  obtain ⟨t2, h2, h3⟩ := Prs.get h i _ (List.getElem?_eq_getElem (by omega))
  rw [hi] at h2
  cases h2
  exact ⟨_, _, h3⟩
theorem entBad.back {kvs : List (Key × V)} {u v : V} {H H' : Hp} {E : XK} (h : entBad K a kvs u v H E) (e : Ex H H') : entBad K a kvs u v H' E := by
  obtain ⟨b, kn, hz, h⟩ := h
  refine ⟨b, kn.ex e, hz, ?_⟩
  rcases h with ⟨h1, h2⟩ | ⟨k, h1, h2, ⟨h3, h4⟩ | ⟨h3, h4, h5⟩⟩
  · exact .inl ⟨h1, h2.back e⟩
  · exact .inr ⟨k, h1, h2, .inl ⟨h3, h4.back e⟩⟩
  · exact .inr ⟨k, h1, h2, .inr ⟨h3, h4.ex e, h5.back e⟩⟩
theorem of_Book_of (T : Txt P K mg a) : ∃ fd, FnOk P w K mg base (L2.CX P w) 14 a.Book_of fd ["cls", "pairs"] (spBOf K a) ∧ Binds K fd ["cls", "pairs"] [] ∧ Fun K "of" "Book.of" s_Book_of a.Book_of fd := by
  refine T.d_Book_of.okX sc_Book_of (fun vs H Q E h => ?_) (fun cdv A outer s H vs Q E hr h => ?_)
  · obtain ⟨x, rfl, _⟩ := h
    rfl
  · obtain ⟨x, rfl, h⟩ := h
    refine ⟨_, (pss_cons (ps_if (PW.pt (pw_or (pt_not (pt_val (pe_callB (call_isG' (K := K) rfl) (by rfl) T.b_isinstance (by decide +kernel) (pa_cons (pv 1) (pa_cons (pe_bltn (v := .ty "tuple") (u := .type "tuple") (by rfl) T.b_tuple (by decide +kernel) (by exact rfl)) pa_nil))))) (pw_or1 (pt_not (pt_val (pe_callB (cr_all rfl) (by rfl) T.b_all (by decide +kernel) (pa_cons (pe_lc (own := [("pair", 2)]) (g := (gName 2)) (by rfl) sc_Book_of.nd (pi_tup (pv 1)) (blkOk_by (own := [("pair", 2)]) (N := ["cls", "pairs", "pair", "book", "key", "value"]) (sc := defScope s_Book_of) (by decide +kernel)) (fun _ _ _ _ _ => (pg_name (i := 2) sc_Book_of.nd rfl (Or.inl rfl))) (fun _ _ _ _ _ => pts_nil) (fun _ _ _ _ _ => (pe_and (pe_callB (call_isG' (K := K) rfl) (by rfl) T.b_isinstance (by decide +kernel) (pa_cons (pv 2) (pa_cons (pe_bltn (v := .ty "tuple") (u := .type "tuple") (by rfl) T.b_tuple (by decide +kernel) (by exact rfl)) pa_nil))) (pe_one (pe_cmpR op_eq (pe_callB (call_len_seq' (K := K) rfl) (by rfl) T.b_len (by decide +kernel) (pa_cons (pv 2) pa_nil)) pe_int (nomark _)))))) pa_nil)))))))
 (pss_one (ps_raiseErr rfl T.e_InvalidValue T.i_InvalidValue T.k_InvalidValue T.x_InvalidValue T.t_InvalidValue hr (takes_of rfl rfl rfl rfl) (pa_cons (pv 1) pa_nil) (by rfl)))
 pss_nil)
 (pss_cons (ps_set (i := 3) sc_Book_of.nd rfl (Or.inl rfl) (pe_v0 (i := 0) rfl (Or.inl rfl) (takes_of rfl rfl rfl rfl)))
 (pss_cons (ps_for (passes_of rfl) rfl (pi_tup (pv 1)) (pg_tup rfl (pgs_cons (pg_name (i := 4) sc_Book_of.nd rfl (Or.inl rfl)) (pgs_cons (pg_name (i := 5) sc_Book_of.nd rfl (Or.inl rfl)) pgs_nil)))
 (pss_one (ps_expr (pe_me (pv 3) (takes_of rfl rfl rfl rfl) (pa_cons (pv 4) (pa_cons (pv 5) pa_nil)) pk_nil))))
 (pss_one (ps_ret (pv 3)))))), ?_⟩
    rcases h with ⟨n, ty, ht, hB⟩ | ⟨t, xs, rfl, hs, hl, h⟩
    · have t1 : EvT (tNot (tB (tCB (rIsG K) (tCons (tVar 1) (tCons (tC (.ty "tuple")) tNil))))) (L2.start ["cls", "pairs", "pair", "book", "key", "value"] [.ref a.Book, x]) H (!false) :=
        et_not (et_B (ev_cb (ea_cons (ev_var rfl) (ea_cons ev_c ea_nil)) (rc_is ty (n := "tuple") (kit_ty ht))))
      exact q_when (b := !false || false) (et_or t1 fun z => nomatch z) (fun _ H1 e => ⟨_, rfl, rfl, fun d hd => hB d _ (fresh_back e hd) (e.trans (Ex.new hd)) upd_same⟩) fun z => nomatch z
    · have t1 : EvT (tNot (tB (tCB (rIsG K) (tCons (tVar 1) (tCons (tC (.ty "tuple")) tNil))))) (L2.start ["cls", "pairs", "pair", "book", "key", "value"] [.ref a.Book, .ref t]) H (!true) :=
        et_not (et_B (ev_cb (ea_cons (ev_var rfl) (ea_cons ev_c ea_nil)) (rc_is (ty_tup hs) (n := "tuple") (kit_ty (by decide +kernel)))))
      have tests : ∀ bs : V → Bool, (∀ y ∈ xs, PairT K H y (bs y)) → EvL (tLc (iTup K (tVar 1)) (gName 2) tYes (tAndV (tCB (rIsG K) (tCons (tVar 2) (tCons (tC (.ty "tuple")) tNil))) (tOp rEq (tCB (rLenS K) (tCons (tVar 2) tNil)) (tC (.int 2)))) [2]) (L2.start ["cls", "pairs", "pair", "book", "key", "value"] [.ref a.Book, .ref t]) H ((xs.map bs).map V.bl) := fun bs hb => by
        rw [List.map_map]
        refine el_all (ei_tup (ev_var rfl) hs) (fun y => V.bl (bs y)) (by omega) (fun _ => rfl) fun y hy H1 e1 => ?_
        rcases hb y hy with ⟨n, ty, ht, hf⟩ | ⟨u, ys, rfl, hu, hf⟩
        · rw [hf]
          exact ev_andV (a := false) (b := false) (ev_cb (ea_cons (ev_var rfl) (ea_cons ev_c ea_nil)) (rc_is (tyx_ex' e1 ty) (n := "tuple") (kit_ty ht))) fun z => nomatch z
        · rw [hf]
          refine ev_is (ev_andV (a := true) (b := decide (V.int (ys.length : Nat) = V.int 2)) (ev_cb (ea_cons (ev_var rfl) (ea_cons ev_c ea_nil)) (rc_is (ty_tup (ex_t e1 hu)) (n := "tuple") (kit_ty (by decide +kernel)))) fun _ => ev_op (ev_lenT (ev_var rfl) (ex_t e1 hu)) ev_c (rv_eq rfl)) (congrArg V.bl ?_)
          rw [Bool.true_and]
          by_cases h2 : ys.length = 2
          · rw [h2]; rfl
          · rw [decide_eq_false h2, decide_eq_false]; intro q; injection q with q; omega
      rcases h with ⟨bs, hb, hall, hB⟩ | ⟨rts, rest, kvs, rfl, hP, ok, hrest, hend⟩
      · have t2 := et_not (et_B (ev_allL (K := K) (tests bs hb)))
        rw [show (xs.map bs).all id = false by rw [List.all_map]; exact hall] at t2
        exact q_when (b := !true || !false) (et_or t1 fun _ => t2) (fun _ H1 e => ⟨_, rfl, rfl, fun d hd => hB d _ (fresh_back e hd) (e.trans (Ex.new hd)) upd_same⟩) fun z => nomatch z
      · have hpair : ∀ t1 ∈ rts ++ rest, ∃ u v, H t1 = some (.tup [u, v]) := fun t1 h1 => by
          rcases List.mem_append.mp h1 with h | h
          · exact prs_tup hP t1 h
          · exact hrest t1 h
        have t2 := et_not (et_B (ev_allL (K := K) (tests (fun _ => true) fun y hy => by
          obtain ⟨t1, h1, rfl⟩ := List.mem_map.mp hy
          obtain ⟨u, v, h2⟩ := hpair t1 h1
          exact .inr ⟨t1, [u, v], rfl, st_of h2, rfl⟩)))
        rw [show (((rts ++ rest).map V.ref).map (fun _ => true)).all id = true by rw [List.all_eq_true]; intro b hb; obtain ⟨_, _, rfl⟩ := List.mem_map.mp hb; rfl] at t2
        refine q_when (b := !true || !true) (et_or t1 fun _ => t2) (fun z => nomatch z) fun _ H1 e1 => ?_
        refine ⟨a.Book, 12, _, rfl, T.k_Book, (ok_Book T).o.mono (by decide), hr.mono (by decide), rfl, rfl, fun p sd H2 np nsd e2 bk => ?_⟩
        have e02 := e1.trans e2
        have nsd0 := fresh_back e1 nsd
        have hlen : rts.length = kvs.length := Prs.len hP
        rw [List.length_map, List.length_append] at hl
        refine q_forT (K := K) (a := t) (xs := (rts ++ rest).map V.ref) (ev_var rfl) (ex_t e02 hs) (fun i σ' H' => (∃ o2 o4 o5, σ' = [some (.ref a.Book), some (.ref t), o2, some (.ref p), o4, o5]) ∧ Ex H H' ∧ BkAt a H' p sd (kvs.take i) ∧ i ≤ kvs.length) (fun H3 e3 => ⟨⟨_, _, _, rfl⟩, e02.trans e3, bk.ex e3, Nat.zero_le _⟩) (fun i σ' H' _ ⟨_, e, _⟩ => ex_t e hs) ?_ ?_
        · rintro i x σ' H' hx ⟨⟨o2, o4, o5, rfl⟩, e3, bk3, hi⟩
          rw [List.getElem?_map] at hx
          obtain ⟨t1, ht1, rfl⟩ := Option.map_eq_some_iff.mp hx
          obtain ⟨dx, hp3⟩ := id bk3.at_
          have nolk : ([("entries", V.ref sd)] : List (Str × V)).lookup ("enter" : Str) = none := rfl
          rcases Nat.lt_or_ge i kvs.length with hlt | hge
          · have hkv : kvs[i]? = some kvs[i] := List.getElem?_eq_getElem hlt
            rw [List.getElem?_append_left (by omega)] at ht1
            obtain ⟨t2, h2, h3⟩ := Prs.get hP i _ hkv
            rw [ht1] at h2
            cases h2
            obtain ⟨⟨b, kn⟩, hz, hk⟩ := ok.key _ (List.getElem_mem hlt)
            have hv := ok.val _ (List.getElem_mem hlt)
            obtain ⟨n1, n2⟩ := take_put ok.nd hlt
            refine ⟨t1, _, rfl, st_of (e3 _ _ h3), rfl, _, _, rfl, _, _, rfl, rfl, ?_⟩
            refine ⟨_, rfl, p, a.Book, dx, a.Book_enter, _, 10, _, rfl, hp3, nolk, T.c_Book, T.p_Book_enter, ok_enter T, hr.mono (by decide), _, rfl, _, rfl, rfl, p, sd, kvs.take i, _, _, b, rfl, bk3, (by rw [List.length_take]; omega), kn.ex e3, hz, .inr ⟨kvs[i].1, rfl, hk, .inr ⟨n1, .inr ⟨hv.ex e3, ?_⟩⟩⟩⟩
            rw [n2]
            have psd : p ≠ sd := ne_of hp3 bk3.dict fun z => nomatch z
            exact ⟨⟨_, _, _, rfl⟩, Ex.mut e3 nsd0, ⟨⟨dx, by rw [upd_ne psd]; exact hp3⟩, upd_same⟩, hlt⟩
          · have hieq : i = kvs.length := by omega
            rw [List.getElem?_append_right (by omega), show i - rts.length = 0 by omega] at ht1
            rcases hend with ⟨rfl, _⟩ | ⟨t0, more, u, v, rfl, h0, hbad⟩
            · cases ht1
            · cases ht1
              obtain ⟨b, kn, hz, hbad⟩ := hbad.back e3
              rw [hieq, List.take_length] at bk3
              refine ⟨_, _, rfl, st_of (e3 _ _ h0), rfl, _, _, rfl, _, _, rfl, rfl, ?_⟩
              refine ⟨_, rfl, p, a.Book, dx, a.Book_enter, _, 10, _, rfl, hp3, nolk, T.c_Book, T.p_Book_enter, ok_enter T, hr.mono (by decide), _, rfl, _, rfl, rfl, p, sd, kvs, u, v, b, rfl, bk3, by omega, kn, hz, ?_⟩
              rcases hbad with h | ⟨k, h1, h2, h | ⟨h3, h4, h5⟩⟩
              · exact .inl h
              · exact .inr ⟨k, h1, h2, .inl h⟩
              · exact .inr ⟨k, h1, h2, .inr ⟨h3, .inl ⟨h4, h5⟩⟩⟩
        · rintro σ' H' ⟨⟨o2, o4, o5, rfl⟩, e3, bk3, hi⟩
          rw [List.length_map, List.length_append] at hi bk3
          rcases hend with ⟨rfl, hq⟩ | ⟨t0, more, u, v, rfl, _⟩
          · rw [List.length_nil, Nat.add_zero, hlen, List.take_length] at bk3
            exact ⟨_, rfl, hq p sd H' (fresh_back e1 np) nsd0 e3 bk3⟩
          · rw [List.length_cons] at hi
            omega
theorem ok_Book_of (T : Txt P K mg a) : CallX P w K mg base 14 (.ref a.Book_of) [] fun vs zs H Q E => zs = [] ∧ spBOf K a vs H Q E := (fnO (of_Book_of T)).x
theorem ok_Book_of_pairs (T : Txt P K mg a) : CallX P w K mg base 14 (.ref a.Book_of) ["pairs"] fun vs zs H Q E => vs.length = 1 ∧ zs.length = 1 ∧ spBOf K a (vs ++ zs) H Q E := by
  obtain ⟨fd, F, _, F2⟩ := of_Book_of (P := P) (w := w) (base := base) (mg := mg) T
  refine callX_of F (n := 1) (g := fun us ws => us ++ ws) (gV := fun vs zs => vs ++ zs) ⟨fun s us ws X hu hw => ?_, fun r r2 => r.append r2⟩
  obtain ⟨oc, od, kV, doc, pm, an, cdv, ct, osl, rfl, lk, hcd⟩ := F2.ex
  match us, ws, hu, hw with
  | [u], [v], _, _ => exact .of_eq rfl

end
end BJL

namespace BJL
open PySem PySem.Spec PyProof.Rows L2 BJ
section
variable {P : Program} {w : World} {K : PySem.W.Frag} {mg : Str → Option Value} {base : Heap} {a : Adr}
open Evl
def spLabels (K : PySem.W.Frag) (a : Adr) : Sp := fun vs H Q _ => ∃ (t : Addr) (zs : List Str), vs = [.ref t] ∧ SqT K H t (zs.map V.str) ∧ zs.Nodup ∧ zs.length ≤ 20 ∧ (∀ z ∈ zs, keyS (.str z) = true) ∧ ∀ H', Ex H H' → Q .non H'
theorem key_fits {z : Str} (h : keyS (.str z) = true) : Fits (.str z) := fun y hy => by
  cases hy
  have : (z.length : Int) ≤ 2000 := of_decide_eq_true h
  rw [sizeLine_eq]
  omega
theorem ok_check_labels (T : Txt P K mg a) : CallO P w K mg base 9 (.ref a.check_labels) (spLabels K a) := by
  have G_is_text : CallO P w K mg base 2 (.ref a.is_text) (spBV K a fun x _ => keyS x) := ok_is_text T
  refine fnO (T.d_check_labels.okX sc_check_labels (fun vs H Q E h => ?_) (fun cdv A outer s H vs Q E hr h => ?_))
  · obtain ⟨t, zs, rfl, _⟩ := h
    rfl
  · obtain ⟨t, zs, rfl, hs, nd, hl, hk, hq⟩ := h
    have hu := hu_of hr
    refine ⟨_, (pss_cons (ps_set (i := 1) sc_check_labels.nd rfl (Or.inl rfl) pe_dnewK)
 (pss_one (ps_for (passes_of rfl) rfl (pi_tup (pv 0)) (pg_name (i := 2) sc_check_labels.nd rfl (Or.inl rfl))
 (pss_cons (ps_if (PW.pt (pw_or (pt_not (pt_val (pe_co G_is_text (hr.mono (by decide)) rfl T.g_is_text T.k_is_text (takes_of rfl rfl rfl rfl) (pa_cons (pv 2) pa_nil)))) (pw_or1 (pt_cmp (pc_din hu (pv 2) (pv 1))))))
 (pss_one (ps_raiseErr rfl T.e_InvalidKey T.i_InvalidKey T.k_InvalidKey T.x_InvalidKey T.t_InvalidKey hr (takes_of rfl rfl rfl rfl) (pa_cons (pv 2) pa_nil) (by rfl)))
 pss_nil)
 (pss_one (ps_dput hu (pv 1) (pv 2) pe_bl rfl)))))), ?_⟩
    intro kd nkd
    have e1 := Ex.new (o := .dK []) nkd
    refine s_forT (K := K) (a := t) (xs := zs.map V.str) (ev_var rfl) (ex_t e1 hs) (fun i σ' H' => (∃ o2, σ' = [some (.ref t), some (.ref kd), o2]) ∧ Ex H H' ∧ ∃ kvs, H' kd = some (.dK kvs) ∧ kvs.map (·.1) = (zs.take i).map Sum.inr) (fun H1 e => ⟨⟨_, rfl⟩, e1.trans e, [], e _ _ upd_same, rfl⟩) (fun i σ' H' _ ⟨_, e, _⟩ => ex_t e hs) ?_ ?_
    · rintro i x σ' H' hx ⟨⟨o2, rfl⟩, e, kvs, hkd, hkeys⟩
      rw [List.getElem?_map] at hx
      obtain ⟨z, hz, rfl⟩ := Option.map_eq_some_iff.mp hx
      have hmem := List.mem_of_getElem? hz
      have hil := (List.getElem?_eq_some_iff.mp hz).1
      have hks := hk z hmem
      have hnone : valV kvs (.inr z) = none := by
        cases hv : valV kvs (.inr z) with
        | none => rfl
        | some v =>
          exfalso
          have hm := valV_in hv
          rw [hkeys] at hm
          obtain ⟨y, hy, hyz⟩ := List.mem_map.mp hm
          cases hyz
          obtain ⟨j, hj⟩ := List.mem_iff_getElem?.mp hy
          have hjl := (List.getElem?_eq_some_iff.mp hj).1
          rw [List.length_take] at hjl
          rw [List.getElem?_take_of_lt (by omega)] at hj
          have := (List.getElem?_inj (by omega) nd).mp (hj.trans hz.symm)
          omega
      refine ⟨_, rfl, .str z, false, rfl, kn_dz T (.str z), key_fits hks, ?_⟩
      dsimp only
      rw [hks]
      refine ⟨_, rfl, iteF ⟨_, rfl, _, rfl, kd, _, rfl, DGet.k (k := .inr z) hkd, ?_⟩⟩
      rw [hnone]
      have hkl : kvs.length = i := by have := congrArg List.length hkeys; rw [List.length_map, List.length_map, List.length_take] at this; omega
      refine ⟨_, rfl, iteF ⟨_, rfl, _, rfl, kd, _, rfl, DPut.k (k := .inr z) hkd (small1000 (by omega)), ?_⟩⟩
      refine ⟨⟨_, rfl⟩, Ex.mut e nkd, kvs ++ [(.inr z, .bl true)], by rw [upd_same, putK_new _ hnone], ?_⟩
      rw [List.map_append, hkeys, List.take_add_one, hz, List.map_append]
      rfl
    · rintro σ' H' ⟨_, e, _⟩
      exact hq H' e

end
end BJL

namespace BJL
open PySem PySem.Spec PyProof.Rows L2 BJ
section
variable {P : Program} {w : World} {K : PySem.W.Frag} {mg : Str → Option Value} {base : Heap} {a : Adr}
open Evl
def spSgI (a : Adr) : Sp := fun vs H Q E => ∃ p dx q dq fs, vs = [.ref p, .ref q] ∧ H p = some (.ins a.Single dx []) ∧ H q = some (.ins a.Thing dq fs) ∧ ∀ H', ExB p H H' → H' p = some (.ins a.Single dx [("only_thing", .ref q)]) → Q .non H'
theorem of_Single_init (T : Txt P K mg a) : ∃ fd, FnOk P w K mg base (L2.CX P w) 2 a.Single___init__ fd ["self", "thing"] (spSgI a) ∧ Binds K fd ["self", "thing"] [] ∧ Fun K "__init__" "Single.__init__" s_Single___init__ a.Single___init__ fd := by
  refine T.d_Single___init__.okX sc_Single___init__ (fun vs H Q E h => ?_) (fun cdv A outer s H vs Q E hr h => ?_)
  · obtain ⟨p, dx, q, dq, fs, rfl, _⟩ := h
    rfl
  · obtain ⟨p, dx, q, dq, fs, rfl, hp, hqq, hq⟩ := h
    refine ⟨_, (pss_cons (ps_if (pt_not (pt_val (pe_callB (call_isG' (K := K) rfl) (by rfl) T.b_isinstance (by decide +kernel) (pa_cons (pv 1) (pa_cons (pe_glob (v := .ref a.Thing) (by rfl) T.g_Thing rfl) pa_nil)))))
 (pss_one (ps_raiseErr rfl T.e_InvalidValue T.i_InvalidValue T.k_InvalidValue T.x_InvalidValue T.t_InvalidValue hr (takes_of rfl rfl rfl rfl) (pa_cons (pv 1) pa_nil) (by rfl)))
 pss_nil)
 (pss_one (ps_fld (pv 0) (pv 1) rfl))), ?_⟩
    have t1 : EvT (tNot (tB (tCB (rIsG K) (tCons (tVar 1) (tCons (tC (.ref a.Thing)) tNil))))) (L2.start ["self", "thing"] [.ref p, .ref q]) H (!true) :=
      et_not (et_B (ev_cb (ea_cons (ev_var rfl) (ea_cons ev_c ea_nil)) (rc_isN (ty_node T hqq (by unfold NodeC; simp)) T.w_Thing_Thing)))
    refine q_when t1 (fun z => nomatch z) fun _ H1 e1 => ?_
    refine ⟨_, rfl, _, rfl, p, a.Single, dx, [], rfl, e1 _ _ hp, T.c_Single, T.n_Single_only_thing, (by decide), ?_⟩
    exact hq _ (fun b o hb hbp => by rw [upd_ne hbp]; exact e1 _ _ hb) upd_same
theorem ok_Single (T : Txt P K mg a) : CallX P w K mg base 3 (.ref a.Single) [] fun vs zs H Q E => ∃ q dq fs, vs = [.ref q] ∧ zs = [] ∧ H q = some (.ins a.Thing dq fs) ∧ ∀ p dx H', H p = none → Ex H H' → H' p = some (.ins a.Single dx [("only_thing", .ref q)]) → Q (.ref p) H' := by
  refine (CallX.make T.m_Single (fnO (of_Single_init T)).x).imp ?_
  rintro vs zs H Q E ⟨q, dq, fs, rfl, rfl, hqq, hq⟩ p dx hp hd ne hs
  have e1 : Ex H (upd (upd H dx (.own p)) p (.ins a.Single dx [])) := (Ex.new hd).trans (Ex.new (by rw [upd_ne ne.symm]; exact hp))
  refine ⟨rfl, p, dx, q, dq, fs, rfl, upd_same, e1 _ _ hqq, fun H' he hp' => ⟨rfl, hq p dx H' hp (fun b o hb => he b o (e1 b o hb) fun z => ?_) hp'⟩⟩
  rw [z, hp] at hb
  cases hb
/-- the hooks' calls -/
theorem co_Single (T : Txt P K mg a) : StX.CallO K a.Single a.Single___call__ := ⟨T.ca_Single, T.cf_Single, T.ci_Single⟩
def spSgC (a : Adr) : Sp := fun vs H Q _ => ∃ p dx x q, vs = [.ref p, x] ∧ H p = some (.ins a.Single dx [("only_thing", .ref q)]) ∧ Q (.ref q) H
theorem of_Single_call (T : Txt P K mg a) : ∃ fd, FnOk P w K mg base (L2.CX P w) 1 a.Single___call__ fd ["self", "arguments"] (spSgC a) ∧ Binds K fd ["self", "arguments"] [] ∧ Fun K "__call__" "Single.__call__" s_Single___call__ a.Single___call__ fd := by
  refine T.d_Single___call__.okX sc_Single___call__ (fun vs H Q E h => ?_) (fun cdv A outer s H vs Q E hr h => ?_)
  · obtain ⟨p, dx, x, q, rfl, _⟩ := h
    rfl
  · obtain ⟨p, dx, x, q, rfl, hp, hq⟩ := h
    exact ⟨_, (pss_one (ps_ret (pe_fld (pv 0) rfl))), _, rfl, p, a.Single, dx, _, _, rfl, hp, T.c_Single, T.n_Single_only_thing, rfl, hq⟩

end
end BJL

namespace BJL
open PySem PySem.Spec PyProof.Rows L2 BJ
section
variable {P : Program} {w : World} {K : PySem.W.Frag} {mg : Str → Option Value} {base : Heap} {a : Adr}
open Evl
/-- the fields, in the heap behind -/
theorem pr_fields {X : Cx} {te : TE} {σ : L2.St} {H : Hp} {p sd : Addr} {x : V} {kvs : List (Key × V)} (T : Txt P K mg a) (h1 : X.prog = P) (h2 : X.w = w) (h3 : X.K = K) (h4 : X.mg = mg) (h5 : X.base = base) (hr : Room 2 X.A) (he : Ev te σ H (.ref p)) (hs : ThAt a H p x sd kvs) (hl : kvs.length ≤ 1000)
    {Q : VK} (k : ∀ t ts H', Ex H H' → H' t = some (.tup (ts.map V.ref)) → Prs H' ts kvs → Q (.ref t) H') : tPr X "fields" te σ H Q := by
  subst h1 h2 h3 h4 h5
  exact he H (Ex.refl _) _ fun H2 e2 => by
    obtain ⟨dx, hp⟩ := (hs.ex e2).at_
    exact ⟨p, a.Thing, dx, _, _, _, 1, _, rfl, hp, T.c_Thing, T.p_Thing_fields, ok_Thing_fields T, hr, p, x, sd, kvs, rfl, hs.ex e2, hl, fun t ts H' e ht hP => k t ts H' (e2.trans e) ht hP⟩
theorem co_Whole (T : Txt P K mg a) : StX.CallO K a.Whole a.Whole___call__ := ⟨T.ca_Whole, T.cf_Whole, T.ci_Whole⟩
theorem ok_Whole (T : Txt P K mg a) : CallX P w K mg base 1 (.ref a.Whole) [] fun vs zs H Q E => vs = [] ∧ zs = [] ∧ ∀ x dx, H x = none → H dx = none → dx ≠ x → Q (.ref x) (upd (upd H dx (.own x)) x (.ins a.Whole dx [])) := CallX.make0 ⟨T.m0_Whole, T.i0_Whole⟩
theorem ok_Refill (T : Txt P K mg a) : CallX P w K mg base 1 (.ref a.Refill) [] fun vs zs H Q E => vs = [] ∧ zs = [] ∧ ∀ x dx, H x = none → H dx = none → dx ≠ x → Q (.ref x) (upd (upd H dx (.own x)) x (.ins a.Refill dx [])) := CallX.make0 ⟨T.m0_Refill, T.i0_Refill⟩
def spWhC (K : PySem.W.Frag) (a : Adr) : Sp := fun vs H Q _ => ∃ y q x sd kvs, vs = [y, .ref q] ∧ ThAt a H q x sd kvs ∧ EnOk K a H kvs ∧ kvs.length ≤ 100 ∧
  ∀ t t0 b sb H', H b = none → H sb = none → Ex H H' → BkAt a H' b sb kvs → H' t0 = some (.tup []) → H' t = some (.tup [.ref t0, .ref b]) → Q (.ref t) H'
theorem EnOk.ex {H H' : Hp} {kvs : List (Key × V)} (h : EnOk K a H kvs) (e : Ex H H') : EnOk K a H' kvs := ⟨h.nd, fun kv hk => by
  obtain ⟨⟨b, h1⟩, h2⟩ := h.key kv hk
  exact ⟨⟨b, h1.ex e⟩, h2⟩, fun kv hk => (h.val kv hk).ex e⟩
theorem of_Whole_call (T : Txt P K mg a) : ∃ fd, FnOk P w K mg base (L2.CX P w) 16 a.Whole___call__ fd ["self", "thing"] (spWhC K a) ∧ Binds K fd ["self", "thing"] [] ∧ Fun K "__call__" "Whole.__call__" s_Whole___call__ a.Whole___call__ fd := by
  have G_Book_of := ok_Book_of (P := P) (w := w) (base := base) (mg := mg) T
  refine T.d_Whole___call__.okX sc_Whole___call__ (fun vs H Q E h => ?_) (fun cdv A outer s H vs Q E hr h => ?_)
  · obtain ⟨y, q, x, sd, kvs, rfl, _⟩ := h
    rfl
  · obtain ⟨y, q, x, sd, kvs, rfl, th, en, hl, hq⟩ := h
    refine ⟨_, (pss_one (ps_ret (pe_tup (pa_cons (pe_tup pa_nil) (pa_cons (pe_cm (pe_glob (v := .ref a.Book) (by rfl) T.g_Book rfl) T.r_Book T.p_Book_of G_Book_of (hr.mono (by decide)) (takes_of rfl rfl rfl rfl) (pa_cons (pe_pr (pv 1)) pa_nil) pk_nil) pa_nil))))), ?_⟩
    refine ⟨Nat.zero_le _, fun t0 n0 => ⟨rfl, ?_⟩⟩
    have e0 := Ex.new (o := .tup []) n0
    have h0 := laid n0 (.tup [])
    generalize upd H t0 _ = H1 at e0 h0 ⊢
    refine pr_fields T rfl rfl rfl rfl rfl (hr.mono (by decide)) (ev_var rfl) (th.ex e0) (by omega) fun t ts H2 e2 ht hP => ?_
    have htl : ts.length = kvs.length := Prs.len hP
    have e02 := e0.trans e2
    refine ⟨rfl, _, rfl, .inr ⟨t, _, rfl, st_of ht, (by rw [List.length_map]; omega), .inr ⟨ts, [], kvs, (by rw [List.append_nil]), hP, en.ex e02, (fun t h => nomatch h), .inl ⟨rfl, fun b sb H3 nb nsb e3 bk => ?_⟩⟩⟩⟩
    refine ⟨(by show 2 ≤ sizeLine; decide), fun u nu => ?_⟩
    have eu := Ex.new (o := .tup [.ref t0, .ref b]) nu
    exact hq u t0 b sb _ (fresh_back e02 nb) (fresh_back e02 nsb) ((e02.trans e3).trans eu) (bk.ex eu) ((e2.trans (e3.trans eu)) _ _ h0) upd_same

end
end BJL

namespace BJL
open PySem PySem.Spec PyProof.Rows L2 BJ
section
variable {P : Program} {w : World} {K : PySem.W.Frag} {mg : Str → Option Value} {base : Heap} {a : Adr}
open Evl
theorem ok_set_field (T : Txt P K mg a) : CallX P w K mg base 10 (.ref a.Thing_set_field) [] fun vs zs H Q E => zs = [] ∧ spSet K a vs H Q E := (fnO (of_set_field T)).x
/-- instances stand -/
theorem NodeAt.but {L : List Addr} {H H' : Hp} {x : V} (h : NodeAt a H x) (b : ButL L H H') (hL : ∀ q ∈ L, ∀ C dx fs, H q ≠ some (.ins C dx fs)) : NodeAt a H' x := by
  obtain ⟨p, C, dx, fs, h1, h2, h3⟩ := h
  exact ⟨p, C, dx, fs, h1, b p _ (fun hm => hL p hm _ _ _ h2) h2, h3⟩
theorem ValAt.but {L : List Addr} {H H' : Hp} {x : V} (h : ValAt K a H x) (b : ButL L H H') (hL : ∀ q ∈ L, ∀ C dx fs, H q ≠ some (.ins C dx fs)) : ValAt K a H' x := h.imp id fun n => n.but b hL
theorem no_ins {d : Addr} {H : Hp} {kvs : List (Key × V)} (hd : H d = some (.dK kvs)) : ∀ q ∈ [d], ∀ C dx fs, H q ≠ some (.ins C dx fs) := fun q hq C dx fs z => by
  rw [List.mem_singleton.mp hq, hd] at z
  cases z
theorem ValAt.sb {d : Addr} {H H' : Hp} {kvs : List (Key × V)} {v : V} (h : ValAt K a H v) (hd : H d = some (.dK kvs)) (b : SameBut d H H') : ValAt K a H' v := h.but (ButL.sb b (by simp) : ButL [d] H H') (no_ins hd)
/-- a label that can be compared -/
def labB (z : Str) : Bool := PyData.canLay0 (.str z) && keyS (.str z)
/-- the rows: labels that differ, and values -/
structure KvOk (K : PySem.W.Frag) (a : Adr) (H : Hp) (kvs : List (Key × V)) : Prop where
  nd : (kvs.map (·.1)).Nodup
  lab : ∀ kv ∈ kvs, ∃ z, kv.1 = .inr z ∧ labB z = true
  val : ∀ kv ∈ kvs, ValAt K a H kv.2
theorem KvOk.ex {H H' : Hp} {kvs : List (Key × V)} (h : KvOk K a H kvs) (e : Ex H H') : KvOk K a H' kvs := ⟨h.nd, h.lab, fun kv hk => (h.val kv hk).ex e⟩
theorem KvOk.sb {d : Addr} {H H' : Hp} {kvs ls : List (Key × V)} (h : KvOk K a H kvs) (hd : H d = some (.dK ls)) (b : SameBut d H H') : KvOk K a H' kvs := ⟨h.nd, h.lab, fun kv hk => (h.val kv hk).sb hd b⟩
theorem KvOk.nil {H : Hp} : KvOk K a H [] := ⟨.nil, (fun _ h => nomatch h), (fun _ h => nomatch h)⟩
theorem lab_lay {z : Str} (h : labB z = true) : PyData.canLay0 (.str z) = true ∧ keyS (.str z) = true := by
  unfold labB at h
  rw [Bool.and_eq_true] at h
  exact h
theorem KvOk.en (T : Txt P K mg a) {H : Hp} {kvs : List (Key × V)} (h : KvOk K a H kvs) : EnOk K a H kvs := ⟨h.nd, fun kv hk => by
  obtain ⟨z, hz, hl⟩ := h.lab kv hk
  rw [hz]
  exact ⟨⟨_, kn_dz T (.str z)⟩, key_fits (lab_lay hl).2, by show (keyS (.str z) || keyI (.str z)) = true; rw [(lab_lay hl).2]; rfl⟩, fun kv hk => (h.val kv hk).good T⟩
/-- the pairs, in the heap behind -/
theorem pr_pairs {X : Cx} {te : TE} {σ : L2.St} {H : Hp} {p sd : Addr} {kvs : List (Key × V)} (T : Txt P K mg a) (h1 : X.prog = P) (h2 : X.w = w) (h3 : X.K = K) (h4 : X.mg = mg) (h5 : X.base = base) (hr : Room 2 X.A) (he : Ev te σ H (.ref p)) (hs : BkAt a H p sd kvs) (hl : kvs.length ≤ 1000)
    {Q : VK} (k : ∀ t ts H', Ex H H' → H' t = some (.tup (ts.map V.ref)) → Prs H' ts kvs → Q (.ref t) H') : tPr X "pairs" te σ H Q := by
  subst h1 h2 h3 h4 h5
  exact he H (Ex.refl _) _ fun H2 e2 => by
    obtain ⟨dx, hp⟩ := (hs.ex e2).at_
    exact ⟨p, a.Book, dx, _, _, _, 1, _, rfl, hp, T.c_Book, T.p_Book_pairs, ok_Book_pairs T, hr, p, sd, kvs, rfl, hs.ex e2, hl, fun t ts H' e ht hP => k t ts H' (e2.trans e) ht hP⟩
theorem sb_ex {d : Addr} {H H' : Hp} (e : Ex H H') : SameBut d H H' := fun p o _ h => e p o h
def spRfC (K : PySem.W.Frag) (a : Adr) : Sp := fun vs H Q _ => ∃ y q x sd kvs b sb bks, vs = [y, .ref q, .ref b] ∧ ThAt a H q x sd kvs ∧ BkAt a H b sb bks ∧ kvs.length ≤ 100 ∧ KvOk K a H bks ∧ bks.length ≤ 100 ∧
  ∀ H', SameBut sd H H' → ThAt a H' q x sd (layK kvs bks) → Q .non H'
theorem of_Refill_call (T : Txt P K mg a) : ∃ fd, FnOk P w K mg base (L2.CX P w) 14 a.Refill___call__ fd ["self", "thing", "state"] (spRfC K a) ∧ Binds K fd ["self", "thing", "state"] [] ∧ Fun K "__call__" "Refill.__call__" s_Refill___call__ a.Refill___call__ fd := by
  refine T.d_Refill___call__.okX sc_Refill___call__ (fun vs H Q E h => ?_) (fun cdv A outer s H vs Q E hr h => ?_)
  · obtain ⟨y, q, x, sd, kvs, b, sb, bks, rfl, _⟩ := h
    rfl
  · obtain ⟨y, q, x, sd, kvs, b, sb, bks, rfl, th, bk, hl, ok, hbl, hq⟩ := h
    refine ⟨_, (pss_one (ps_for (passes_of rfl) rfl (pi_tup (pe_pr (pv 2))) (pg_tup rfl (pgs_cons (pg_name (i := 3) sc_Refill___call__.nd rfl (Or.inl rfl)) (pgs_cons (pg_name (i := 4) sc_Refill___call__.nd rfl (Or.inl rfl)) pgs_nil)))
 (pss_one (ps_expr (pe_me (pv 1) (takes_of rfl rfl rfl rfl) (pa_cons (pv 3) (pa_cons (pv 4) pa_nil)) pk_nil))))), ?_⟩
    refine pr_pairs T rfl rfl rfl rfl rfl (hr.mono (by decide)) (ev_var rfl) bk (by omega) fun t ts H1 e1 ht hP => ?_
    have th1 := th.ex e1
    have ok1 := ok.ex e1
    have htl := hP.len
    have tsd : t ≠ sd := ne_of ht th1.dict fun z => nomatch z
    refine ⟨t, rfl, ⟨_, st_of ht⟩, for_tup (K := K) (a := t) (xs := ts.map V.ref) (fun i σ' H' => (∃ o3 o4, σ' = [some y, some (.ref q), some (.ref b), o3, o4]) ∧ SameBut sd H1 H' ∧ ThAt a H' q x sd (layK kvs (bks.take i))) ⟨⟨_, _, rfl⟩, SameBut.rfl, th1⟩ (fun i σ' H' _ h => st_of (h.2.1 t _ tsd ht)) (fun i x1 σ' H' hx h => ?_) fun σ' H' h => ?_⟩
    · obtain ⟨⟨o3, o4, hσ⟩, sb1, th2⟩ := h
      subst hσ
      rw [List.getElem?_map] at hx
      obtain ⟨t1, ht1, rfl⟩ := Option.map_eq_some_iff.mp hx
      have hil := (List.getElem?_eq_some_iff.mp ht1).1
      have hbi : bks[i]? = some bks[i] := List.getElem?_eq_getElem (by omega)
      have hmem : bks[i] ∈ bks := List.getElem_mem _
      obtain ⟨t2, h2, h3⟩ := hP.get i _ hbi
      rw [ht1] at h2
      cases h2
      obtain ⟨z, hz1, hz2⟩ := ok.lab _ hmem
      have hval := ((ok1.val _ hmem).sb th1.dict sb1).good T
      have hmt := layK_take (kvs := kvs) hbi
      have hml := layK_len (bks.take i) kvs
      rw [List.length_take] at hml
      generalize bks[i] = kv at *
      obtain ⟨key, v⟩ := kv
      dsimp only at hz1 hval hmt h3
      subst hz1
      have h3' := sb1 t1 _ (ne_of h3 th1.dict fun z => nomatch z) h3
      obtain ⟨dx2, hq2⟩ := id th2.at_
      have nolk : ([("called", x), ("settings", V.ref sd)] : List (Str × V)).lookup ("set_field" : Str) = none := rfl
      have hks := (lab_lay hz2).2
      refine ⟨t1, _, rfl, st_of h3', rfl, _, _, rfl, _, _, rfl, rfl, ?_⟩
      refine ⟨_, rfl, q, a.Thing, dx2, a.Thing_set_field, _, 10, _, rfl, hq2, nolk, T.c_Thing, T.p_Thing_set_field, ok_set_field T, hr.mono (by decide), _, rfl, _, rfl, rfl, q, x, sd, _, .str z, v, false, rfl, th2, (by omega), kn_dz T (.str z), key_fits hks, .inr (.inr ⟨z, rfl, hks, hval, ?_⟩)⟩
      have psd : q ≠ sd := ne_of hq2 th2.dict fun z => nomatch z
      refine ⟨⟨_, _, rfl⟩, fun p o hp ho => by rw [upd_ne hp]; exact sb1 p o hp ho, ⟨dx2, by rw [upd_ne psd]; exact hq2⟩, by rw [hmt]; exact upd_same⟩
    · obtain ⟨_, sb1, th2⟩ := h
      rw [List.length_map, htl, List.take_length] at th2
      exact hq H' (SameBut.trans (sb_ex e1) sb1) th2
theorem ok_Refill_call (T : Txt P K mg a) : CallX P w K mg base 14 (.ref a.Refill___call__) [] fun vs zs H Q E => zs = [] ∧ spRfC K a vs H Q E := (fnO (of_Refill_call T)).x
theorem ok_Refill_call_kw (T : Txt P K mg a) : CallX P w K mg base 14 (.ref a.Refill___call__) ["state", "thing"] fun vs zs H Q E => vs.length = 1 ∧ zs.length = 2 ∧ spRfC K a (vs ++ zs.reverse) H Q E := by
  obtain ⟨fd, F, _, F2⟩ := of_Refill_call (P := P) (w := w) (base := base) (mg := mg) T
  refine callX_of F (n := 1) (g := fun us ws => us ++ ws.reverse) (gV := fun vs zs => vs ++ zs.reverse) ⟨fun s us ws X hu hw => ?_, fun r r2 => r.append (vals_rev r2)⟩
  obtain ⟨oc, od, kV, doc, pm, an, cdv, ct, osl, rfl, lk, hcd⟩ := F2.ex
  match us, ws, hu, hw with
  | [u], [v1, v2], _, _ => exact .of_eq rfl
theorem co_Refill (T : Txt P K mg a) : StX.CallO K a.Refill a.Refill___call__ := ⟨T.ca_Refill, T.cf_Refill, T.ci_Refill⟩

end
end BJL

namespace BJL
open PySem PySem.Spec PyProof.Rows L2 BJ
section
variable {P : Program} {w : World} {K : PySem.W.Frag} {mg : Str → Option Value} {base : Heap} {a : Adr}
open Evl
def spFdI (K : PySem.W.Frag) (a : Adr) : Sp := fun vs H Q E => ∃ p dx x b t, ∃ zs : List Str, vs = [.ref p, x, .ref t] ∧ H p = some (.ins a.Fields dx []) ∧ Kn K a H x b ∧ Fits x ∧ thingV x = true ∧ SqT K H t (zs.map V.str) ∧ zs.Nodup ∧ zs.length ≤ 20 ∧ (∀ z ∈ zs, keyS (.str z) = true) ∧
  ∀ H', ExB p H H' → H' p = some (.ins a.Fields dx [("new_brand", x), ("label_row", .ref t)]) → Q .non H'
theorem body_finit (T : Txt P K mg a) (cdv : Value) (A : Around) (outer : List Env) (s : Shared) (H : Hp) (vs : List V) (Q : VK) (E : XK) (hr : Room 10 (A.deeper (envOfC "Fields.__init__" (defScope s_Fields___init__) s.heap.objs.size a.Fields___init__ cdv))) (h : spFdI K a vs H Q E) :
    ∃ t, PSs (cxOf (L2.CX P w) P w K mg base ["self", "brand", "labels"] "Fields.__init__" (defScope s_Fields___init__) a.Fields___init__ cdv A outer s H E) (defBody s_Fields___init__) t ∧ t { nx := fun _ H' => Q .non H', rt := Q } (start ["self", "brand", "labels"] vs) H := by
  have G_is_brand : CallO P w K mg base 2 (.ref a.is_brand) (spBrand K a) := ok_is_brand T
  have G_check_labels : CallO P w K mg base 9 (.ref a.check_labels) (spLabels K a) := ok_check_labels T
  obtain ⟨p, dx, x, b, t, zs, rfl, hp, kn, hz, hv, hs, nd, hl, hk, hq⟩ := h
  refine ⟨_, (pss_cons (ps_if (PW.pt (pw_or (pt_not (pt_val (pe_co G_is_brand (hr.mono (by decide)) rfl T.g_is_brand T.k_is_brand (takes_of rfl rfl rfl rfl) (pa_cons (pv 1) pa_nil)))) (pw_or1 (pt_cmpR op_eq (pv 1) (pe_glob (v := .str "bag") (by rfl) T.c_BAG.choose_spec ⟨_, rfl⟩) (nomark _)))))
 (pss_one (ps_raiseErr rfl T.e_InvalidBrand T.i_InvalidBrand T.k_InvalidBrand T.x_InvalidBrand T.t_InvalidBrand hr (takes_of rfl rfl rfl rfl) (pa_cons (pv 1) pa_nil) (by rfl)))
 pss_nil)
 (pss_cons (ps_expr (pe_co G_check_labels (hr.mono (by decide)) rfl T.g_check_labels T.k_check_labels (takes_of rfl rfl rfl rfl) (pa_cons (pv 2) pa_nil)))
 (pss_one (ps_asg (pe_tup (pa_cons (pv 1) (pa_cons (pv 2) pa_nil))) (pg_tup rfl (pgs_cons (pg_fld (pv 0)) (pgs_cons (pg_fld (pv 0)) pgs_nil))) (by rfl))))), ?_⟩
  cases x with
  | str z =>
    have hv' : brandL z.cps.toList = true ∧ decide (V.str z = V.str "bag") = false := by
      have : (brandL z.cps.toList && !decide (V.str z = V.str "bag")) = true := hv
      simpa using this
    have t1 : EvT (tNot (tB (tCa (spBrand K a) (fun cls d _ H => E cls d H) (tCons (tVar 1) tNil)))) (L2.start ["self", "brand", "labels"] [.ref p, .str z, .ref t]) H (!true) :=
      et_not (et_B (ev_ca (ea_cons (ev_var rfl) ea_nil) fun H1 e Q E q => ⟨.str z, b, rfl, kn.ex e, hz, fun H2 e2 => by rw [show brandV (.str z) = true from hv'.1]; exact q H2 e2⟩))
    have t2 : EvT (tTest (tOp rEq (tVar 1) (tC (.str "bag")))) (L2.start ["self", "brand", "labels"] [.ref p, .str z, .ref t]) H false := by
      have := et_test (ev_op (σ := L2.start ["self", "brand", "labels"] [.ref p, .str z, .ref t]) (H := H) (ta := tVar 1) (tb := tC (.str "bag")) (ev_var rfl) ev_c (rv_eq (x := .str z) (y := .str "bag") rfl))
      rw [hv'.2] at this
      exact this
    refine q_when (et_or t1 fun _ => t2) (fun z => nomatch z) fun _ H1 e1 => ?_
    refine ⟨_, rfl, t, zs, rfl, ex_t e1 hs, nd, hl, hk, fun H2 e2 => ?_⟩
    refine ⟨_, rfl, _, rfl, (by show 2 ≤ sizeLine; decide), fun tp np => ?_⟩
    have e3 := (e1.trans e2).trans (Ex.new (o := .tup [.str z, .ref t]) np)
    have hp3 := e3 _ _ hp
    refine ⟨tp, _, rfl, st_of upd_same, rfl, _, _, rfl, _, rfl, p, a.Fields, dx, [], rfl, hp3, T.c_Fields, T.n_Fields_new_brand, (by decide), _, _, rfl, _, rfl, p, a.Fields, dx, _, rfl, upd_same, T.c_Fields, T.n_Fields_label_row, (by show 1 < 1000; decide), rfl, ?_⟩
    exact hq _ (fun b o hb hbp => by rw [upd_ne hbp, upd_ne hbp]; exact e3 _ _ hb) upd_same
  | _ => cases hv
theorem ok_Fields (T : Txt P K mg a) : CallX P w K mg base 12 (.ref a.Fields) [] fun vs zs H Q E => ∃ x b, ∃ ls : List Str, vs = x :: ls.map V.str ∧ zs = [] ∧ Kn K a H x b ∧ Fits x ∧ thingV x = true ∧ ls.Nodup ∧ ls.length ≤ 20 ∧ (∀ z ∈ ls, keyS (.str z) = true) ∧
    ∀ p dx t H', H p = none → Ex H H' → H' p = some (.ins a.Fields dx [("new_brand", x), ("label_row", .ref t)]) → SqT K H' t (ls.map V.str) → Q (.ref p) H' := by
  have h1 := (T.d_Fields___init__.ok (N := ["self", "brand", "labels"]) (sp := spFdI K a) (P := P) (w := w) (base := base) (mg := mg) (k := 10) sc_Fields___init__ (fun cdv A outer s H vs Q E hr h => body_finit T cdv A outer s H vs Q E hr h)).x
  refine (CallX.make T.m_Fields h1).imp ?_
  rintro vs zs H Q E ⟨x, b, ls, rfl, rfl, kn, hz, hv, nd, hl, hk, hq⟩ p dx hp hd ne hs
  have e1 : Ex H (upd (upd H dx (.own p)) p (.ins a.Fields dx [])) := (Ex.new hd).trans (Ex.new (by rw [upd_ne ne.symm]; exact hp))
  refine ⟨rfl, [.ref p, x], ls.map V.str, rfl, rfl, (by rw [List.length_map, sizeLine_eq]; omega), fun t ht => ?_⟩
  have e2 := e1.trans (Ex.new (o := .tup (ls.map V.str)) ht)
  have htp : t ≠ p := fun z => by rw [z, upd_same] at ht; cases ht
  refine ⟨p, dx, x, b, t, ls, rfl, (Ex.new ht) _ _ upd_same, kn.ex e2, hz, hv, st_of upd_same, nd, hl, hk, fun H' he hp' => ⟨rfl, hq p dx t H' hp (fun b o hb => he b o (e2 b o hb) fun z => ?_) hp' (st_of (he t _ upd_same htp))⟩⟩
  rw [z, hp] at hb
  cases hb
/-- the fields of a new thing -/
def zipK (zs : List Str) (vs : List V) : List (Key × V) := (zs.map Sum.inr).zip vs
theorem zipK_len {zs : List Str} {vs : List V} (h : zs.length = vs.length) : (zipK zs vs).length = zs.length := by
  unfold zipK
  rw [List.length_zip, List.length_map, h, Nat.min_self]
theorem zipK_keys {zs : List Str} {vs : List V} (h : zs.length = vs.length) : (zipK zs vs).map (·.1) = zs.map Sum.inr := by
  unfold zipK
  exact List.map_fst_zip (by rw [List.length_map, h]; exact Nat.le_refl _)
theorem zipK_get {zs : List Str} {vs : List V} {i : Nat} {z : Str} {v : V} (h1 : zs[i]? = some z) (h2 : vs[i]? = some v) : (zipK zs vs)[i]? = some (.inr z, v) := by
  unfold zipK
  rw [List.getElem?_zip_eq_some]
  exact ⟨by rw [List.getElem?_map, h1]; rfl, h2⟩
theorem zipK_mem {zs : List Str} {vs : List V} {kv : Key × V} (h : kv ∈ zipK zs vs) : (∃ z ∈ zs, kv.1 = .inr z) ∧ kv.2 ∈ vs := by
  obtain ⟨k, v⟩ := kv
  obtain ⟨h1, h2⟩ := List.of_mem_zip h
  obtain ⟨z, hz, rfl⟩ := List.mem_map.mp h1
  exact ⟨⟨z, hz, rfl⟩, h2⟩
theorem zipK_nd {zs : List Str} {vs : List V} (h : zs.length = vs.length) (nd : zs.Nodup) : ((zipK zs vs).map (·.1)).Nodup := by
  rw [zipK_keys h]
  exact List.Pairwise.map _ (fun a b hab e => hab (Sum.inr.inj e)) nd
def spFdC (K : PySem.W.Frag) (a : Adr) : Sp := fun vs H Q E => ∃ p dx x b t tu, ∃ zs : List Str, ∃ ws : List V, vs = [.ref p, .ref tu] ∧ H p = some (.ins a.Fields dx [("new_brand", x), ("label_row", .ref t)]) ∧ Kn K a H x b ∧ Fits x ∧ thingV x = true ∧ SqT K H t (zs.map V.str) ∧ SqT K H tu ws ∧ zs.length = ws.length ∧ zs.Nodup ∧ zs.length ≤ 20 ∧ (∀ z ∈ zs, keyS (.str z) = true) ∧ (∀ v ∈ ws, ValAt K a H v) ∧
  ∀ q sd H', H q = none → H sd = none → Ex H H' → ThAt a H' q x sd (zipK zs ws) → Q (.ref q) H'
theorem of_Fields_call (T : Txt P K mg a) : ∃ fd, FnOk P w K mg base (L2.CX P w) 14 a.Fields___call__ fd ["self", "arguments"] (spFdC K a) ∧ Binds K fd ["self", "arguments"] [] ∧ Fun K "__call__" "Fields.__call__" s_Fields___call__ a.Fields___call__ fd := by
  have G_Thing := ok_Thing (P := P) (w := w) (base := base) (mg := mg) T
  refine T.d_Fields___call__.okX sc_Fields___call__ (fun vs H Q E h => ?_) (fun cdv A outer s H vs Q E hr h => ?_)
  · obtain ⟨p, dx, x, b, t, tu, zs, ws, rfl, _⟩ := h
    rfl
  · obtain ⟨p, dx, x, b, t, tu, zs, ws, rfl, hp, kn, hz, hv, ht, htu, hzw, nd, hl, hk, hval, hq⟩ := h
    refine ⟨_, (pss_cons (ps_set (i := 2) sc_Fields___call__.nd rfl (Or.inl rfl) (pe_cx G_Thing (hr.mono (by decide)) rfl T.g_Thing T.k_Thing (takes_of rfl rfl rfl rfl) (pa_cons (pe_fld (pv 0) rfl) pa_nil) pk_nil))
 (pss_cons (ps_for (passes_of rfl) rfl (RZ.pi_zipA (by rfl) T.b_zip (pa_cons (pe_fld (pv 0) rfl) (pa_cons (pv 1) pa_nil))) (pg_tup rfl (pgs_cons (pg_name (i := 3) sc_Fields___call__.nd rfl (Or.inl rfl)) (pgs_cons (pg_name (i := 4) sc_Fields___call__.nd rfl (Or.inl rfl)) pgs_nil)))
 (pss_one (ps_expr (pe_me (pv 2) (takes_of rfl rfl rfl rfl) (pa_cons (pv 3) (pa_cons (pv 4) pa_nil)) pk_nil))))
 (pss_one (ps_ret (pv 2))))), ?_⟩
    refine ⟨_, rfl, p, a.Fields, dx, _, _, rfl, hp, T.c_Fields, T.n_Fields_new_brand, rfl, x, rfl, rfl, b, kn, hz, .inl ⟨hv, fun q sd H1 nq nsd e1 th => ?_⟩⟩
    have hzl := zipK_len hzw
    have hnd := zipK_nd hzw nd
    refine ⟨_, rfl, p, a.Fields, dx, _, _, rfl, e1 _ _ hp, T.c_Fields, T.n_Fields_label_row, rfl, _, rfl, t, tu, _, _, rfl, .inr ⟨ex_t e1 ht, ex_t e1 htu, RZ.for_zipT (K := K) (a := t) (b := tu) (xs := zs.map V.str) (ys := ws) (by rw [List.length_map]; exact hzw) (fun i σ' H' => (∃ o3 o4, σ' = [some (.ref p), some (.ref tu), some (.ref q), o3, o4]) ∧ Ex H H' ∧ ThAt a H' q x sd ((zipK zs ws).take i)) ⟨⟨_, _, rfl⟩, e1, th⟩ (fun i σ' H' h => ⟨ex_t h.2.1 ht, ex_t h.2.1 htu⟩) (fun i y v U σ' H' hy hw h nU => ?_) fun σ' H' h => ?_⟩⟩
    · obtain ⟨⟨o3, o4, hσ⟩, e2, th2⟩ := h
      subst hσ
      rw [List.getElem?_map] at hy
      obtain ⟨z, hz1, rfl⟩ := Option.map_eq_some_iff.mp hy
      have hzm := List.mem_of_getElem? hz1
      have hil := (List.getElem?_eq_some_iff.mp hz1).1
      have hkv := zipK_get hz1 hw
      obtain ⟨n1, n2⟩ := take_put hnd (i := i) (by omega)
      have hge := (List.getElem?_eq_some_iff.mp hkv).2
      rw [hge] at n1 n2
      have eU := Ex.new (o := .tup [V.str z, v]) nU
      have th3 := th2.ex eU
      obtain ⟨dx2, hq2⟩ := id th3.at_
      have nolk : ([("called", x), ("settings", V.ref sd)] : List (Str × V)).lookup ("set_field" : Str) = none := rfl
      have hks := hk z hzm
      refine ⟨U, _, rfl, st_of upd_same, rfl, _, _, rfl, _, _, rfl, rfl, ?_⟩
      refine ⟨_, rfl, q, a.Thing, dx2, a.Thing_set_field, _, 10, _, rfl, hq2, nolk, T.c_Thing, T.p_Thing_set_field, ok_set_field T, hr.mono (by decide), _, rfl, _, rfl, rfl, q, x, sd, _, .str z, v, false, rfl, th3, (by rw [List.length_take]; omega), kn_dz T (.str z), key_fits hks, .inr (.inr ⟨z, rfl, hks, ((hval v (List.mem_of_getElem? hw)).ex (e2.trans eU)).good T, ?_⟩)⟩
      have psd : q ≠ sd := ne_of hq2 th3.dict fun z => nomatch z
      refine ⟨⟨_, _, rfl⟩, Ex.mut (e2.trans eU) nsd, ⟨dx2, by rw [upd_ne psd]; exact hq2⟩, ?_⟩
      rw [← n2]
      exact upd_same
    · obtain ⟨⟨o3, o4, hσ⟩, e2, th2⟩ := h
      subst hσ
      rw [List.length_map, ← hzl, List.take_length] at th2
      exact ⟨_, rfl, hq q sd H' nq nsd e2 th2⟩
theorem ok_Fields_call (T : Txt P K mg a) : CallX P w K mg base 14 (.ref a.Fields___call__) [] fun vs zs H Q E => zs = [] ∧ spFdC K a vs H Q E := (fnO (of_Fields_call T)).x
theorem ok_Fields_call_kw (T : Txt P K mg a) : CallX P w K mg base 14 (.ref a.Fields___call__) ["arguments"] fun vs zs H Q E => vs.length = 1 ∧ zs.length = 1 ∧ spFdC K a (vs ++ zs) H Q E := by
  obtain ⟨fd, F, _, F2⟩ := of_Fields_call (P := P) (w := w) (base := base) (mg := mg) T
  refine callX_of F (n := 1) (g := fun us ws => us ++ ws) (gV := fun vs zs => vs ++ zs) ⟨fun s us ws X hu hw => ?_, fun r r2 => r.append r2⟩
  obtain ⟨oc, od, kV, doc, pm, an, cdv, ct, osl, rfl, lk, hcd⟩ := F2.ex
  match us, ws, hu, hw with
  | [u], [v], _, _ => exact .of_eq rfl
theorem co_Fields (T : Txt P K mg a) : StX.CallO K a.Fields a.Fields___call__ := ⟨T.ca_Fields, T.cf_Fields, T.ci_Fields⟩
theorem ok_Single_call (T : Txt P K mg a) : CallX P w K mg base 1 (.ref a.Single___call__) [] fun vs zs H Q E => zs = [] ∧ spSgC a vs H Q E := (fnO (of_Single_call T)).x
theorem ok_Single_call_kw (T : Txt P K mg a) : CallX P w K mg base 1 (.ref a.Single___call__) ["arguments"] fun vs zs H Q E => vs.length = 1 ∧ zs.length = 1 ∧ spSgC a (vs ++ zs) H Q E := by
  obtain ⟨fd, F, _, F2⟩ := of_Single_call (P := P) (w := w) (base := base) (mg := mg) T
  refine callX_of F (n := 1) (g := fun us ws => us ++ ws) (gV := fun vs zs => vs ++ zs) ⟨fun s us ws X hu hw => ?_, fun r r2 => r.append r2⟩
  obtain ⟨oc, od, kV, doc, pm, an, cdv, ct, osl, rfl, lk, hcd⟩ := F2.ex
  match us, ws, hu, hw with
  | [u], [v], _, _ => exact .of_eq rfl

end
end BJL

namespace BJL
open PySem PySem.Spec PyProof.Rows L2 BJ
section
variable {P : Program} {w : World} {K : PySem.W.Frag} {mg : Str → Option Value} {base : Heap} {a : Adr}
open Evl
def spPtI (K : PySem.W.Frag) (a : Adr) : Sp := fun vs H Q E => ∃ p dx t, ∃ zs : List Str, vs = [.ref p, .ref t] ∧ H p = some (.ins a.Parts dx []) ∧ SqT K H t (zs.map V.str) ∧ zs.Nodup ∧ zs.length ≤ 20 ∧ (∀ z ∈ zs, keyS (.str z) = true) ∧
  ∀ H', ExB p H H' → H' p = some (.ins a.Parts dx [("label_row", .ref t)]) → Q .non H'
theorem body_pinit (T : Txt P K mg a) (cdv : Value) (A : Around) (outer : List Env) (s : Shared) (H : Hp) (vs : List V) (Q : VK) (E : XK) (hr : Room 10 (A.deeper (envOfC "Parts.__init__" (defScope s_Parts___init__) s.heap.objs.size a.Parts___init__ cdv))) (h : spPtI K a vs H Q E) :
    ∃ t, PSs (cxOf (L2.CX P w) P w K mg base ["self", "labels"] "Parts.__init__" (defScope s_Parts___init__) a.Parts___init__ cdv A outer s H E) (defBody s_Parts___init__) t ∧ t { nx := fun _ H' => Q .non H', rt := Q } (start ["self", "labels"] vs) H := by
  have G_check_labels : CallO P w K mg base 9 (.ref a.check_labels) (spLabels K a) := ok_check_labels T
  obtain ⟨p, dx, t, zs, rfl, hp, hs, nd, hl, hk, hq⟩ := h
  refine ⟨_, (pss_cons (ps_expr (pe_co G_check_labels (hr.mono (by decide)) rfl T.g_check_labels T.k_check_labels (takes_of rfl rfl rfl rfl) (pa_cons (pv 1) pa_nil)))
 (pss_one (ps_fld (pv 0) (pv 1) rfl))), ?_⟩
  refine ⟨_, rfl, t, zs, rfl, hs, nd, hl, hk, fun H2 e2 => ?_⟩
  refine ⟨_, rfl, _, rfl, p, a.Parts, dx, [], rfl, e2 _ _ hp, T.c_Parts, T.n_Parts_label_row, (by decide), ?_⟩
  exact hq _ (fun b o hb hbp => by rw [upd_ne hbp]; exact e2 _ _ hb) upd_same
theorem ok_Parts (T : Txt P K mg a) : CallX P w K mg base 12 (.ref a.Parts) [] fun vs zs H Q E => ∃ ls : List Str, vs = ls.map V.str ∧ zs = [] ∧ ls.Nodup ∧ ls.length ≤ 20 ∧ (∀ z ∈ ls, keyS (.str z) = true) ∧
    ∀ p dx t H', H p = none → Ex H H' → H' p = some (.ins a.Parts dx [("label_row", .ref t)]) → SqT K H' t (ls.map V.str) → Q (.ref p) H' := by
  have h1 := (T.d_Parts___init__.ok (N := ["self", "labels"]) (sp := spPtI K a) (P := P) (w := w) (base := base) (mg := mg) (k := 10) sc_Parts___init__ (fun cdv A outer s H vs Q E hr h => body_pinit T cdv A outer s H vs Q E hr h)).x
  refine (CallX.make T.m_Parts h1).imp ?_
  rintro vs zs H Q E ⟨ls, rfl, rfl, nd, hl, hk, hq⟩ p dx hp hd ne hs
  have e1 : Ex H (upd (upd H dx (.own p)) p (.ins a.Parts dx [])) := (Ex.new hd).trans (Ex.new (by rw [upd_ne ne.symm]; exact hp))
  refine ⟨rfl, [.ref p], ls.map V.str, rfl, rfl, (by rw [List.length_map, sizeLine_eq]; omega), fun t ht => ?_⟩
  have e2 := e1.trans (Ex.new (o := .tup (ls.map V.str)) ht)
  have htp : t ≠ p := fun z => by rw [z, upd_same] at ht; cases ht
  refine ⟨p, dx, t, ls, rfl, (Ex.new ht) _ _ upd_same, st_of upd_same, nd, hl, hk, fun H' he hp' => ⟨rfl, hq p dx t H' hp (fun b o hb => he b o (e2 b o hb) fun z => ?_) hp' (st_of (he t _ upd_same htp))⟩⟩
  rw [z, hp] at hb
  cases hb
def fieldOf (kvs : List (Key × V)) (z : Str) : V := (valV kvs (.inr z)).getD .non
def strOf : V → Str | .str z => z | _ => Str.empty
theorem ret_tupc {t1 : TE} {t2 : TA} {D : Ends} {σ : L2.St} {H : Hp} (h : t1 σ H fun x H1 => t2 σ H1 fun xs H2 => (x :: xs).length ≤ sizeLine ∧ ∀ p, H2 p = none → D.rt (.ref p) (upd H2 p (.tup (x :: xs)))) : tRet (tTup (tCons t1 t2)) D σ H := h
def spPtC (K : PySem.W.Frag) (a : Adr) : Sp := fun vs H Q E => ∃ p dx t q x sd kvs, ∃ zs : List Str, vs = [.ref p, .ref q] ∧ H p = some (.ins a.Parts dx [("label_row", .ref t)]) ∧ SqT K H t (zs.map V.str) ∧ zs.length ≤ 20 ∧ (∀ z ∈ zs, keyS (.str z) = true ∧ ∃ v, valV kvs (.inr z) = some v) ∧ ThAt a H q x sd kvs ∧
  ∀ u r H', Ex H H' → H' r = some (.tup (zs.map (fieldOf kvs))) → H' u = some (.tup [.ref r, .non]) → Q (.ref u) H'
theorem of_Parts_call (T : Txt P K mg a) : ∃ fd, FnOk P w K mg base (L2.CX P w) 12 a.Parts___call__ fd ["self", "thing"] (spPtC K a) ∧ Binds K fd ["self", "thing"] [] ∧ Fun K "__call__" "Parts.__call__" s_Parts___call__ a.Parts___call__ fd := by
  refine T.d_Parts___call__.okX sc_Parts___call__ (fun vs H Q E h => ?_) (fun cdv A outer s H vs Q E hr h => ?_)
  · obtain ⟨p, dx, t, q, x, sd, kvs, zs, rfl, _⟩ := h
    rfl
  · obtain ⟨p, dx, t, q, x, sd, kvs, zs, rfl, hp, ht, hl, hk, th, hq⟩ := h
    refine ⟨_, (pss_one (ps_ret (pe_tup (pa_cons (pe_callTy call_tuple_of (by rfl) T.b_tuple (by decide +kernel) (pa_cons (pe_lc (own := [("label", 2)]) (g := (gName 2)) (by rfl) sc_Parts___call__.nd (pi_tup (pe_fld (pv 0) rfl)) (blkOk_by (own := [("label", 2)]) (N := ["self", "thing", "label"]) (sc := defScope s_Parts___call__) (by decide +kernel)) (fun _ _ _ _ _ => (pg_name (i := 2) sc_Parts___call__.nd rfl (Or.inl rfl))) (fun _ _ _ _ _ => pts_nil) (fun _ _ _ _ _ => (pe_me' (X0 := cxOf (L2.CX P w) P w K mg base ["self", "thing", "label"] "Parts.__call__" (defScope s_Parts___call__) a.Parts___call__ cdv A outer s H E) (ks := []) ⟨rfl, rfl, rfl, rfl, rfl, rfl⟩ (pv 1) tkN (pa_cons (pv 2) pa_nil) pk_nil))) pa_nil)) (pa_cons pe_non pa_nil))))), ?_⟩
    have iv : EvI (iTup K (tFld K (tVar 0) "label_row")) (L2.start ["self", "thing", "label"] [.ref p, .ref q]) H (zs.map V.str) := ei_tup (ev_fld (ev_var rfl) hp T.c_Parts T.n_Parts_label_row rfl) ht
    have el := el_all (vs := [2]) (j := 2) (te := tMe (cxOf (L2.CX P w) P w K mg base ["self", "thing", "label"] "Parts.__call__" (defScope s_Parts___call__) a.Parts___call__ cdv A outer s H E) "field" (fun _ _ _ _ => False) (tVar 1) (tCons (tVar 2) tNil) tNil []) iv (fun y => fieldOf kvs (strOf y)) (by rw [List.length_map]; omega) (fun _ => rfl) (fun y hy H1 e1 => by
      obtain ⟨z, hz, rfl⟩ := List.mem_map.mp hy
      obtain ⟨hks, v, hv⟩ := hk z hz
      have th1 := th.ex e1
      intro H2 e2 Q2 k2
      have th2 := th1.ex e2
      obtain ⟨dx2, hq2⟩ := id th2.at_
      refine ⟨_, rfl, q, a.Thing, dx2, a.Thing_field, _, 10, _, rfl, hq2, rfl, T.c_Thing, T.p_Thing_field, ok_field T, hr.mono (by decide), _, rfl, rfl, q, x, sd, kvs, .str z, _, rfl, th2, kn_dz T (.str z), key_fits hks, .inr ⟨z, rfl, hks, .inl ⟨v, hv, ?_⟩⟩⟩
      have := k2 H2 (Ex.refl _)
      rw [show fieldOf kvs (strOf (.str z)) = v by unfold fieldOf; rw [show strOf (.str z) = z from rfl, hv]; rfl] at this
      exact this)
    rw [List.map_map] at el
    refine ret_tupc ((eu_tupL el) H (Ex.refl _) _ fun r H1 nr e1 hr1 => ?_)
    refine ⟨(by show 2 ≤ sizeLine; decide), fun u nu => ?_⟩
    have eu := Ex.new (o := .tup [.ref r, .non]) nu
    exact hq u r _ (e1.trans eu) (eu _ _ hr1) upd_same
theorem ok_Parts_call (T : Txt P K mg a) : CallX P w K mg base 12 (.ref a.Parts___call__) [] fun vs zs H Q E => zs = [] ∧ spPtC K a vs H Q E := (fnO (of_Parts_call T)).x
theorem ok_Parts_call_kw (T : Txt P K mg a) : CallX P w K mg base 12 (.ref a.Parts___call__) ["thing"] fun vs zs H Q E => vs.length = 1 ∧ zs.length = 1 ∧ spPtC K a (vs ++ zs) H Q E := by
  obtain ⟨fd, F, _, F2⟩ := of_Parts_call (P := P) (w := w) (base := base) (mg := mg) T
  refine callX_of F (n := 1) (g := fun us ws => us ++ ws) (gV := fun vs zs => vs ++ zs) ⟨fun s us ws X hu hw => ?_, fun r r2 => r.append r2⟩
  obtain ⟨oc, od, kV, doc, pm, an, cdv, ct, osl, rfl, lk, hcd⟩ := F2.ex
  match us, ws, hu, hw with
  | [u], [v], _, _ => exact .of_eq rfl
theorem co_Parts (T : Txt P K mg a) : StX.CallO K a.Parts a.Parts___call__ := ⟨T.ca_Parts, T.cf_Parts, T.ci_Parts⟩
theorem ok_Whole_call (T : Txt P K mg a) : CallX P w K mg base 16 (.ref a.Whole___call__) [] fun vs zs H Q E => zs = [] ∧ spWhC K a vs H Q E := (fnO (of_Whole_call T)).x
theorem ok_Whole_call_kw (T : Txt P K mg a) : CallX P w K mg base 16 (.ref a.Whole___call__) ["thing"] fun vs zs H Q E => vs.length = 1 ∧ zs.length = 1 ∧ spWhC K a (vs ++ zs) H Q E := by
  obtain ⟨fd, F, _, F2⟩ := of_Whole_call (P := P) (w := w) (base := base) (mg := mg) T
  refine callX_of F (n := 1) (g := fun us ws => us ++ ws) (gV := fun vs zs => vs ++ zs) ⟨fun s us ws X hu hw => ?_, fun r r2 => r.append r2⟩
  obtain ⟨oc, od, kV, doc, pm, an, cdv, ct, osl, rfl, lk, hcd⟩ := F2.ex
  match us, ws, hu, hw with
  | [u], [v], _, _ => exact .of_eq rfl

end
end BJL

namespace BJL
open PySem PySem.Spec PyProof.Rows L2 BJ
section
variable {P : Program} {w : World} {K : PySem.W.Frag} {mg : Str → Option Value} {base : Heap} {a : Adr}
open Evl
def LABS : List Str := ["", "n", "left", "right", "a b"]
def LABV : List V := [.str "", .str "n", .str "left", .str "right", .str "a b"]
theorem labv_nd : LABV.Nodup := by decide +kernel
theorem labs_lab : ∀ z ∈ LABS, labB z = true := by decide +kernel
theorem labv_str : ∀ v ∈ LABV, V.str (strOf v) = v ∧ strOf v ∈ LABS := by decide +kernel
theorem perm_erase : ∀ (l : List V) (k : Nat) (y : V), l[k]? = some y → (y :: l.eraseIdx k).Perm l
  | [], k, y, h => nomatch h
  | x :: l, 0, y, h => by cases h; exact .refl _
  | x :: l, k + 1, y, h => (List.Perm.swap x y (l.eraseIdx k)).trans ((perm_erase l k y h).cons x)
theorem _root_.BJ.Dr.mut {H : Hp} {d c q : Addr} {cells : List Int} {n : Nat} {o : HO} (D : Dr H d c cells n) (h1 : q ≠ d) (h2 : q ≠ c) : Dr (upd H q o) d c cells n := by
  obtain ⟨⟨a', l', u', k1, k2⟩, k3, k4, k5⟩ := D
  exact ⟨⟨a', l', u', by rw [upd_ne h1.symm]; exact k1, k2⟩, by rw [upd_ne h2.symm]; exact k3, k4, k5⟩
theorem _root_.BJ.SameBut.mut {d q : Addr} {H H' : Hp} {o : HO} (s : SameBut d H H') (h : H q = none) : SameBut d H (upd H' q o) := fun p u hp hu => by
  have : p ≠ q := fun z => by rw [z, h] at hu; cases hu
  rw [upd_ne this]
  exact s p u hp hu
theorem seq_at {r : Int} {n : Nat} (h0 : 0 ≤ r) (h1 : r < n) : seqIndex? r n = some r.toNat := by
  unfold seqIndex?
  rw [if_neg (by omega : ¬ r < 0)]
  simp [h0, h1]
def spLabs : Sp := fun vs H Q _ => ∃ d c cells n, ∃ m : Nat, vs = [.ref d, .int m] ∧ Dr H d c cells n ∧ n ≤ 100000 ∧ m ≤ 5 ∧ ∀ (l : Addr) (zs : List Str) (H' : Hp), H l = none → SameBut d H H' → Dr H' d c cells (n + m) → H' l = some (.lst (zs.map V.str)) → zs.length = m → zs.Nodup → (∀ z ∈ zs, z ∈ LABS) → Q (.ref l) H'
theorem ok__law_labels (T : Txt P K mg a) : CallO P w K mg base 3 (.ref a._law_labels) spLabs := by
  have G__law_next : CallO P w K mg base 2 (.ref a._law_next) spNext := ok__law_next T
  refine fnO (T.d__law_labels.okX sc__law_labels (fun vs H Q E h => ?_) (fun cdv A outer s H vs Q E hr h => ?_))
  · obtain ⟨d, c, cells, n, m, rfl, _⟩ := h
    rfl
  · obtain ⟨d, c, cells, n, m, rfl, D, hn, hm, hq⟩ := h
    refine ⟨_, (pss_cons (ps_par (i := 2) (j := 3) rfl sc__law_labels.nd rfl rfl (by decide) rfl rfl (pa_cons (pe_lst (pa_cons pe_str (pa_cons pe_str (pa_cons pe_str (pa_cons pe_str (pa_cons pe_str pa_nil)))))) (pa_cons (pe_lst pa_nil) pa_nil)) (by rfl))
 (pss_cons (ps_for (passes_of rfl) rfl (pi_range1 (by rfl) T.b_range (pa_cons (pv 1) pa_nil)) (pg_name (i := 4) sc__law_labels.nd rfl (Or.inl rfl))
 (pss_one (ps_expr (pe_bm PySem.F.plainAttrs_list PySem.F.slot_list_append PySem.F.type_list_append mt_append (pv 3) (pa_cons (pe_bm PySem.F.plainAttrs_list PySem.F.slot_list_pop PySem.F.type_list_pop mt_popAt (pv 2) (pa_cons (pe_co G__law_next (hr.mono (by decide)) rfl T.g__law_next T.k__law_next (takes_of rfl rfl rfl rfl) (pa_cons (pv 0) (pa_cons (pe_callB call_len_seq (by rfl) T.b_len (by decide +kernel) (pa_cons (pv 2) pa_nil)) pa_nil))) pa_nil)) pa_nil)))))
 (pss_one (ps_ret (pv 3))))), ?_⟩
    refine ⟨(by show 5 ≤ sizeLine; decide), fun q1 n1 => ⟨Nat.zero_le _, fun q2 n2 => ⟨_, _, rfl, ?_⟩⟩⟩
    have e1 := Ex.new (o := .lst LABV) n1
    have e2 := Ex.new (o := .lst []) n2
    have k1 : (upd (upd H q1 (.lst LABV)) q2 (.lst [])) q1 = some (.lst LABV) := e2 _ _ upd_same
    have k2 : (upd (upd H q1 (.lst LABV)) q2 (.lst [])) q2 = some (.lst []) := upd_same
    have n2' := fresh_back e1 n2
    have q12 : q1 ≠ q2 := fun z => by rw [← z] at n2; rw [upd_same] at n2; cases n2
    obtain ⟨kvs, hd⟩ := D.atd
    have q1d : q1 ≠ d := fun z => by rw [z, hd] at n1; cases n1
    have q2d : q2 ≠ d := fun z => by rw [z, hd] at n2'; cases n2'
    have q1c : q1 ≠ c := fun z => by rw [z, D.list] at n1; cases n1
    have q2c : q2 ≠ c := fun z => by rw [z, D.list] at n2'; cases n2'
    have D2 := D.same (e1.trans e2)
    refine ⟨_, rfl, (m : Int), rfl, by omega, by omega, for_range (lo := 0) (n := ((m : Nat) : Int).toNat) (fun i σ H' => (∃ o4, σ = [some (.ref d), some (.int m), some (.ref q1), some (.ref q2), o4]) ∧ SameBut d H H' ∧ Dr H' d c cells (n + i) ∧ ∃ rem zs, H' q1 = some (.lst rem) ∧ H' q2 = some (.lst zs) ∧ zs.length = i ∧ (zs ++ rem).Perm LABV) ⟨⟨_, rfl⟩, SameBut.of (e1.trans e2), D2, LABV, [], k1, k2, rfl, List.Perm.refl _⟩ (fun i σ H' hi h => ?_) fun σ H' h => ?_⟩
    · obtain ⟨⟨o4, hσ⟩, sb, D3, rem, zs, h1, h2, hzl, hp⟩ := h
      subst hσ
      have hpl := hp.length_eq
      rw [List.length_append, show LABV.length = 5 from rfl] at hpl
      refine ⟨_, rfl, .inl ⟨rfl, _, sq_of h2⟩, _, rfl, .inl ⟨rfl, _, sq_of h1⟩, _, rfl, _, rfl, q1, _, rfl, .inl (sq_of h1), d, c, cells, n + i, _, rfl, D3, by omega, by omega, by omega, fun r H4 r0 r1 D4 B4 => ?_⟩
      have h1' := (B4 q1 q1d).trans h1
      have h2' := (B4 q2 q2d).trans h2
      have hk : r.toNat < rem.length := by omega
      have hy := List.getElem?_eq_getElem hk
      refine ⟨q1, rem, r, r.toNat, _, rfl, rfl, h1', by omega, by omega, seq_at r0 r1, hy, ?_⟩
      refine ⟨q2, zs, _, rfl, rfl, (by rw [upd_ne q12.symm]; exact h2'), (by rw [sizeLine_eq]; omega), ?_⟩
      refine ⟨⟨_, rfl⟩, ((sb.trans B4.sb).mut n1).mut n2', (D4.mut q1d q1c).mut q2d q2c, rem.eraseIdx r.toNat, zs ++ [rem[r.toNat]], (by rw [upd_ne q12]; exact upd_same), upd_same, by rw [List.length_append, hzl]; rfl, ?_⟩
      rw [List.append_assoc]
      exact (List.Perm.append_left zs (perm_erase rem _ _ hy)).trans hp
    · obtain ⟨⟨o4, hσ⟩, sb, D3, rem, zs, h1, h2, hzl, hp⟩ := h
      subst hσ
      rw [Int.toNat_natCast] at hzl D3
      have hmem : ∀ v ∈ zs, v ∈ LABV := fun v hv => hp.subset (List.mem_append_left _ hv)
      have hid : (zs.map strOf).map V.str = zs := by
        rw [List.map_map]
        exact (List.map_congr_left fun v hv => (labv_str v (hmem v hv)).1).trans (List.map_id _)
      have hnd : zs.Nodup := (List.nodup_append.mp (hp.nodup_iff.mpr labv_nd)).1
      refine ⟨_, rfl, hq q2 (zs.map strOf) H' n2' sb D3 (by rw [hid]; exact h2) (by rw [List.length_map]; exact hzl) ?_ fun z hz => ?_⟩
      · rw [← hid] at hnd
        exact List.Pairwise.of_map V.str (fun x y hxy e => hxy (congrArg V.str e)) hnd
      · obtain ⟨v, hv, rfl⟩ := List.mem_map.mp hz
        exact (labv_str v (hmem v hv)).2
def spAtom : Sp := fun vs H Q _ => ∃ d c cells n, vs = [.ref d] ∧ Dr H d c cells n ∧ n ≤ 100000 ∧ ∀ v H', SameBut d H H' → Dr H' d c cells (n + 1) → okAtom v = true → Q v H'
def ATM : List V := [.non, .bl true, .bl false, .int 0, .int 1, .int (0 - 1), .int 255, .int 256, .int (0 - 129), .int (10 ^ (40 : Int).toNat), .str "", .str "a", .str "abc", .str "salt", .str "pepper\n"]
theorem atm_ok : ∀ v ∈ ATM ++ [V.str "a \\ b"], okAtom v = true := by decide +kernel
theorem ok__law_atom (T : Txt P K mg a) : CallO P w K mg base 3 (.ref a._law_atom) spAtom := by
  have G__law_next : CallO P w K mg base 2 (.ref a._law_next) spNext := ok__law_next T
  refine fnO (T.d__law_atom.okX sc__law_atom (fun vs H Q E h => ?_) (fun cdv A outer s H vs Q E hr h => ?_))
  · obtain ⟨d, c, cells, n, rfl, _⟩ := h
    rfl
  · obtain ⟨d, c, cells, n, rfl, D, hn, hq⟩ := h
    refine ⟨_, (pss_cons (ps_set (i := 1) sc__law_atom.nd rfl (Or.inl rfl) (pe_lst (pa_cons pe_non (pa_cons pe_bl (pa_cons pe_bl (pa_cons pe_int (pa_cons pe_int (pa_cons (pe_op op_sub pe_int pe_int) (pa_cons pe_int (pa_cons pe_int (pa_cons (pe_op op_sub pe_int pe_int) (pa_cons (pe_op op_powB pe_int pe_int) (pa_cons pe_str (pa_cons pe_str (pa_cons pe_str (pa_cons pe_str (pa_cons pe_str pa_nil)))))))))))))))))
 (pss_one (ps_ret (pe_ix (ix_list' (K := K) rfl) (pe_op op_catS (pv 1) (pe_lst (pa_cons pe_str pa_nil))) (pe_co G__law_next (hr.mono (by decide)) rfl T.g__law_next T.k__law_next (takes_of rfl rfl rfl rfl) (pa_cons (pv 0) (pa_cons pe_int pa_nil))) (fun _ _ => rfl))))), ?_⟩
    have p3 : CPowB 10 40 := ⟨by decide, by decide +kernel⟩
    refine ⟨_, _, rfl, rfl, _, _, rfl, rfl, _, _, rfl, rfl, p3, (by show 15 ≤ sizeLine; decide), fun q1 n1 => ?_⟩
    have e1 := Ex.new (o := .lst ATM) n1
    refine ⟨_, rfl, (by show 1 ≤ sizeLine; decide), fun q2 n2 => ?_⟩
    have e2 := Ex.new (o := .lst [.str "a \\ b"]) n2
    refine ⟨q1, q2, ATM, [V.str "a \\ b"], rfl, rfl, .inl (.inl (e2 _ _ upd_same)), .inl (.inl upd_same), (by show 16 ≤ sizeLine; decide), fun q3 n3 => ?_⟩
    have e3 := Ex.new (o := .lst (ATM ++ [V.str "a \\ b"])) n3
    have e := (e1.trans e2).trans e3
    have n3' := fresh_back (e1.trans e2) n3
    obtain ⟨kvs, hd⟩ := D.atd
    have q3d : q3 ≠ d := fun z => by rw [z, hd] at n3'; cases n3'
    refine ⟨_, rfl, d, c, cells, n, 16, rfl, D.same e, by omega, by omega, by omega, fun r H4 r0 r1 D4 B4 => ?_⟩
    have h4 : H4 q3 = _ := (B4 q3 q3d).trans upd_same
    obtain ⟨i, rfl⟩ : ∃ i : Nat, r = (i : Int) := ⟨r.toNat, by omega⟩
    have hi : i < (ATM ++ [V.str "a \\ b"]).length := by show i < 16; omega
    have hv := List.getElem?_eq_getElem hi
    exact ⟨q3, _, _, _, rfl, rfl, sq_of h4, (at_nat hi).trans hv, hq _ H4 ((SameBut.of e).trans B4.sb) D4 (atm_ok _ (List.getElem_mem hi))⟩
/-- what stands while a Thing grows -/
structure TI (K : PySem.W.Frag) (a : Adr) (d c : Addr) (cells : List Int) (p : Addr) (x : V) (sd : Addr) (kvs : List (Key × V)) (lr : Addr) (rts : List Addr) (n : Nat) (H : Hp) : Prop where
  dr : Dr H d c cells n
  th : ThAt a H p x sd kvs
  hl : H lr = some (.lst (rts.map V.ref))
  prs : Prs H rts kvs
  ok : KvOk K a H kvs
  len : kvs.length ≤ 20
  ds : sd ≠ d
  lc : lr ≠ c
theorem prs_at {H : Hp} {ts : List Addr} {kvs : List (Key × V)} : Prs H ts kvs → ∀ t ∈ ts, ∃ ys, H t = some (.tup ys) := by
  intro h t ht
  obtain ⟨i, hi⟩ := List.mem_iff_getElem?.mp ht
  have hl := h.len
  have hlt := (List.getElem?_eq_some_iff.mp hi).1
  obtain ⟨t2, h2, h3⟩ := h.get i _ (List.getElem?_eq_getElem (by omega))
  rw [hi] at h2
  cases h2
  exact ⟨_, h3⟩
theorem prs_but {L : List Addr} {H H' : Hp} {ts : List Addr} {kvs : List (Key × V)} (h : Prs H ts kvs) (b : ButL L H H') (hL : ∀ q ∈ L, ∀ ys, H q ≠ some (.tup ys)) : Prs H' ts kvs := h.keep fun t ht o ho => b t o (fun hm => by
  obtain ⟨ys, hy⟩ := prs_at h t ht
  exact hL t hm ys hy) ho
theorem KvOk.but {L : List Addr} {H H' : Hp} {kvs : List (Key × V)} (h : KvOk K a H kvs) (b : ButL L H H') (hL : ∀ q ∈ L, ∀ C dx fs, H q ≠ some (.ins C dx fs)) : KvOk K a H' kvs := ⟨h.nd, h.lab, fun kv hk => (h.val kv hk).but b hL⟩
section
variable {d c : Addr} {cells : List Int} {p : Addr} {x : V} {sd : Addr} {kvs : List (Key × V)} {lr : Addr} {rts : List Addr} {n m : Nat} {H H' : Hp} {v : V} {z : Str}
theorem TI.no (g : TI K a d c cells p x sd kvs lr rts n H) : ∀ q ∈ [d, sd, lr], ∀ C dx fs, H q ≠ some (.ins C dx fs) := fun q hq C dx fs z => by
  obtain ⟨kvs, hd⟩ := g.dr.atd
  simp only [List.mem_cons, List.not_mem_nil, or_false] at hq
  rcases hq with rfl | rfl | rfl
  · rw [hd] at z; cases z
  · rw [g.th.dict] at z; cases z
  · rw [g.hl] at z; cases z
theorem TI.nt (g : TI K a d c cells p x sd kvs lr rts n H) : ∀ q ∈ [d, sd, lr], ∀ ys, H q ≠ some (.tup ys) := fun q hq ys z => by
  obtain ⟨kvs, hd⟩ := g.dr.atd
  simp only [List.mem_cons, List.not_mem_nil, or_false] at hq
  rcases hq with rfl | rfl | rfl
  · rw [hd] at z; cases z
  · rw [g.th.dict] at z; cases z
  · rw [g.hl] at z; cases z
theorem TI.ex (g : TI K a d c cells p x sd kvs lr rts n H) (e : Ex H H') : TI K a d c cells p x sd kvs lr rts n H' :=
  ⟨g.dr.same e, g.th.ex e, e _ _ g.hl, g.prs.ex e, g.ok.ex e, g.len, g.ds, g.lc⟩
theorem TI.draw (g : TI K a d c cells p x sd kvs lr rts n H) (b : SameBut d H H') (D : Dr H' d c cells m) : TI K a d c cells p x sd kvs lr rts m H' := by
  obtain ⟨dvs, hd⟩ := g.dr.atd
  obtain ⟨⟨dx, hp⟩, hs⟩ := g.th
  exact ⟨D, ⟨⟨dx, b _ _ (ne_of hp hd fun z => nomatch z) hp⟩, b _ _ g.ds hs⟩, b _ _ (ne_of g.hl hd fun z => nomatch z) g.hl, prs_but g.prs (ButL.sb b (by simp) : ButL [d, sd, lr] H H') g.nt, g.ok.but (ButL.sb b (by simp) : ButL [d, sd, lr] H H') g.no, g.len, g.ds, g.lc⟩
theorem KvOk.snoc (ok : KvOk K a H kvs) (hv : ValAt K a H v) (hz : labB z = true) (hk : valV kvs (.inr z) = none) : KvOk K a H (kvs ++ [(.inr z, v)]) := by
  refine ⟨?_, fun kv hm => ?_, fun kv hm => ?_⟩
  · have := nd_putK v ok.nd hk
    rw [putK_new v hk] at this
    exact this
  · rcases List.mem_append.mp hm with h | h
    · exact ok.lab kv h
    · rw [List.mem_singleton.mp h]; exact ⟨z, rfl, hz⟩
  · rcases List.mem_append.mp hm with h | h
    · exact ok.val kv h
    · rw [List.mem_singleton.mp h]; exact hv
/-- a field more, and its row -/
theorem TI.grow {t : Addr} (g : TI K a d c cells p x sd kvs lr rts n H) (hv : ValAt K a H v) (hz : labB z = true) (hk : valV kvs (.inr z) = none) (hn : kvs.length < 20) (nt : H t = none) :
    TI K a d c cells p x sd (kvs ++ [(.inr z, v)]) lr (rts ++ [t]) n (upd (upd (upd H sd (.dK (putK kvs (.inr z) v))) t (.tup [.str z, v])) lr (.lst (rts.map V.ref ++ [.ref t]))) := by
  have hk2 := putK_new v hk
  obtain ⟨dvs, hd⟩ := g.dr.atd
  obtain ⟨⟨dx, hp⟩, hs⟩ := id g.th
  have sdl : sd ≠ lr := ne_of hs g.hl fun z => nomatch z
  have tsd : t ≠ sd := fun z => by rw [z, hs] at nt; cases nt
  have tlr : t ≠ lr := fun z => by rw [z, g.hl] at nt; cases nt
  have b : ButL [d, sd, lr] H (upd (upd (upd H sd (.dK (putK kvs (.inr z) v))) t (.tup [.str z, v])) lr (.lst (rts.map V.ref ++ [.ref t]))) := fun q o hq ho => by
    simp only [List.mem_cons, List.not_mem_nil, or_false, not_or] at hq
    have qt : q ≠ t := fun z => by rw [z, nt] at ho; cases ho
    rw [upd_ne hq.2.2, upd_ne qt, upd_ne hq.2.1]
    exact ho
  have td : t ≠ d := fun z => by rw [z, hd] at nt; cases nt
  have tc : t ≠ c := fun z => by rw [z, g.dr.list] at nt; cases nt
  have pl : p ≠ lr := ne_of hp g.hl fun z => nomatch z
  have ps : p ≠ sd := ne_of hp hs fun z => nomatch z
  have pt : p ≠ t := fun z => by rw [← z, hp] at nt; cases nt
  have ld : lr ≠ d := ne_of g.hl hd fun z => nomatch z
  have sc : sd ≠ c := ne_of hs g.dr.list fun z => nomatch z
  refine ⟨((g.dr.mut g.ds sc).mut td tc).mut ld g.lc, ⟨⟨dx, by rw [upd_ne pl, upd_ne pt, upd_ne ps]; exact hp⟩, by rw [upd_ne sdl, upd_ne tsd.symm, upd_same, hk2]⟩, by rw [List.map_append]; exact upd_same, Prs.snoc (by rw [upd_ne tlr]; exact upd_same) (prs_but g.prs b g.nt), (g.ok.snoc hv hz hk).but b g.no, by rw [List.length_append]; exact hn, g.ds, g.lc⟩
end
abbrev thN : List Str := ["draw", "most", "made", "pairs_here", "one", "far"]
abbrev thB (i : Nat) : Stmt := (match (defBody s__law_thing).getD 1 (.Pass ⟨0, 0, 0, 0⟩) with | .For _ _ b _ _ => b | _ => []).getD i (.Pass ⟨0, 0, 0, 0⟩)
abbrev thX (P : Program) (w : World) (K : PySem.W.Frag) (mg : Str → Option Value) (base : Heap) (a : Adr) (cdv : Value) (A : Around) (outer : List Env) (s : Shared) (H : Hp) (E : XK) : Cx := cxOf (L2.CX P w) P w K mg base thN "_law_thing" (defScope s__law_thing) a._law_thing cdv A outer s H E
theorem thg_far (T : Txt P K mg a) {cdv : Value} {A : Around} {outer : List Env} {s : Shared} {H0 : Hp} {E : XK} (hr : Room 14 (A.deeper (envOfC "_law_thing" (defScope s__law_thing) s.heap.objs.size a._law_thing cdv))) (hG : A.guards = some []) :
    ∃ t, PS (thX P w K mg base a cdv A outer s H0 E) (thB 0) t ∧ ∀ (D : Ends) (H : Hp) (d c : Addr) (cells : List Int) (p : Addr) (x : V) (sd : Addr) (kvs : List (Key × V)) (lr : Addr) (rts : List Addr) (n : Nat) (v1 v4 : V) (o5 : Option V), TI K a d c cells p x sd kvs lr rts n H → n ≤ 90000 →
      (∀ v H', SameBut d H H' → TI K a d c cells p x sd kvs lr rts (n + 6) H' → ValAt K a H' v → D.nx [some (.ref d), some v1, some (.ref p), some (.ref lr), some v4, some v] H') →
      t D [some (.ref d), some v1, some (.ref p), some (.ref lr), some v4, o5] H := by
  have G__law_next : CallP P w K mg base 2 (.ref a._law_next) spNext := (ok__law_next T).p
  have G__law_atom : CallP P w K mg base 3 (.ref a._law_atom) spAtom := (ok__law_atom T).p
  have G0_Row := ok_Row (P := P) (w := w) (base := base) (mg := mg) T
  refine ⟨_, (ps_set (i := 5) sc__law_thing.nd rfl (Or.inl rfl) (pe_ifExp (pt_cmpR op_eq (pe_ca G__law_next (hr.mono (by decide)) hG rfl T.g__law_next T.k__law_next (takes_of rfl rfl rfl rfl) (pa_cons (pv 0) (pa_cons pe_int pa_nil))) pe_int (nomark _)) (pv 2) (pe_ifExp (pt_cmpR op_eq (pe_ca G__law_next (hr.mono (by decide)) hG rfl T.g__law_next T.k__law_next (takes_of rfl rfl rfl rfl) (pa_cons (pv 0) (pa_cons pe_int pa_nil))) pe_int (nomark _)) (pe_cx0 G0_Row (hr.mono (by decide)) rfl T.g_Row T.k_Row (takes_of rfl rfl rfl rfl) pk_nil) (pe_ca G__law_atom (hr.mono (by decide)) hG rfl T.g__law_atom T.k__law_atom (takes_of rfl rfl rfl rfl) (pa_cons (pv 0) pa_nil))))), ?_⟩
  intro D H d c cells p x sd kvs lr rts n v1 v4 o5 g hn k
  refine ⟨_, rfl, d, c, cells, n, 5, rfl, g.dr, by omega, by omega, by omega, fun r H1 r0 r1 D1 B1 => ⟨rfl, _, rfl, ifd (fun h0 => ?_) fun h0 => ?_⟩⟩
  · have g1 := g.draw B1.sb D1
    exact ⟨_, rfl, k _ H1 B1.sb (g.draw B1.sb (D1.mono (by omega))) (.inr g1.th.node)⟩
  · refine ⟨_, rfl, d, c, cells, n + 1, 4, rfl, D1, by omega, by omega, by omega, fun r2 H2 s0 s1 D2 B2 => ⟨rfl, _, rfl, ifd (fun h1 => ?_) fun h1 => ?_⟩⟩
    · refine ⟨rfl, by decide, .inl ⟨(fun x h => nomatch h), fun q dx l H3 nq nl e3 hq hl => ?_⟩⟩
      have b3 := (B1.sb.trans B2.sb).trans (SameBut.of e3)
      exact k _ H3 b3 (g.draw b3 ((D2.same e3).mono (by omega))) (.inr ⟨q, a.Row, dx, _, rfl, hq, by unfold NodeC; simp⟩)
    · refine ⟨_, rfl, d, c, cells, n + 2, rfl, D2, by omega, fun v H3 sb3 D3 ok => ?_⟩
      have b3 := (B1.sb.trans B2.sb).trans sb3
      exact k v H3 b3 (g.draw b3 (D3.mono (by omega))) (.inl ok)

end
end BJL

namespace BJL
open PySem PySem.Spec PyProof.Rows L2 BJ
section
variable {P : Program} {w : World} {K : PySem.W.Frag} {mg : Str → Option Value} {base : Heap} {a : Adr}
open Evl
theorem TI.mono {d c : Addr} {cells : List Int} {p : Addr} {x : V} {sd : Addr} {kvs : List (Key × V)} {lr : Addr} {rts : List Addr} {n m : Nat} {H : Hp} (g : TI K a d c cells p x sd kvs lr rts n H) (h : n ≤ m) : TI K a d c cells p x sd kvs lr rts m H := ⟨g.dr.mono h, g.th, g.hl, g.prs, g.ok, g.len, g.ds, g.lc⟩
theorem key_new {zs : List Str} {kvs : List (Key × V)} {i : Nat} {z : Str} (nd : zs.Nodup) (hz : zs[i]? = some z) (hkeys : kvs.map (·.1) = (zs.take i).map Sum.inr) : valV kvs (.inr z) = none := by
  cases hv : valV kvs (.inr z) with
  | none => rfl
  | some v =>
    exfalso
    have hm := valV_in hv
    rw [hkeys] at hm
    obtain ⟨y, hy, hyz⟩ := List.mem_map.mp hm
    cases hyz
    obtain ⟨j, hj⟩ := List.mem_iff_getElem?.mp hy
    have hjl := (List.getElem?_eq_some_iff.mp hj).1
    have hil := (List.getElem?_eq_some_iff.mp hz).1
    rw [List.length_take] at hjl
    rw [List.getElem?_take_of_lt (by omega)] at hj
    have := (List.getElem?_inj (by omega) nd).mp (hj.trans hz.symm)
    omega
theorem keys_len {zs : List Str} {kvs : List (Key × V)} {i : Nat} (hi : i ≤ zs.length) (hkeys : kvs.map (·.1) = (zs.take i).map Sum.inr) : kvs.length = i := by
  have := congrArg List.length hkeys
  rw [List.length_map, List.length_map, List.length_take] at this
  omega
theorem item_ok : thingV (.str "shop.item") = true ∧ ("shop.item" : Str).length ≤ 100 := by decide +kernel
theorem str_fits {z : Str} (h : z.length ≤ 100) : Fits (.str z) := fun y e => by
  cases e
  rw [sizeLine_eq]
  omega
def spThg (K : PySem.W.Frag) (a : Adr) : Sp := fun vs H Q _ => ∃ d c cells n, vs = [.ref d, .int 5] ∧ Dr H d c cells n ∧ n ≤ 80000 ∧ ∀ (u p sd lr : Addr) (rts : List Addr) (kvs : List (Key × V)) (H' : Hp), SameBut d H H' → H sd = none → TI K a d c cells p (.str "shop.item") sd kvs lr rts (n + 40) H' → H' u = some (.tup [.ref p, .ref lr]) → kvs.length ≤ 5 → (∀ kv ∈ kvs, ∃ z ∈ LABS, kv.1 = .inr z) → Q (.ref u) H'
theorem ok__law_thing (T : Txt P K mg a) : CallP P w K mg base 15 (.ref a._law_thing) (spThg K a) := by
  have G__law_next : CallP P w K mg base 2 (.ref a._law_next) spNext := (ok__law_next T).p
  have G__law_labels : CallP P w K mg base 3 (.ref a._law_labels) spLabs := (ok__law_labels T).p
  have G_Thing := ok_Thing (P := P) (w := w) (base := base) (mg := mg) T
  refine T.d__law_thing.ok sc__law_thing (fun vs H Q E h => ?_) (fun cdv A outer s H vs Q E hr hG h => ?_)
  · obtain ⟨d, c, cells, n, rfl, _⟩ := h
    rfl
  · obtain ⟨d, c, cells, n, rfl, D, hn, hq⟩ := h
    obtain ⟨tf, pf, uf⟩ := thg_far (P := P) (w := w) (mg := mg) (base := base) (outer := outer) (s := s) (H0 := H) (E := E) T hr hG
    refine ⟨_, (pss_cons (ps_par (i := 2) (j := 3) rfl sc__law_thing.nd rfl rfl (by decide) rfl rfl (pa_cons (pe_cx G_Thing (hr.mono (by decide)) rfl T.g_Thing T.k_Thing (takes_of rfl rfl rfl rfl) (pa_cons pe_str pa_nil) pk_nil) (pa_cons (pe_lst pa_nil) pa_nil)) (by rfl))
 (pss_cons (ps_for (passes_of rfl) rfl (pi_list (pe_ca G__law_labels (hr.mono (by decide)) hG rfl T.g__law_labels T.k__law_labels (takes_of rfl rfl rfl rfl) (pa_cons (pv 0) (pa_cons (pe_ca G__law_next (hr.mono (by decide)) hG rfl T.g__law_next T.k__law_next (takes_of rfl rfl rfl rfl) (pa_cons (pv 0) (pa_cons (pe_op op_add (pv 1) pe_int) pa_nil))) pa_nil)))) (pg_name (i := 4) sc__law_thing.nd rfl (Or.inl rfl))
 (pss_cons pf
 (pss_cons (ps_expr (pe_me (pv 2) (takes_of rfl rfl rfl rfl) (pa_cons (pv 4) (pa_cons (pv 5) pa_nil)) pk_nil))
 (pss_one (ps_expr (pe_bm PySem.F.plainAttrs_list PySem.F.slot_list_append PySem.F.type_list_append mt_append (pv 3) (pa_cons (pe_tup (pa_cons (pv 4) (pa_cons (pv 5) pa_nil))) pa_nil)))))))
 (pss_one (ps_ret (pe_tup (pa_cons (pv 2) (pa_cons (pv 3) pa_nil))))))), ?_⟩
    refine ⟨.str "shop.item", rfl, rfl, false, kn_dz T (.str _), str_fits item_ok.2, .inl ⟨item_ok.1, fun p sd H1 np nsd e1 th => ⟨Nat.zero_le _, fun lr nlr => ⟨_, _, rfl, ?_⟩⟩⟩⟩
    have e2 := Ex.new (o := .lst []) nlr
    have nlr0 := fresh_back e1 nlr
    have hlr := laid nlr (.lst [])
    obtain ⟨dvs, hd⟩ := D.atd
    have lrc : lr ≠ c := fun z => by rw [z, D.list] at nlr0; cases nlr0
    have sdd : sd ≠ d := fun z => by rw [z, hd] at nsd; cases nsd
    have g0 : TI K a d c cells p (.str "shop.item") sd [] lr [] n (upd H1 lr (.lst [])) := ⟨D.same (e1.trans e2), th.ex e2, hlr, .nil, .nil, Nat.zero_le _, sdd, lrc⟩
    have sb0 : SameBut d H (upd H1 lr (.lst [])) := SameBut.of (e1.trans e2)
    generalize upd H1 lr _ = H2 at g0 sb0 ⊢
    refine ⟨_, rfl, _, rfl, _, rfl, _, _, rfl, rfl, d, c, cells, n, _, rfl, g0.dr, by omega, by omega, by omega, fun r H3 r0 r1 D3 B3 => ?_⟩
    obtain ⟨m, hm, rfl⟩ : ∃ m : Nat, m < 6 ∧ r = (m : Int) := ⟨r.toNat, by omega, by omega⟩
    have g3 := g0.draw B3.sb D3
    refine ⟨d, c, cells, n + 1, m, rfl, D3, by omega, by omega, fun l zs H4 nl sb4 D4 hl hlen nd hmem => ⟨l, rfl, ⟨_, sq_of hl⟩, ?_⟩⟩
    have g4 := g3.draw sb4 D4
    have llr : l ≠ lr := fun z => by rw [z, g3.hl] at nl; cases nl
    have lsd : l ≠ sd := fun z => by rw [z, g3.th.dict] at nl; cases nl
    refine for_list (K := K) (a := l) (xs := zs.map V.str) (fun i σ H' => (∃ o4 o5, σ = [some (.ref d), some (.int 5), some (.ref p), some (.ref lr), o4, o5]) ∧ SameBut d H H' ∧ H' l = some (.lst (zs.map V.str)) ∧ ∃ kvs rts, TI K a d c cells p (.str "shop.item") sd kvs lr rts (n + 6 + 6 * i) H' ∧ kvs.map (·.1) = (zs.take i).map Sum.inr) ⟨⟨_, _, rfl⟩, (sb0.trans B3.sb).trans sb4, hl, [], [], g4.mono (by omega), rfl⟩ (fun i σ H' _ h => sq_of h.2.2.1) (fun i x σ H' hx h => ?_) fun σ H' h => ?_
    · obtain ⟨⟨o4, o5, hσ⟩, sb, hl5, kvs, rts, g, hkeys⟩ := h
      subst hσ
      rw [List.getElem?_map] at hx
      obtain ⟨z, hz, rfl⟩ := Option.map_eq_some_iff.mp hx
      have hil := (List.getElem?_eq_some_iff.mp hz).1
      have hlab := labs_lab z (hmem z (List.mem_of_getElem? hz))
      have hks := (lab_lay hlab).2
      have hnew := key_new nd hz hkeys
      have hkl := keys_len (by omega) hkeys
      refine uf _ _ d c cells p _ sd kvs lr rts _ _ _ _ g (by omega) fun v H6 sb6 g6 hv => ?_
      obtain ⟨dx, hp6⟩ := id g6.th.at_
      have nolk : ([("called", V.str "shop.item"), ("settings", V.ref sd)] : List (Str × V)).lookup ("set_field" : Str) = none := rfl
      refine ⟨_, rfl, p, a.Thing, dx, a.Thing_set_field, _, 10, _, rfl, hp6, nolk, T.c_Thing, T.p_Thing_set_field, ok_set_field T, hr.mono (by decide), _, rfl, _, rfl, rfl, p, _, sd, kvs, .str z, v, false, rfl, g6.th, by omega, kn_dz T (.str z), key_fits hks, .inr (.inr ⟨z, rfl, hks, hv.good T, ?_⟩)⟩
      have lrsd : lr ≠ sd := ne_of g6.hl g6.th.dict fun z => nomatch z
      have hl7 : (upd H6 sd (.dK (putK kvs (.inr z) v))) lr = some (.lst (rts.map V.ref)) := by rw [upd_ne lrsd]; exact g6.hl
      refine ⟨_, rfl, .inl ⟨rfl, _, sq_of hl7⟩, _, rfl, _, rfl, (by show 2 ≤ sizeLine; decide), fun t nt => ?_⟩
      have tsd : t ≠ sd := fun z => by rw [z, upd_same] at nt; cases nt
      have nt0 : H6 t = none := by rw [upd_ne tsd] at nt; exact nt
      have tlr : t ≠ lr := fun z => by rw [z, g6.hl] at nt0; cases nt0
      have hrl := Prs.len g6.prs
      refine ⟨lr, rts.map V.ref, .ref t, rfl, rfl, (by rw [upd_ne tlr.symm]; exact hl7), (by rw [List.length_map, sizeLine_eq]; omega), ?_⟩
      have gg := g6.grow hv hlab hnew (by omega) nt0
      obtain ⟨dv6, hd6⟩ := g6.dr.atd
      have td : t ≠ d := fun z => by rw [z, hd6] at nt0; cases nt0
      have sb' := sb.trans sb6
      have ntH : H t = none := by
        cases e : H t with
        | none => rfl
        | some o => rw [sb' t o td e] at nt0; cases nt0
      have l6 : H6 l = some (.lst (zs.map V.str)) := sb6 l _ (ne_of hl5 (g.dr.atd).choose_spec fun z => nomatch z) hl5
      have lt : l ≠ t := fun z => by rw [z, nt0] at l6; cases l6
      refine ⟨⟨_, _, rfl⟩, ((sb'.mut nsd).mut ntH).mut nlr0, (by rw [upd_ne llr, upd_ne lt, upd_ne lsd]; exact l6), _, _, gg.mono (by omega), ?_⟩
      rw [List.map_append, hkeys, List.take_add_one, hz, List.map_append]
      rfl
    · obtain ⟨⟨o4, o5, hσ⟩, sb, hl5, kvs, rts, g, hkeys⟩ := h
      subst hσ
      rw [List.length_map] at g hkeys
      have hkl := keys_len (Nat.le_refl _) hkeys
      refine ⟨_, rfl, _, rfl, (by show 2 ≤ sizeLine; decide), fun u nu => ?_⟩
      have eu := Ex.new (o := .tup [.ref p, .ref lr]) nu
      exact hq u p sd lr rts kvs _ (sb.trans (SameBut.of eu)) nsd ((g.ex eu).mono (by omega)) upd_same (by omega) fun kv hkv => by
        have hm : kv.1 ∈ kvs.map (·.1) := List.mem_map_of_mem hkv
        rw [hkeys] at hm
        obtain ⟨z, hz, hzk⟩ := List.mem_map.mp hm
        exact ⟨z, hmem z (List.mem_of_mem_take hz), hzk.symm⟩
theorem rv_neS {H : Hp} (z : Str) : RV rNe (.str z) (.str z) H (.bl false) := fun H1 e Q k => ⟨rfl, by rw [decide_eq_true rfl]; exact k H1 (Ex.refl _)⟩
theorem nodeC_ne (T : Txt P K mg a) {C : Addr} (h : NodeC a C) : IdNe K C := by
  have hc := (nodeC_cls T h).2.1
  rcases h with rfl | rfl | rfl
  · exact ⟨hc, T.ne_Row⟩
  · exact ⟨hc, T.ne_Book⟩
  · exact ⟨hc, T.ne_Thing⟩
/-- two lists of pairs, alike -/
def spLike (K : PySem.W.Frag) (a : Adr) : Sp := fun vs H Q _ => ∃ l1 l2 ts us kvs, vs = [.ref l1, .ref l2] ∧ SqL K H l1 (ts.map V.ref) ∧ SqL K H l2 (us.map V.ref) ∧ Prs H ts kvs ∧ Prs H us kvs ∧ kvs.length ≤ 100 ∧ (∀ kv ∈ kvs, (∃ z, kv.1 = .inr z) ∧ ValAt K a H kv.2) ∧ ∀ H', Ex H H' → Q (.bl true) H'
def likeT (K : PySem.W.Frag) (a : Adr) : TS := tSeq (tAsg (tOrV (tCB (rIsG K) (tCons (tVar 3) (tCons (tC (.ref a.Node)) tNil))) (tCB (rIsG K) (tCons (tVar 5) (tCons (tC (.ref a.Node)) tNil)))) (gName 6))
  (tIfS (tOr (tTest (tOp rNe (tVar 2) (tVar 4))) (tIfT (tB (tVar 6)) (tTest (tOp (rNeI K) (tVar 3) (tVar 5))) (tTest (tOp rNe (tCB (rReprZ K) (tCons (tVar 3) tNil)) (tCB (rReprZ K) (tCons (tVar 5) tNil)))))) (tRet (tC (.bl false))) tNext)
theorem ok__law_like (T : Txt P K mg a) : CallP P w K mg base 2 (.ref a._law_like) (spLike K a) := by
  refine T.d__law_like.ok sc__law_like (fun vs H Q E h => ?_) (fun cdv A outer s H vs Q E hr hG h => ?_)
  · obtain ⟨l1, l2, ts, us, kvs, rfl, _⟩ := h
    rfl
  · obtain ⟨l1, l2, ts, us, kvs, rfl, h1, h2, P1, P2, hl, hok, hq⟩ := h
    have hu := hu_of hr
    refine ⟨_, (pss_cons (ps_if (pt_cmpR op_ne (pe_callB call_len_seq (by rfl) T.b_len (by decide +kernel) (pa_cons (pv 0) pa_nil)) (pe_callB call_len_seq (by rfl) T.b_len (by decide +kernel) (pa_cons (pv 1) pa_nil)) (nomark _))
 (pss_one (ps_ret pe_bl))
 pss_nil)
 (pss_cons (ps_for (passes_of rfl) rfl (pi_zip (by rfl) T.b_zip (pa_cons (pv 0) (pa_cons (pv 1) pa_nil))) (pg_tup rfl (pgs_cons (pg_tup rfl (pgs_cons (pg_name (i := 2) sc__law_like.nd rfl (Or.inl rfl)) (pgs_cons (pg_name (i := 3) sc__law_like.nd rfl (Or.inl rfl)) pgs_nil))) (pgs_cons (pg_tup rfl (pgs_cons (pg_name (i := 4) sc__law_like.nd rfl (Or.inl rfl)) (pgs_cons (pg_name (i := 5) sc__law_like.nd rfl (Or.inl rfl)) pgs_nil))) pgs_nil)))
 (pss_cons (ps_set (i := 6) sc__law_like.nd rfl (Or.inl rfl) (pe_or (pe_callB (call_isG' (K := K) rfl) (by rfl) T.b_isinstance (by decide +kernel) (pa_cons (pv 3) (pa_cons (pe_glob (v := .ref a.Node) (by rfl) T.g_Node rfl) pa_nil))) (pe_one (pe_callB (call_isG' (K := K) rfl) (by rfl) T.b_isinstance (by decide +kernel) (pa_cons (pv 5) (pa_cons (pe_glob (v := .ref a.Node) (by rfl) T.g_Node rfl) pa_nil))))))
 (pss_one (ps_if (PW.pt (pw_or (pt_cmpR op_ne (pv 2) (pv 4) (nomark _)) (pw_or1 (pt_ifT (pt_val (pv 6)) (pt_cmpR (op_neI (K := K) rfl hr.units) (pv 3) (pv 5) (nomark _)) (pt_cmpR op_ne (pe_callB (call_reprZ (K := K) rfl hr hG) (by rfl) T.b_repr (by decide +kernel) (pa_cons (pv 3) pa_nil)) (pe_callB (call_reprZ (K := K) rfl hr hG) (by rfl) T.b_repr (by decide +kernel) (pa_cons (pv 5) pa_nil)) (nomark _))))))
 (pss_one (ps_ret pe_bl))
 pss_nil))))
 (pss_one (ps_ret pe_bl)))), ?_⟩
    have n1 := Prs.len P1
    have n2 := Prs.len P2
    refine q_when (et_test (ev_op (ev_len (ev_var rfl) h1) (ev_len (ev_var rfl) h2) (rv_neI (by rw [List.length_map, List.length_map, n1, n2])))) (fun z => nomatch z) fun _ H1 e1 => ?_
    refine ⟨_, rfl, _, rfl, l1, l2, _, _, rfl, ex_l e1 h1, ex_l e1 h2, RZ.for_zipL (K := K) (a := l1) (b := l2) (xs := ts.map V.ref) (ys := us.map V.ref) (by rw [List.length_map, List.length_map, n1, n2]) (fun i σ H' => (∃ o2 o3 o4 o5 o6, σ = [some (.ref l1), some (.ref l2), o2, o3, o4, o5, o6]) ∧ Ex H H') ⟨⟨_, _, _, _, _, rfl⟩, e1⟩ (fun i σ H' h => ⟨ex_l h.2 h1, ex_l h.2 h2⟩) (fun i x y U σ H' hx hy h nU => ?_) fun σ H' h => ?_⟩
    · obtain ⟨⟨o2, o3, o4, o5, o6, hσ⟩, e⟩ := h
      subst hσ
      rw [List.getElem?_map] at hx hy
      obtain ⟨t1, ht1, rfl⟩ := Option.map_eq_some_iff.mp hx
      obtain ⟨t2, ht2, rfl⟩ := Option.map_eq_some_iff.mp hy
      have hik : i < kvs.length := by have := (List.getElem?_eq_some_iff.mp ht1).1; omega
      have hkv : kvs[i]? = some kvs[i] := List.getElem?_eq_getElem hik
      obtain ⟨s1, q1, k1⟩ := Prs.get P1 i _ hkv
      obtain ⟨s2, q2, k2⟩ := Prs.get P2 i _ hkv
      rw [ht1] at q1
      rw [ht2] at q2
      cases q1
      cases q2
      obtain ⟨⟨z, hz⟩, hv⟩ := hok _ (List.getElem_mem hik)
      generalize kvs[i] = kv at *
      obtain ⟨key, v⟩ := kv
      dsimp only at hz hv k1 k2
      subst hz
      have eU := e.trans (Ex.new (o := .tup [V.ref t1, V.ref t2]) nU)
      refine ⟨U, _, rfl, st_of upd_same, rfl, _, _, rfl, t1, _, rfl, st_of (eU _ _ k1), rfl, _, _, rfl, _, _, rfl, rfl, _, _, rfl, t2, _, rfl, st_of (eU _ _ k2), rfl, _, _, rfl, _, _, rfl, rfl, rfl, ?_⟩
      have hv' := hv.ex eU
      generalize upd H' U _ = H5 at eU hv' ⊢
      have key : ∀ b : Bool, ∀ t, TyX K H5 v t → PySem.W.kitOne K t (.ref a.Node) = some b → (b = true → ∃ p C dx fs, v = .ref p ∧ H5 p = some (.ins C dx fs) ∧ NodeC a C) → (b = false → ∃ d, Dz K H5 v d ∧ ShowsZ d) → likeT K a { nx := fun σ' H' => (∃ o2 o3 o4 o5 o6, σ' = [some (.ref l1), some (.ref l2), o2, o3, o4, o5, o6]) ∧ Ex H H', rt := Q, bk := fun σ' H' => tRet (tC (.bl true)) { nx := fun _ H' => Q .non H', rt := Q } σ' H', ct := fun σ' H' => (∃ o2 o3 o4 o5 o6, σ' = [some (.ref l1), some (.ref l2), o2, o3, o4, o5, o6]) ∧ Ex H H' } [some (.ref l1), some (.ref l2), some (.str z), some v, some (.str z), some v, o6] H5 := fun b t ty kt hnode hatom => by
        unfold likeT
        refine q_asg (v := .bl (b || b)) (ev_orV (a := b) (b := b) (ev_cb (ea_cons (ev_var rfl) (ea_cons ev_c ea_nil)) (rc_isN ty kt)) fun _ => ev_cb (ea_cons (ev_var rfl) (ea_cons ev_c ea_nil)) (rc_isN ty kt)) fun H6 e6 => ?_
        refine s_when (b := false || false) (et_or (et_test (ev_op (ev_var rfl) (ev_var rfl) (rv_neS z))) fun _ => et_ifT (k := b || b) (et_B (ev_var rfl)) (fun hb => ?_) fun hb => ?_) (fun z => nomatch z) fun _ H7 e7 => ⟨⟨_, _, _, _, _, rfl⟩, (eU.trans e6).trans e7⟩
        · obtain ⟨p, C, dx, fs, rfl, hp, hC⟩ := hnode (by cases b <;> first | rfl | cases hb)
          exact et_test (ev_op (ev_var rfl) (ev_var rfl) fun H8 e8 Q8 k8 => ⟨p, C, dx, fs, rfl, rfl, (e6.trans e8) _ _ hp, nodeC_ne T hC, k8 H8 (Ex.refl _)⟩)
        · obtain ⟨dd, hd, hs⟩ := hatom (by cases b <;> first | rfl | cases hb)
          exact et_test (ev_op (ev_cb (ea_cons (ev_var rfl) ea_nil) fun H8 e8 Q8 k8 => ⟨v, dd, rfl, dz_ex (e6.trans e8) hd, hs, k8 H8 (Ex.refl _)⟩) (ev_cb (ea_cons (ev_var rfl) ea_nil) fun H8 e8 Q8 k8 => ⟨v, dd, rfl, dz_ex (e6.trans e8) hd, hs, k8 H8 (Ex.refl _)⟩) (rv_neS _))
      rcases hv' with h | h
      · obtain ⟨dd, d1, d2, _, _, _⟩ := okAtom_is h
        obtain ⟨t, ty, _, _, _, k5⟩ := kn_dz T (atom_dz (K := K) d1 H5)
        exact key false t ty k5 (fun z => nomatch z) fun _ => ⟨dd, atom_dz d1 H5, ok_z d2⟩
      · obtain ⟨p, C, dx, fs, rfl, hp, hC⟩ := h
        exact key true _ (ty_node T hp hC) (nodeC_kit T hC).2.2.2.2 (fun _ => ⟨p, C, dx, fs, rfl, hp, hC⟩) fun z => nomatch z
    · obtain ⟨⟨o2, o3, o4, o5, o6, hσ⟩, e⟩ := h
      exact hq H' e

end
end BJL

namespace BJL
open PySem PySem.Spec PyProof.Rows L2 BJ
section
variable {P : Program} {w : World} {K : PySem.W.Frag} {mg : Str → Option Value} {base : Heap} {a : Adr}
open Evl
abbrev frN : List Str := ["draw", "words", "items", "hook", "first_word", "next_word", "one", "other", "due", "at"]
abbrev frB (i : Nat) : Stmt := (defBody s__law_fields_right).getD i (.Pass ⟨0, 0, 0, 0⟩)
abbrev frX (P : Program) (w : World) (K : PySem.W.Frag) (mg : Str → Option Value) (base : Heap) (a : Adr) (cdv : Value) (A : Around) (outer : List Env) (s : Shared) (H : Hp) (E : XK) : Cx := cxOf (L2.CX P w) P w K mg base frN "_law_fields_right" (defScope s__law_fields_right) a._law_fields_right cdv A outer s H E
structure FI (K : PySem.W.Frag) (a : Adr) (wl il : Addr) (zs : List Str) (ws : List V) (H : Hp) : Prop where
  w : H wl = some (.lst (zs.map V.str))
  i : H il = some (.lst ws)
  l : zs.length = ws.length
  n : zs.Nodup
  k : zs.length ≤ 3
  m : ∀ z ∈ zs, z ∈ LABS
  v : ∀ x ∈ ws, ValAt K a H x
theorem FI.ex {wl il : Addr} {zs : List Str} {ws : List V} {H H' : Hp} (f : FI K a wl il zs ws H) (e : Ex H H') : FI K a wl il zs ws H' := ⟨e _ _ f.w, e _ _ f.i, f.l, f.n, f.k, f.m, fun x hx => (f.v x hx).ex e⟩
theorem ab_ok : thingV (.str "a.b") = true ∧ ("a.b" : Str).length ≤ 100 := by decide +kernel
theorem rv_eqI {H : Hp} {i j : Int} {b : Bool} (h : decide (i = j) = b) : RV rEq (.int i) (.int j) H (.bl b) := fun H1 e Q k => ⟨rfl, by
  have : decide (V.int i = V.int j) = b := by
    rw [← h]
    by_cases hij : i = j
    · rw [hij]; simp
    · rw [decide_eq_false hij, decide_eq_false]; intro z; exact hij (V.int.inj z)
  rw [this]; exact k H1 (Ex.refl _)⟩
theorem cut_two (x y : V) (r : List V) (h : r.length ≤ 1) : cutV (x :: y :: r) none (some 2) = [x, y] := by
  rcases r with _ | ⟨z, _ | ⟨_, _⟩⟩
  · rfl
  · rfl
  · simp at h
theorem len_eq {te : TE} {σ : L2.St} {H : Hp} {p : Addr} {xs : List V} {n : Int} {b : Bool} (h : Ev te σ H (.ref p)) (hp : H p = some (.lst xs)) (hb : decide ((xs.length : Int) = n) = b) : EvT (tTest (tOp rEq (tCB (rLenS K) (tCons te tNil)) (tC (.int n)))) σ H b :=
  et_test (ev_op (ev_len h (sq_of hp)) ev_c (rv_eqI hb))
theorem fr_hook (T : Txt P K mg a) {cdv : Value} {A : Around} {outer : List Env} {s : Shared} {H0 : Hp} {E : XK} (hr : Room 16 (A.deeper (envOfC "_law_fields_right" (defScope s__law_fields_right) s.heap.objs.size a._law_fields_right cdv))) (hG : A.guards = some []) :
    ∃ t, PS (frX P w K mg base a cdv A outer s H0 E) (frB 0) t ∧ ∀ (D : Ends) (H : Hp) (v0 : V) (wl il : Addr) (zs : List Str) (ws : List V), FI K a wl il zs ws H →
      (∀ p dx t H' o4 o5, Ex H H' → H' p = some (.ins a.Fields dx [("new_brand", .str "a.b"), ("label_row", .ref t)]) → SqT K H' t (zs.map V.str) → D.nx [some v0, some (.ref wl), some (.ref il), some (.ref p), o4, o5, none, none, none, none] H') →
      t D [some v0, some (.ref wl), some (.ref il), none, none, none, none, none, none, none] H := by
  have G_Fields := ok_Fields (P := P) (w := w) (base := base) (mg := mg) T
  refine ⟨_, (ps_if (pt_cmpR op_eq (pe_callB call_len_seq (by rfl) T.b_len (by decide +kernel) (pa_cons (pv 1) pa_nil)) pe_int (nomark _))
 (pss_one (ps_set (i := 3) sc__law_fields_right.nd rfl (Or.inl rfl) (pe_cx G_Fields (hr.mono (by decide)) rfl T.g_Fields T.k_Fields (takes_of rfl rfl rfl rfl) (pa_cons pe_str pa_nil) pk_nil)))
 (pss_one (ps_if (pt_cmpR op_eq (pe_callB call_len_seq (by rfl) T.b_len (by decide +kernel) (pa_cons (pv 1) pa_nil)) pe_int (nomark _))
 (pss_one (ps_set (i := 3) sc__law_fields_right.nd rfl (Or.inl rfl) (pe_cx G_Fields (hr.mono (by decide)) rfl T.g_Fields T.k_Fields (takes_of rfl rfl rfl rfl) (pa_cons pe_str (pa_cons (pe_ix (ix_list' (K := K) rfl) (pv 1) pe_int (fun _ _ => rfl)) pa_nil)) pk_nil)))
 (pss_cons (ps_asg (pe_slice sl_list (pv 1) po_none (po_some pe_int)) (pg_lst rfl (pgs_cons (pg_name (i := 4) sc__law_fields_right.nd rfl (Or.inl rfl)) (pgs_cons (pg_name (i := 5) sc__law_fields_right.nd rfl (Or.inl rfl)) pgs_nil))) (by rfl))
 (pss_cons (ps_set (i := 3) sc__law_fields_right.nd rfl (Or.inl rfl) (pe_cx G_Fields (hr.mono (by decide)) rfl T.g_Fields T.k_Fields (takes_of rfl rfl rfl rfl) (pa_cons pe_str (pa_cons (pv 4) (pa_cons (pv 5) pa_nil))) pk_nil))
 (pss_one (ps_if (pt_cmpR op_eq (pe_callB call_len_seq (by rfl) T.b_len (by decide +kernel) (pa_cons (pv 1) pa_nil)) pe_int (nomark _))
 (pss_one (ps_set (i := 3) sc__law_fields_right.nd rfl (Or.inl rfl) (pe_cx G_Fields (hr.mono (by decide)) rfl T.g_Fields T.k_Fields (takes_of rfl rfl rfl rfl) (pa_cons pe_str (pa_cons (pv 4) (pa_cons (pv 5) (pa_cons (pe_ix (ix_list' (K := K) rfl) (pv 1) pe_int (fun _ _ => rfl)) pa_nil)))) pk_nil)))
 pss_nil))))))), ?_⟩
  intro D H v0 wl il zs ws f k
  have lk : ∀ z ∈ zs, keyS (.str z) = true := fun z hz => (lab_lay (labs_lab z (f.m z hz))).2
  obtain ⟨hw, _, _, hn, hk, _, _⟩ := f
  have kn : ∀ H, Kn K a H (.str "a.b") false := fun H => kn_dz T (.str _)
  rcases zs with _ | ⟨z1, _ | ⟨z2, r⟩⟩
  · refine s_if (b := true) (len_eq (ev_var rfl) hw (by decide)) (fun _ H1 e1 => ?_) fun z => nomatch z
    exact ⟨.str "a.b", false, [], rfl, rfl, kn _, str_fits ab_ok.2, ab_ok.1, hn, by decide, lk, fun p dx t H2 np e2 hp ht => k p dx t H2 _ _ (e1.trans e2) hp ht⟩
  · refine s_if (b := false) (len_eq (ev_var rfl) hw (by simp)) (fun z => nomatch z) fun _ H1 e1 => ?_
    refine s_if (b := true) (len_eq (ev_var rfl) (e1 _ _ hw) (by simp)) (fun _ H2 e2 => ?_) fun z => nomatch z
    exact ⟨_, rfl, wl, _, 0, .str z1, rfl, rfl, sq_of ((e1.trans e2) _ _ hw), rfl, .str "a.b", false, [z1], rfl, rfl, kn _, str_fits ab_ok.2, ab_ok.1, hn, (by show 1 ≤ 20; decide), lk, fun p dx t H3 np e3 hp ht => k p dx t H3 _ _ ((e1.trans e2).trans e3) hp ht⟩
  · have hr1 : r.length ≤ 1 := by simp at hk; omega
    refine s_if (b := false) (len_eq (ev_var rfl) hw (by simp; omega)) (fun z => nomatch z) fun _ H1 e1 => ?_
    refine s_if (b := false) (len_eq (ev_var rfl) (e1 _ _ hw) (by simp; omega)) (fun z => nomatch z) fun _ H2 e2 => ?_
    refine ⟨_, rfl, _, rfl, wl, _, rfl, sq_of ((e1.trans e2) _ _ hw), fun q nq => ?_⟩
    have hcut : cutV ((z1 :: z2 :: r).map V.str) none (some 2) = [.str z1, .str z2] := cut_two _ _ _ (by rw [List.length_map]; exact hr1)
    rw [hcut]
    have eq := Ex.new (o := .lst [.str z1, .str z2]) nq
    have nd2 : ([z1, z2] : List Str).Nodup := by
      rw [List.nodup_cons, List.nodup_cons] at hn
      simp only [List.mem_cons, not_or] at hn
      simp [hn.1.1]
    refine ⟨q, _, rfl, sq_of upd_same, rfl, _, _, rfl, _, _, rfl, rfl, ?_⟩
    refine ⟨_, rfl, _, rfl, .str "a.b", false, [z1, z2], rfl, rfl, kn _, str_fits ab_ok.2, ab_ok.1, nd2, (by show 2 ≤ 20; decide), (fun z hz => lk z (by simp only [List.mem_cons, List.not_mem_nil, or_false] at hz; rcases hz with rfl | rfl <;> simp)), fun p dx t H3 np e3 hp ht => ?_⟩
    have e03 := ((e1.trans e2).trans eq).trans e3
    rcases r with _ | ⟨z3, r⟩
    · exact s_when (b := false) (len_eq (ev_var rfl) (e03 _ _ hw) (by simp)) (fun z => nomatch z) fun _ H4 e4 => k p dx t H4 _ _ (e03.trans e4) (e4 _ _ hp) (ex_t e4 ht)
    · have : r = [] := by cases r with
        | nil => rfl
        | cons _ _ => simp at hr1
      subst this
      refine s_when (b := true) (len_eq (ev_var rfl) (e03 _ _ hw) (by simp)) (fun _ H4 e4 => ?_) fun z => nomatch z
      have e04 := e03.trans e4
      exact ⟨_, rfl, _, rfl, _, rfl, wl, _, 2, .str z3, rfl, rfl, sq_of (e04 _ _ hw), rfl, .str "a.b", false, [z1, z2, z3], rfl, rfl, kn _, str_fits ab_ok.2, ab_ok.1, hn, (by show 3 ≤ 20; decide), lk, fun p dx t H5 np e5 hp ht => k p dx t H5 _ _ (e04.trans e5) hp ht⟩
theorem fr_two (T : Txt P K mg a) {cdv : Value} {A : Around} {outer : List Env} {s : Shared} {H0 : Hp} {E : XK} (hr : Room 16 (A.deeper (envOfC "_law_fields_right" (defScope s__law_fields_right) s.heap.objs.size a._law_fields_right cdv))) (hG : A.guards = some []) :
    ∃ tr, PS (frX P w K mg base a cdv A outer s H0 E) (frB 1) tr ∧ ∀ (D : Ends) (H : Hp) (v0 : V) (wl il p dx t : Addr) (zs : List Str) (ws : List V) (o4 o5 : Option V), FI K a wl il zs ws H → H p = some (.ins a.Fields dx [("new_brand", .str "a.b"), ("label_row", .ref t)]) → SqT K H t (zs.map V.str) →
      (∀ p1 s1 p2 s2 H', Ex H H' → p1 ≠ p2 → s1 ≠ s2 → H s1 = none → ThAt a H' p1 (.str "a.b") s1 (zipK zs ws) → ThAt a H' p2 (.str "a.b") s2 (zipK zs ws) → D.nx [some v0, some (.ref wl), some (.ref il), some (.ref p), o4, o5, some (.ref p1), some (.ref p2), none, none] H') →
      tr D [some v0, some (.ref wl), some (.ref il), some (.ref p), o4, o5, none, none, none, none] H := by
  refine ⟨_, (ps_par (i := 6) (j := 7) rfl sc__law_fields_right.nd rfl rfl (by decide) rfl rfl (pa_cons (pe_ic (pv 3) (takes_of rfl rfl rfl rfl) (pa_cons (pe_callTy call_tuple_of (by rfl) T.b_tuple (by decide +kernel) (pa_cons (pv 2) pa_nil)) pa_nil) pk_nil) (pa_cons (pe_ic0 (pv 3) (takes_of rfl rfl rfl rfl) (pk_cons (pe_callTy call_tuple_of (by rfl) T.b_tuple (by decide +kernel) (pa_cons (pv 2) pa_nil)) pk_nil)) pa_nil)) (by rfl)), ?_⟩
  intro D H v0 wl il p dx t zs ws o4 o5 f hp ht k
  have lk : ∀ z ∈ zs, keyS (.str z) = true := fun z hz => (lab_lay (labs_lab z (f.m z hz))).2
  have kn : ∀ H, Kn K a H (.str "a.b") false := fun H => kn_dz T (.str _)
  have hk := f.k
  refine ⟨_, rfl, p, a.Fields, dx, a.Fields___call__, _, 14, _, rfl, hp, co_Fields T, ok_Fields_call T, hr.mono (by decide), _, rfl, il, _, rfl, .inl ⟨sq_of f.i, fun u nu => ⟨⟨_, Ex.new nu _ _ hp⟩, rfl, p, dx, .str "a.b", false, t, u, zs, ws, rfl, Ex.new nu _ _ hp, kn _, str_fits ab_ok.2, ab_ok.1, ex_t (Ex.new nu) ht, st_of upd_same, f.l, f.n, by omega, lk, (fun x hx => (f.v x hx).ex (Ex.new nu)), fun p1 s1 H1 np1 ns1 e1 th1 => ?_⟩⟩⟩
  have e01 := (Ex.new (o := .tup ws) nu).trans e1
  have f1 := f.ex e01
  have hp1 := e01 _ _ hp
  have ht1 := ex_t e01 ht
  refine ⟨_, rfl, p, a.Fields, dx, a.Fields___call__, _, 14, _, rfl, hp1, co_Fields T, ok_Fields_call_kw T, hr.mono (by decide), _, rfl, il, _, rfl, .inl ⟨sq_of f1.i, fun u2 nu2 => ⟨⟨_, Ex.new nu2 _ _ hp1⟩, rfl, rfl, p, dx, .str "a.b", false, t, u2, zs, ws, rfl, Ex.new nu2 _ _ hp1, kn _, str_fits ab_ok.2, ab_ok.1, ex_t (Ex.new nu2) ht1, st_of upd_same, f.l, f.n, by omega, lk, (fun x hx => (f1.v x hx).ex (Ex.new nu2)), fun p2 s2 H2 np2 ns2 e2 th2 => ?_⟩⟩⟩
  have e12 := (Ex.new (o := .tup ws) nu2).trans e2
  obtain ⟨dx1, hpp⟩ := (th1.ex (Ex.new nu2)).at_
  have hss := (th1.ex (Ex.new (o := .tup ws) nu2)).dict
  exact ⟨_, _, rfl, k p1 s1 p2 s2 H2 (e01.trans e12) (fun z => by rw [← z, hpp] at np2; cases np2) (fun z => by rw [← z, hss] at ns2; cases ns2) (fresh_back (Ex.new nu) ns1) (th1.ex e12) th2⟩

end
end BJL

namespace BJL
open PySem PySem.Spec PyProof.Rows L2 BJ
section
variable {P : Program} {w : World} {K : PySem.W.Frag} {mg : Str → Option Value} {base : Heap} {a : Adr}
open Evl
theorem ev_brand {X : Cx} {te : TE} {σ : L2.St} {H : Hp} {p sd : Addr} {x : V} {kvs : List (Key × V)} (T : Txt P K mg a) (h1 : X.prog = P) (h2 : X.w = w) (h3 : X.K = K) (h4 : X.mg = mg) (h5 : X.base = base) (hr : Room 2 X.A) (he : Ev te σ H (.ref p)) (hs : ThAt a H p x sd kvs) : Ev (tPr X "brand" te) σ H x := by
  subst h1 h2 h3 h4 h5
  intro H1 e Q q
  refine he H1 e _ fun H2 e2 => ?_
  obtain ⟨dx, hp⟩ := (hs.ex (e.trans e2)).at_
  exact ⟨p, a.Thing, dx, _, _, _, 1, _, rfl, hp, T.c_Thing, T.p_Thing_brand, ok_Thing_brand_get T, hr, p, a.Thing, dx, x, _, rfl, hp, T.c_Thing, T.n_Thing_called, rfl, q H2 e2⟩
theorem ev_neLL {t1 t2 : TE} {σ : L2.St} {H : Hp} {xs : List V} {ds : List PyData} (h1 : EvL t1 σ H xs) (h2 : EvL t2 σ H xs) (hd : ∀ H', DpAll K H' xs ds) (hs : SeqAt.shaped (.list ds) = true) (he : PyData.eqv (.list ds) (.list ds) = true) : Ev (tOp (rNeD K) t1 t2) σ H (.bl false) := fun H1 e Q q =>
  h1 H1 e _ fun p H2 np e2 hp => h2 H2 (e.trans e2) _ fun p2 H3 np2 e3 hp2 => ⟨.list ds, .list ds, .lst (sq_of (e3 _ _ hp)) (hd _), .lst (sq_of hp2) (hd _), hs, hs, by rw [he]; exact q H3 (e2.trans e3)⟩
theorem abab_ok : SeqAt.shaped (.list [.str "a.b", .str "a.b", .bool true]) = true ∧ PyData.eqv (.list [.str "a.b", .str "a.b", .bool true]) (.list [.str "a.b", .str "a.b", .bool true]) = true := by decide +kernel
theorem fr_test (T : Txt P K mg a) {cdv : Value} {A : Around} {outer : List Env} {s : Shared} {H0 : Hp} {E : XK} (hr : Room 16 (A.deeper (envOfC "_law_fields_right" (defScope s__law_fields_right) s.heap.objs.size a._law_fields_right cdv))) (hG : A.guards = some []) :
    ∃ tr, PS (frX P w K mg base a cdv A outer s H0 E) (frB 2) tr ∧ ∀ (D : Ends) (H : Hp) (v0 : V) (wl il p p1 p2 s1 s2 : Addr) (kvs : List (Key × V)) (o4 o5 : Option V), p1 ≠ p2 → ThAt a H p1 (.str "a.b") s1 kvs → ThAt a H p2 (.str "a.b") s2 kvs →
      (∀ H', Ex H H' → D.nx [some v0, some (.ref wl), some (.ref il), some (.ref p), o4, o5, some (.ref p1), some (.ref p2), none, none] H') →
      tr D [some v0, some (.ref wl), some (.ref il), some (.ref p), o4, o5, some (.ref p1), some (.ref p2), none, none] H := by
  refine ⟨_, (ps_if (PW.pt (pw_or (pt_cmpR (op_eqI (Nat.lt_of_le_of_lt (Nat.le_add_right _ _) hr.units)) (pv 6) (pv 7) (nomark _)) (pw_or1 (pt_cmpR (op_neD' (K := K) rfl hr.units) (pe_lst (pa_cons (pe_pr (pv 6)) (pa_cons (pe_pr (pv 7)) (pa_cons (pe_callB (call_isG' (K := K) rfl) (by rfl) T.b_isinstance (by decide +kernel) (pa_cons (pv 6) (pa_cons (pe_glob (v := .ref a.Thing) (by rfl) T.g_Thing rfl) pa_nil))) pa_nil)))) (pe_lst (pa_cons pe_str (pa_cons pe_str (pa_cons pe_bl pa_nil)))) (nomark _)))))
 (pss_one (ps_ret pe_bl))
 pss_nil), ?_⟩
  intro D H v0 wl il p p1 p2 s1 s2 kvs o4 o5 hne th1 th2 k
  obtain ⟨dx1, h1⟩ := id th1.at_
  obtain ⟨dx2, h2⟩ := id th2.at_
  have nc : NodeC a a.Thing := by unfold NodeC; simp
  refine s_when (b := false || false) (et_or (et_test (ev_op (ev_var rfl) (ev_var rfl) fun H1 e Q q => ⟨p1, p2, a.Thing, dx1, dx2, _, _, rfl, rfl, e _ _ h1, e _ _ h2, T.e_Thing, by rw [decide_eq_false hne]; exact q H1 (Ex.refl _)⟩)) fun _ => et_test (ev_neLL (xs := [.str "a.b", .str "a.b", .bl true]) (el_lst (ea_cons (ev_brand T rfl rfl rfl rfl rfl (hr.mono (by decide)) (ev_var rfl) th1) (ea_cons (ev_brand T rfl rfl rfl rfl rfl (hr.mono (by decide)) (ev_var rfl) th2) (ea_cons (ev_cb (ea_cons (ev_var rfl) (ea_cons ev_c ea_nil)) (rc_isN (ty_node T h1 nc) T.w_Thing_Thing)) ea_nil))) (by show 3 ≤ 100000; decide)) (el_lst (ea_cons ev_c (ea_cons ev_c (ea_cons ev_c ea_nil))) (by show 3 ≤ 100000; decide)) (fun H' => .cons (.str _) (.cons (.str _) (.cons (.bl _) .nil))) abab_ok.1 abab_ok.2)) (fun z => nomatch z) fun _ H1 e1 => k H1 e1
theorem fr_due (T : Txt P K mg a) {cdv : Value} {A : Around} {outer : List Env} {s : Shared} {H0 : Hp} {E : XK} (hr : Room 16 (A.deeper (envOfC "_law_fields_right" (defScope s__law_fields_right) s.heap.objs.size a._law_fields_right cdv))) (hG : A.guards = some []) :
    ∃ tr, PS (frX P w K mg base a cdv A outer s H0 E) (frB 3) tr ∧ ∀ (D : Ends) (H : Hp) (v0 : V) (wl il p p1 p2 : Addr) (zs : List Str) (ws : List V) (o4 o5 : Option V), FI K a wl il zs ws H →
      (∀ dl ts o9 H', Ex H H' → H' dl = some (.lst (ts.map V.ref)) → Prs H' ts (zipK zs ws) → D.nx [some v0, some (.ref wl), some (.ref il), some (.ref p), o4, o5, some (.ref p1), some (.ref p2), some (.ref dl), o9] H') →
      tr D [some v0, some (.ref wl), some (.ref il), some (.ref p), o4, o5, some (.ref p1), some (.ref p2), none, none] H := by
  refine ⟨_, (ps_setLc (i := 8) (own := [("at", 9)]) (g := (gName 9)) (by rfl) sc__law_fields_right.nd rfl rfl (sw_true rfl rfl rfl (by decide +kernel)) (pi_range1 (by rfl) T.b_range (pa_cons (pe_callB call_len_seq (by rfl) T.b_len (by decide +kernel) (pa_cons (pv 1) pa_nil)) pa_nil)) (blkOk_by (own := [("at", 9)]) (N := ["draw", "words", "items", "hook", "first_word", "next_word", "one", "other", "due", "at"]) (sc := defScope s__law_fields_right) (by decide +kernel)) (fun _ _ _ _ _ => (pg_name (i := 9) sc__law_fields_right.nd rfl (Or.inl rfl))) (fun _ _ _ _ _ => pts_nil) (fun _ _ _ _ _ => (pe_tup (pa_cons (pe_ix (ix_list' (K := K) rfl) (pv 1) (pv 9) (fun _ _ => rfl)) (pa_cons (pe_ix (ix_list' (K := K) rfl) (pv 2) (pv 9) (fun _ _ => rfl)) pa_nil))))), ?_⟩
  intro D H v0 wl il p p1 p2 zs ws o4 o5 f k
  have hk := f.k
  have hzl := zipK_len f.l
  refine ⟨_, rfl, wl, _, rfl, .inl (sq_of f.w), _, rfl, (by rw [List.length_map]; omega), (by rw [List.length_map]; omega), fun Dl nDl => ?_⟩
  refine lc_it (walk_range (lo := 0) (n := (((zs.map V.str).length : Nat) : Int).toNat)) (fun i H' => Ex H H' ∧ ∃ ts, H' Dl = some (.lst (ts.map V.ref)) ∧ Prs H' ts ((zipK zs ws).take i) ∧ ∀ t ∈ ts, t ≠ Dl) ⟨Ex.new nDl, [], upd_same, .nil, fun t h => nomatch h⟩ (fun _ _ _ _ => trivial) (fun i x H2 H3 hi h y => ?_) fun H' h => ?_
  · obtain ⟨rfl, y2⟩ := y
    obtain rfl : x = .int (i : Int) := y2.trans (congrArg V.int (Int.zero_add _))
    obtain ⟨e2, ts, hx, hts, hne⟩ := h
    rw [List.length_map, Int.toNat_natCast] at hi
    have hz : zs[i]? = some zs[i] := List.getElem?_eq_getElem hi
    have hwi : i < ws.length := by rw [← f.l]; exact hi
    have hw : ws[i]? = some ws[i] := List.getElem?_eq_getElem hwi
    have hkv := zipK_get hz hw
    have hlen := hts.len
    rw [List.length_take] at hlen
    refine ⟨rfl, ?_⟩
    unfold tYes
    dsimp only
    rw [if_pos rfl]
    refine ⟨_, rfl, _, rfl, wl, _, (i : Int), .str zs[i], rfl, rfl, sq_of (e2 _ _ f.w), (at_nat (by rw [List.length_map]; exact hi)).trans (by rw [List.getElem?_map, hz]; rfl), _, rfl, _, rfl, il, _, (i : Int), ws[i], rfl, rfl, sq_of (e2 _ _ f.i), (at_nat hwi).trans hw, (by show 2 ≤ sizeLine; decide), fun t nt => ?_⟩
    have et := Ex.new (o := .tup [.str zs[i], ws[i]]) nt
    have htD : t ≠ Dl := fun z => by rw [z, hx] at nt; cases nt
    refine ⟨_, et _ _ hx, (by rw [List.length_map, sizeLine_eq]; omega), Ex.mut (e2.trans et) nDl, ts ++ [t], (by rw [List.map_append]; exact upd_same), ?_, fun t' ht' => ?_⟩
    · rw [List.take_add_one, hkv]
      refine Prs.snoc (by rw [upd_ne htD]; exact upd_same) (hts.keep fun t' ht' o ho => ?_)
      rw [upd_ne (hne t' ht')]
      exact et _ _ ho
    · rcases List.mem_append.mp ht' with h | h
      · exact hne t' h
      · rw [List.mem_singleton.mp h]; exact htD
  · obtain ⟨e2, ts, hx, hts, hne⟩ := h
    rw [List.length_map, Int.toNat_natCast, ← hzl, List.take_length] at hts
    exact k Dl ts _ H' e2 hx hts
theorem fr_later (T : Txt P K mg a) {cdv : Value} {A : Around} {outer : List Env} {s : Shared} {H0 : Hp} {E : XK} (hr : Room 16 (A.deeper (envOfC "_law_fields_right" (defScope s__law_fields_right) s.heap.objs.size a._law_fields_right cdv))) (hG : A.guards = some []) :
    ∃ tr, PS (frX P w K mg base a cdv A outer s H0 E) (frB 4) tr ∧ ∀ (D : Ends) (H : Hp) (v0 : V) (wl il p p1 p2 s1 dl : Addr) (kvs : List (Key × V)) (o4 o5 o9 : Option V), ThAt a H p1 (.str "a.b") s1 kvs → kvs.length ≤ 10 → valV kvs (.inr "later") = none →
      (∀ H', SameBut s1 H H' → ThAt a H' p1 (.str "a.b") s1 (kvs ++ [(.inr "later", .int 5)]) → D.nx [some v0, some (.ref wl), some (.ref il), some (.ref p), o4, o5, some (.ref p1), some (.ref p2), some (.ref dl), o9] H') →
      tr D [some v0, some (.ref wl), some (.ref il), some (.ref p), o4, o5, some (.ref p1), some (.ref p2), some (.ref dl), o9] H := by
  refine ⟨_, (ps_expr (pe_me (pv 6) (takes_of rfl rfl rfl rfl) (pa_cons pe_str (pa_cons pe_int pa_nil)) pk_nil)), ?_⟩
  intro D H v0 wl il p p1 p2 s1 dl kvs o4 o5 o9 th hl hn k
  obtain ⟨dx, hp⟩ := id th.at_
  have nolk : ([("called", V.str "a.b"), ("settings", V.ref s1)] : List (Str × V)).lookup ("set_field" : Str) = none := rfl
  have hks : keyS (.str "later") = true := by decide +kernel
  refine ⟨_, rfl, p1, a.Thing, dx, a.Thing_set_field, _, 10, _, rfl, hp, nolk, T.c_Thing, T.p_Thing_set_field, ok_set_field T, hr.mono (by decide), rfl, p1, _, s1, kvs, .str "later", .int 5, false, rfl, th, by omega, kn_dz T (.str _), key_fits hks, .inr (.inr ⟨"later", rfl, hks, ⟨false, kn_dz T (.int 5), (fun z h => nomatch h), rfl⟩, ?_⟩)⟩
  have ps : p1 ≠ s1 := ne_of hp th.dict fun z => nomatch z
  exact k _ (fun q o hq ho => by rw [upd_ne hq]; exact ho) ⟨⟨dx, by rw [upd_ne ps]; exact hp⟩, by rw [upd_same, putK_new _ hn]⟩

end
end BJL

namespace BJL
open PySem PySem.Spec PyProof.Rows L2 BJ
section
variable {P : Program} {w : World} {K : PySem.W.Frag} {mg : Str → Option Value} {base : Heap} {a : Adr}
open Evl
theorem cut_last (xs : List V) (x : V) : cutV (xs ++ [x]) none (some (-1)) = xs := by
  unfold cutV HT.sIx
  simp
  rw [show (-1 + ((xs.length : Int) + 1)).toNat = xs.length by omega, List.take_left]
theorem prs_init {H : Hp} {q : Key × V} : ∀ {kvs : List (Key × V)} {ts : List Addr}, Prs H ts (kvs ++ [q]) → ∃ us t, ts = us ++ [t] ∧ Prs H us kvs := by
  intro kvs
  induction kvs with
  | nil =>
    intro ts h
    cases h with
    | cons h1 h2 =>
      cases h2
      exact ⟨[], _, rfl, .nil⟩
  | cons p r ih =>
    intro ts h
    cases h with
    | cons h1 h2 =>
      obtain ⟨us, t, rfl, hP⟩ := ih h2
      exact ⟨_ :: us, t, rfl, .cons h1 hP⟩
theorem ex_sb {H H1 H2 : Hp} {d : Addr} (e : Ex H H1) (n : H d = none) (b : SameBut d H1 H2) : Ex H H2 := fun q o ho => b q o (fun z => by rw [z, n] at ho; cases ho) (e q o ho)
theorem late_ok : ("later" : Str) ∉ LABS := by decide +kernel
theorem zip_new {zs : List Str} {ws : List V} {z : Str} (h : z ∉ zs) : valV (zipK zs ws) (.inr z) = none := by
  cases hv : valV (zipK zs ws) (.inr z) with
  | none => rfl
  | some v =>
    exfalso
    obtain ⟨kv, hm, hk⟩ := List.mem_map.mp (valV_in hv)
    obtain ⟨⟨y, hy, hyk⟩, _⟩ := zipK_mem hm
    rw [hyk] at hk
    exact h (Sum.inr.inj hk ▸ hy)
theorem fr_end (T : Txt P K mg a) {cdv : Value} {A : Around} {outer : List Env} {s : Shared} {H0 : Hp} {E : XK} (hr : Room 16 (A.deeper (envOfC "_law_fields_right" (defScope s__law_fields_right) s.heap.objs.size a._law_fields_right cdv))) (hG : A.guards = some []) :
    ∃ tr, PS (frX P w K mg base a cdv A outer s H0 E) (frB 5) tr ∧ ∀ (D : Ends) (H : Hp) (v0 : V) (wl il p p1 p2 s1 s2 dl : Addr) (ts : List Addr) (kvs : List (Key × V)) (o4 o5 o9 : Option V), ThAt a H p1 (.str "a.b") s1 (kvs ++ [(.inr "later", .int 5)]) → ThAt a H p2 (.str "a.b") s2 kvs → H dl = some (.lst (ts.map V.ref)) → Prs H ts kvs → kvs.length ≤ 100 → (∀ kv ∈ kvs, (∃ z, kv.1 = .inr z) ∧ ValAt K a H kv.2) →
      (∀ H', Ex H H' → D.rt (.bl true) H') →
      tr D [some v0, some (.ref wl), some (.ref il), some (.ref p), o4, o5, some (.ref p1), some (.ref p2), some (.ref dl), o9] H := by
  have G__law_like : CallP P w K mg base 2 (.ref a._law_like) (spLike K a) := ok__law_like T
  refine ⟨_, (ps_ret (pe_and (pe_ca G__law_like (hr.mono (by decide)) hG rfl T.g__law_like T.k__law_like (takes_of rfl rfl rfl rfl) (pa_cons (pe_callTy call_list_of (by rfl) T.b_list (by decide +kernel) (pa_cons (pe_pr (pv 7)) pa_nil)) (pa_cons (pv 8) pa_nil))) (pe_one (pe_ca G__law_like (hr.mono (by decide)) hG rfl T.g__law_like T.k__law_like (takes_of rfl rfl rfl rfl) (pa_cons (pe_slice sl_list (pe_callTy call_list_of (by rfl) T.b_list (by decide +kernel) (pa_cons (pe_pr (pv 6)) pa_nil)) po_none (po_some (pe_un un_neg pe_int))) (pa_cons (pv 8) pa_nil)))))), ?_⟩
  intro D H v0 wl il p p1 p2 s1 s2 dl ts kvs o4 o5 o9 th1 th2 hdl hP hl ok k
  refine s_ret (v := .bl (true && true)) (ev_andV (fun H1 e Q q => ?_) fun _ H1 e Q q => ?_) fun H1 e1 => k H1 e1
  · refine pr_fields T rfl rfl rfl rfl rfl (hr.mono (by decide)) (ev_var rfl) (th2.ex e) (by omega) fun t us H2 e2 ht hP2 => ?_
    refine ⟨t, _, rfl, .inr (st_of ht), fun l nl => ?_⟩
    have el := Ex.new (o := .lst (us.map V.ref)) nl
    have e3 := (e.trans e2).trans el
    exact ⟨_, rfl, l, dl, us, ts, kvs, rfl, sq_of upd_same, sq_of (e3 _ _ hdl), hP2.ex el, hP.ex e3, hl, (fun kv hk => ⟨(ok kv hk).1, (ok kv hk).2.ex e3⟩), fun H' e' => q H' ((e2.trans el).trans e')⟩
  · refine pr_fields T rfl rfl rfl rfl rfl (hr.mono (by decide)) (ev_var rfl) (th1.ex e) (by rw [List.length_append]; show _ + 1 ≤ _; omega) fun t us H2 e2 ht hP2 => ?_
    obtain ⟨us', t', rfl, hP3⟩ := prs_init hP2
    refine ⟨t, _, rfl, .inr (st_of ht), fun l nl => ⟨_, rfl, _, rfl, l, _, rfl, sq_of upd_same, fun l2 nl2 => ?_⟩⟩
    have hc : cutV ((us' ++ [t']).map V.ref) none (some (-1)) = us'.map V.ref := by rw [List.map_append]; exact cut_last _ _
    rw [hc]
    have el := (Ex.new (o := .lst ((us' ++ [t']).map V.ref)) nl).trans (Ex.new (o := .lst (us'.map V.ref)) nl2)
    have e3 := (e.trans e2).trans el
    exact ⟨_, rfl, l2, dl, us', ts, kvs, rfl, sq_of upd_same, sq_of (e3 _ _ hdl), hP3.ex el, hP.ex e3, hl, (fun kv hk => ⟨(ok kv hk).1, (ok kv hk).2.ex e3⟩), fun H' e' => q H' ((e2.trans el).trans e')⟩
def spFr (K : PySem.W.Frag) (a : Adr) : Sp := fun vs H Q _ => ∃ v0 wl il zs ws, vs = [v0, .ref wl, .ref il] ∧ FI K a wl il zs ws H ∧ ∀ H', Ex H H' → Q (.bl true) H'
theorem ok__law_fields_right (T : Txt P K mg a) : CallP P w K mg base 17 (.ref a._law_fields_right) (spFr K a) := by
  refine T.d__law_fields_right.ok sc__law_fields_right (fun vs H Q E h => ?_) (fun cdv A outer s H vs Q E hr hG h => ?_)
  · obtain ⟨v0, wl, il, zs, ws, rfl, _⟩ := h
    rfl
  · obtain ⟨v0, wl, il, zs, ws, rfl, f, hq⟩ := h
    obtain ⟨t0, p0, u0⟩ := fr_hook (P := P) (w := w) (mg := mg) (base := base) (outer := outer) (s := s) (H0 := H) (E := E) T hr hG
    obtain ⟨t1, p1, u1⟩ := fr_two (P := P) (w := w) (mg := mg) (base := base) (outer := outer) (s := s) (H0 := H) (E := E) T hr hG
    obtain ⟨t2, p2, u2⟩ := fr_test (P := P) (w := w) (mg := mg) (base := base) (outer := outer) (s := s) (H0 := H) (E := E) T hr hG
    obtain ⟨t3, p3, u3⟩ := fr_due (P := P) (w := w) (mg := mg) (base := base) (outer := outer) (s := s) (H0 := H) (E := E) T hr hG
    obtain ⟨t4, p4, u4⟩ := fr_later (P := P) (w := w) (mg := mg) (base := base) (outer := outer) (s := s) (H0 := H) (E := E) T hr hG
    obtain ⟨t5, p5, u5⟩ := fr_end (P := P) (w := w) (mg := mg) (base := base) (outer := outer) (s := s) (H0 := H) (E := E) T hr hG
    refine ⟨_, pss_cons p0 (pss_cons p1 (pss_cons p2 (pss_cons p3 (pss_cons p4 (pss_one p5))))), ?_⟩
    refine u0 _ _ _ wl il zs ws f fun p dx t H1 o4 o5 e1 hp ht => ?_
    refine u1 _ _ _ wl il p dx t zs ws o4 o5 (f.ex e1) hp ht fun q1 s1 q2 s2 H2 e2 hne hss ns1 th1 th2 => ?_
    refine u2 _ _ _ wl il p q1 q2 s1 s2 _ o4 o5 hne th1 th2 fun H3 e3 => ?_
    have e03 := (e1.trans e2).trans e3
    refine u3 _ _ _ wl il p q1 q2 zs ws o4 o5 (f.ex e03) fun dl ts o9 H4 e4 hdl hP => ?_
    have e04 := e03.trans e4
    have f4 := f.ex e04
    have hzl := zipK_len f.l
    have hk := f.k
    have th14 := th1.ex (e3.trans e4)
    obtain ⟨⟨dx2, h2⟩, hs2⟩ := th2.ex (e3.trans e4)
    refine u4 _ _ _ wl il p q1 q2 s1 dl _ o4 o5 o9 th14 (by omega) (zip_new fun h => late_ok (f.m _ h)) fun H5 sb th5 => ?_
    have b : ButL [s1] H4 H5 := ButL.sb sb (by simp)
    refine u5 _ _ _ wl il p q1 q2 s1 s2 dl ts _ o4 o5 o9 th5 ⟨⟨dx2, sb _ _ (ne_of h2 th14.dict fun z => nomatch z) h2⟩, sb _ _ hss.symm hs2⟩ (sb _ _ (ne_of hdl th14.dict fun z => nomatch z) hdl) (prs_but hP b fun q hq ys z => by rw [List.mem_singleton.mp hq, th14.dict] at z; cases z) (by omega) (fun kv hkv => ?_) fun H6 e6 => hq H6 ((ex_sb e04 (fresh_back e1 ns1) sb).trans e6)
    obtain ⟨⟨z, _, hz⟩, hv⟩ := zipK_mem hkv
    exact ⟨⟨z, hz⟩, (f4.v _ hv).sb th14.dict sb⟩

end
end BJL

namespace BJL
open PySem PySem.Spec PyProof.Rows L2 BJ
section
variable {P : Program} {w : World} {K : PySem.W.Frag} {mg : Str → Option Value} {base : Heap} {a : Adr}
open Evl
abbrev tkNames : List Str := ["made", "pairs_here", "words", "hook", "row", "rest", "some", "one", "far", "due", "word", "again", "told", "whole", "other"]
abbrev tkB (i : Nat) : Stmt := (defBody s__law_taken_right).getD i (.Pass ⟨0, 0, 0, 0⟩)
abbrev tkX (P : Program) (w : World) (K : PySem.W.Frag) (mg : Str → Option Value) (base : Heap) (a : Adr) (cdv : Value) (A : Around) (outer : List Env) (s : Shared) (H : Hp) (E : XK) : Cx := cxOf (L2.CX P w) P w K mg base BJL.tkNames "_law_taken_right" (defScope s__law_taken_right) a._law_taken_right cdv A outer s H E
structure TK (K : PySem.W.Frag) (a : Adr) (q : Addr) (x : V) (sd : Addr) (kvs : List (Key × V)) (lr : Addr) (rts : List Addr) (wl : Addr) (zs : List Str) (H : Hp) : Prop where
  th : ThAt a H q x sd kvs
  hl : H lr = some (.lst (rts.map V.ref))
  prs : Prs H rts kvs
  ok : KvOk K a H kvs
  len : kvs.length ≤ 5
  w : H wl = some (.lst (zs.map V.str))
  nd : zs.Nodup
  m : ∀ z ∈ zs, ∃ v, ((Sum.inr z : Key), v) ∈ kvs
  k : zs.length ≤ 5
  la : valV kvs (.inr "later") = none
section
variable {q : Addr} {x : V} {sd : Addr} {kvs : List (Key × V)} {lr : Addr} {rts : List Addr} {wl : Addr} {zs : List Str} {H H' : Hp}
theorem TK.ex (g : TK K a q x sd kvs lr rts wl zs H) (e : Ex H H') : TK K a q x sd kvs lr rts wl zs H' := ⟨g.th.ex e, e _ _ g.hl, g.prs.ex e, g.ok.ex e, g.len, e _ _ g.w, g.nd, g.m, g.k, g.la⟩
theorem TK.key (g : TK K a q x sd kvs lr rts wl zs H) {z : Str} (hz : z ∈ zs) : keyS (.str z) = true ∧ ∃ v, ((Sum.inr z : Key), v) ∈ kvs ∧ valV kvs (.inr z) = some v ∧ fieldOf kvs z = v := by
  obtain ⟨v, hv⟩ := g.m z hz
  obtain ⟨y, h1, h2⟩ := g.ok.lab _ hv
  cases h1
  have h3 : valV kvs (.inr z) = some v := val_nodup g.ok.nd _ hv
  exact ⟨(lab_lay h2).2, v, hv, h3, by unfold fieldOf; rw [h3]; rfl⟩
end
theorem take_sub {α : Type} {l : List α} {n : Nat} {y : α} (h : y ∈ l.take n) : y ∈ l := List.mem_of_mem_take h
theorem tk_hook (T : Txt P K mg a) {cdv : Value} {A : Around} {outer : List Env} {s : Shared} {H0 : Hp} {E : XK} (hr : Room 20 (A.deeper (envOfC "_law_taken_right" (defScope s__law_taken_right) s.heap.objs.size a._law_taken_right cdv))) (hG : A.guards = some []) :
    ∃ tr, PS (tkX P w K mg base a cdv A outer s H0 E) (tkB 0) tr ∧ ∀ (D : Ends) (H : Hp) (q : Addr) (x : V) (sd : Addr) (kvs : List (Key × V)) (lr : Addr) (rts : List Addr) (wl : Addr) (zs : List Str), TK K a q x sd kvs lr rts wl zs H →
      (∀ p dx t H', Ex H H' → H' p = some (.ins a.Parts dx [("label_row", .ref t)]) → SqT K H' t ((zs.take 2).map V.str) → D.nx [some (.ref q), some (.ref lr), some (.ref wl), some (.ref p), none, none, none, none, none, none, none, none, none, none, none] H') →
      tr D [some (.ref q), some (.ref lr), some (.ref wl), none, none, none, none, none, none, none, none, none, none, none, none] H := by
  have G_Parts := ok_Parts (P := P) (w := w) (base := base) (mg := mg) T
  have G0_Parts := ok_Parts (P := P) (w := w) (base := base) (mg := mg) T
  refine ⟨_, (ps_set (i := 3) sc__law_taken_right.nd rfl (Or.inl rfl) (pe_ifExp (pt_cmpR op_gt (pe_callB call_len_seq (by rfl) T.b_len (by decide +kernel) (pa_cons (pv 2) pa_nil)) pe_int (nomark _)) (pe_cx G_Parts (hr.mono (by decide)) rfl T.g_Parts T.k_Parts (takes_of rfl rfl rfl rfl) (pa_cons (pe_ix (ix_list' (K := K) rfl) (pv 2) pe_int (fun _ _ => rfl)) (pa_cons (pe_ix (ix_list' (K := K) rfl) (pv 2) pe_int (fun _ _ => rfl)) pa_nil)) pk_nil) (pe_ifExp (pt_cmpR op_eq (pe_callB call_len_seq (by rfl) T.b_len (by decide +kernel) (pa_cons (pv 2) pa_nil)) pe_int (nomark _)) (pe_cx G_Parts (hr.mono (by decide)) rfl T.g_Parts T.k_Parts (takes_of rfl rfl rfl rfl) (pa_cons (pe_ix (ix_list' (K := K) rfl) (pv 2) pe_int (fun _ _ => rfl)) pa_nil) pk_nil) (pe_cx0 G0_Parts (hr.mono (by decide)) rfl T.g_Parts T.k_Parts (takes_of rfl rfl rfl rfl) pk_nil)))), ?_⟩
  intro D H q x sd kvs lr rts wl zs g k
  have lk : ∀ z ∈ zs, keyS (.str z) = true := fun z hz => (g.key hz).1
  have hn := g.nd
  have hw := g.w
  have gt : ∀ {b : Bool}, decide (1 < (((zs.map V.str).length : Nat) : Int)) = b → EvT (tTest (tOp (rI0 fun i j => V.bl (decide (j < i))) (tCB (rLenS K) (tCons (tVar 2) tNil)) (tC (.int 1)))) [some (.ref q), some (.ref lr), some (.ref wl), none, none, none, none, none, none, none, none, none, none, none, none] H b := fun hb => et_is (et_test (ev_op (ev_len (ev_var rfl) (sq_of hw)) ev_c rv_I0)) hb
  clear g
  rcases zs with _ | ⟨z1, _ | ⟨z2, r⟩⟩
  · refine asg_if (gt (b := false) (by simp)) (fun z => nomatch z) fun _ H1 e1 => ?_
    refine asg_if (len_eq (b := false) (ev_var rfl) (e1 _ _ hw) (by simp)) (fun z => nomatch z) fun _ H2 e2 => ?_
    exact ⟨[], rfl, rfl, .nil, by decide, lk, fun p dx t H3 np e3 hp ht => k p dx t H3 ((e1.trans e2).trans e3) hp ht⟩
  · refine asg_if (gt (b := false) (by simp)) (fun z => nomatch z) fun _ H1 e1 => ?_
    refine asg_if (len_eq (b := true) (ev_var rfl) (e1 _ _ hw) (by simp)) (fun _ H2 e2 => ?_) fun z => nomatch z
    exact ⟨_, rfl, wl, _, 0, .str z1, rfl, rfl, sq_of ((e1.trans e2) _ _ hw), rfl, [z1], rfl, rfl, hn, (by show 1 ≤ 20; decide), lk, fun p dx t H3 np e3 hp ht => k p dx t H3 ((e1.trans e2).trans e3) hp ht⟩
  · refine asg_if (gt (b := true) (by simp; omega)) (fun _ H1 e1 => ?_) fun z => nomatch z
    have nd2 : ([z1, z2] : List Str).Nodup := by
      rw [List.nodup_cons, List.nodup_cons] at hn
      simp only [List.mem_cons, not_or] at hn
      simp [hn.1.1]
    exact ⟨_, rfl, wl, _, 0, .str z1, rfl, rfl, sq_of (e1 _ _ hw), (at_nat (i := 0) (by simp)).trans rfl, _, rfl, wl, _, 1, .str z2, rfl, rfl, sq_of (e1 _ _ hw), (at_nat (i := 1) (by simp)).trans rfl, [z1, z2], rfl, rfl, nd2, (by show 2 ≤ 20; decide), (fun z hz => lk z (by simp only [List.mem_cons, List.not_mem_nil, or_false] at hz; rcases hz with rfl | rfl <;> simp)), fun p dx t H3 np e3 hp ht => k p dx t H3 (e1.trans e3) hp ht⟩
theorem tk_call (T : Txt P K mg a) {cdv : Value} {A : Around} {outer : List Env} {s : Shared} {H0 : Hp} {E : XK} (hr : Room 20 (A.deeper (envOfC "_law_taken_right" (defScope s__law_taken_right) s.heap.objs.size a._law_taken_right cdv))) (hG : A.guards = some []) :
    ∃ tr, PS (tkX P w K mg base a cdv A outer s H0 E) (tkB 1) tr ∧ ∀ (D : Ends) (H : Hp) (q : Addr) (x : V) (sd : Addr) (kvs : List (Key × V)) (lr : Addr) (rts : List Addr) (wl : Addr) (zs : List Str) (p dx t : Addr), TK K a q x sd kvs lr rts wl zs H → H p = some (.ins a.Parts dx [("label_row", .ref t)]) → SqT K H t ((zs.take 2).map V.str) →
      (∀ r H', Ex H H' → H' r = some (.tup ((zs.take 2).map (fieldOf kvs))) → D.nx [some (.ref q), some (.ref lr), some (.ref wl), some (.ref p), some (.ref r), some .non, none, none, none, none, none, none, none, none, none] H') →
      tr D [some (.ref q), some (.ref lr), some (.ref wl), some (.ref p), none, none, none, none, none, none, none, none, none, none, none] H := by
  refine ⟨_, (ps_asg (pe_ic (pv 3) (takes_of rfl rfl rfl rfl) (pa_cons (pv 0) pa_nil) pk_nil) (pg_tup rfl (pgs_cons (pg_name (i := 4) sc__law_taken_right.nd rfl (Or.inl rfl)) (pgs_cons (pg_name (i := 5) sc__law_taken_right.nd rfl (Or.inl rfl)) pgs_nil))) (by rfl)), ?_⟩
  intro D H q x sd kvs lr rts wl zs p dx t g hp ht k
  have hk := g.k
  refine ⟨_, rfl, p, a.Parts, dx, a.Parts___call__, _, 12, _, rfl, hp, co_Parts T, ok_Parts_call T, hr.mono (by decide), _, rfl, ⟨_, hp⟩, rfl, p, dx, t, q, x, sd, kvs, zs.take 2, rfl, hp, ht, (by rw [List.length_take]; omega), (fun z hz => ?_), g.th, fun u r H1 e1 hr1 hu1 => ?_⟩
  · obtain ⟨h1, v, _, h2, _⟩ := g.key (take_sub hz)
    exact ⟨h1, v, h2⟩
  · exact ⟨u, _, rfl, st_of hu1, rfl, _, _, rfl, _, _, rfl, rfl, k r H1 e1 hr1⟩
def inW (W : List Str) (kv : Key × V) : Bool := inV (kV kv.1) (W.map V.str)
theorem ev_inL {ta tb : TE} {σ : L2.St} {H : Hp} {x : V} {xs : List V} (h1 : Ev ta σ H x) (h2 : EvL tb σ H xs) (hf : flatV x = true) (ha : xs.all flatV = true) : Ev (tOp (rIn K false) ta tb) σ H (.bl (inV x xs)) := fun H1 e Q q =>
  h1 H1 e _ fun H2 e2 => h2 H2 (e.trans e2) _ fun p H3 np e3 hp => ⟨p, xs, rfl, .inl (sq_of hp), hf, ha, by rw [if_neg Bool.false_ne_true]; exact q H3 (e2.trans e3)⟩
theorem flat_strs (zs : List Str) : (zs.map V.str).all flatV = true := by
  rw [List.all_eq_true]
  intro v hv
  obtain ⟨z, _, rfl⟩ := List.mem_map.mp hv
  rfl
theorem tk_some (T : Txt P K mg a) {cdv : Value} {A : Around} {outer : List Env} {s : Shared} {H0 : Hp} {E : XK} (hr : Room 20 (A.deeper (envOfC "_law_taken_right" (defScope s__law_taken_right) s.heap.objs.size a._law_taken_right cdv))) (hG : A.guards = some []) :
    ∃ tr, PS (tkX P w K mg base a cdv A outer s H0 E) (tkB 2) tr ∧ ∀ (D : Ends) (H : Hp) (q : Addr) (x : V) (sd : Addr) (kvs : List (Key × V)) (lr : Addr) (rts : List Addr) (wl : Addr) (zs : List Str) (p r : Addr), TK K a q x sd kvs lr rts wl zs H →
      (∀ p2 ts H', Ex H H' → SqL K H' p2 (ts.map V.ref) → Prs H' ts (kvs.filter (inW (zs.take 2))) → D.nx [some (.ref q), some (.ref lr), some (.ref wl), some (.ref p), some (.ref r), some .non, some (.ref p2), none, none, none, none, none, none, none, none] H') →
      tr D [some (.ref q), some (.ref lr), some (.ref wl), some (.ref p), some (.ref r), some .non, none, none, none, none, none, none, none, none, none] H := by
  refine ⟨_, (ps_set (i := 6) sc__law_taken_right.nd rfl (Or.inr rfl) (pe_lc (own := [("one", 7), ("far", 8)]) (g := (gTup K 2 (gCons (gName 7) (gCons (gName 8) gNil)))) (by rfl) sc__law_taken_right.nd (pi_list (pv 1)) (blkOk_by (own := [("one", 7), ("far", 8)]) (N := ["made", "pairs_here", "words", "hook", "row", "rest", "some", "one", "far", "due", "word", "again", "told", "whole", "other"]) (sc := defScope s__law_taken_right) (by decide +kernel)) (fun _ _ _ _ _ => (pg_tup rfl (pgs_cons (pg_name (i := 7) sc__law_taken_right.nd rfl (Or.inl rfl)) (pgs_cons (pg_name (i := 8) sc__law_taken_right.nd rfl (Or.inl rfl)) pgs_nil)))) (fun _ _ _ _ _ => (pts_one (pt_cmpR (op_in_seq' (K := K) rfl) (pv 7) (pe_slice (sl_list' (K := K) rfl) (pv 2) po_none (po_some pe_int)) (by rfl)))) (fun _ _ _ _ _ => (pe_tup (pa_cons (pv 7) (pa_cons (pv 8) pa_nil)))))), ?_⟩
  intro D H q x sd kvs lr rts wl zs p r g k
  have hl := g.len
  have er := er_prs (K := K) (kvs := kvs) (vs := [7, 8]) (wi := iList K (tVar 1)) (σ := [some (.ref q), some (.ref lr), some (.ref wl), some (.ref p), some (.ref r), some .non, none, none, none, none, none, none, none, none, none]) (H := H) (j := 7) (l := 8) (ts := rts) (te := tTup (tCons (tVar 7) (tCons (tVar 8) tNil))) (tt := tTest (tOp (rIn K false) (tVar 7) (tSl (rSlL K) (tVar 2) tNoPart (tPart (tC (.int 2)))))) (ei_list (ev_var rfl) (sq_of g.hl)) g.prs (inW (zs.take 2)) id (by omega) (fun _ _ => rfl) (fun kv hkv H1 e1 => ?_) (fun kv hkv hf H1 e1 => eu_tup (ea_cons (ev_var rfl) (ea_cons (ev_var rfl) ea_nil)) (by show 2 ≤ 100000; decide))
  · rw [List.map_id] at er
    exact s_asgR er fun p2 ts H1 e1 h1 h2 => k p2 ts H1 e1 h1 h2
  · obtain ⟨z, hz, _⟩ := g.ok.lab _ hkv
    have h2 := cut_take 2 (zs.map V.str)
    have es := el_sl (K := K) (te := tVar 2) (σ := (([some (.ref q), some (.ref lr), some (.ref wl), some (.ref p), some (.ref r), some .non, none, none, none, none, none, none, none, none, none] : L2.St).set 7 (some (kV kv.1))).set 8 (some kv.2)) (H := H1) (tlo := tNoPart) (thi := tPart (tC (.int 2))) (lo := none) (hi := some 2) (ev_var rfl) (sq_of (e1 _ _ g.w)) eo_none (eo_some ev_c)
    rw [show (some (2 : Int)) = some ((2 : Nat) : Int) from rfl, h2, ← List.map_take] at es
    refine et_test (ev_inL (ev_var rfl) es (by rw [hz]; rfl) (flat_strs _))
theorem ev_ixE {te : TE} {σ : L2.St} {H : Hp} {xs : List V} {v : V} (h : EvL te σ H xs) (hv : xs[0]? = some v) : Ev (tOp (rIxL K) te (tC (.int 0))) σ H v := fun H1 e Q q =>
  h H1 e _ fun p H2 np e2 hp => ⟨p, xs, 0, v, rfl, rfl, sq_of hp, (at_nat (i := 0) (List.getElem?_eq_some_iff.mp hv).1).trans hv, q H2 e2⟩
theorem pick_head {kvs : List (Key × V)} {g : Key × V → Bool} {z : Str} {v : V} (nd : (kvs.map (·.1)).Nodup) (hm : ((Sum.inr z : Key), v) ∈ kvs) (hg : g (.inr z, v) = true) : (((kvs.filter g).filter fun kv => decide (kV kv.1 = V.str z)).map (·.2))[0]? = some v := by
  have h0 : ((Sum.inr z : Key), v) ∈ (kvs.filter g).filter fun kv => decide (kV kv.1 = V.str z) := by
    rw [List.mem_filter, List.mem_filter]
    exact ⟨⟨hm, hg⟩, decide_eq_true rfl⟩
  have hall : ∀ p ∈ (kvs.filter g).filter fun kv => decide (kV kv.1 = V.str z), p.2 = v := fun p hp => by
    rw [List.mem_filter, List.mem_filter] at hp
    have hk : p.1 = .inr z := kV_inj (of_decide_eq_true hp.2 : kV p.1 = kV (.inr z))
    have h1 := val_nodup nd _ hp.1.1
    have h2 := val_nodup nd _ hm
    rw [hk] at h1
    exact Option.some.inj (h1.symm.trans h2)
  generalize (kvs.filter g).filter (fun kv => decide (kV kv.1 = V.str z)) = L at h0 hall
  cases L with
  | nil => cases h0
  | cons p r => rw [List.map_cons, List.getElem?_cons_zero, hall p List.mem_cons_self]
theorem in_self {W : List Str} {z : Str} {v : V} (h : z ∈ W) : inW W (.inr z, v) = true := by
  unfold inW inV
  rw [List.any_eq_true]
  exact ⟨.str z, List.mem_map_of_mem h, by show eqV (V.str z) (V.str z) = true; simp [eqV]⟩

end
end BJL

namespace BJL
open PySem PySem.Spec PyProof.Rows L2 BJ
section
variable {P : Program} {w : World} {K : PySem.W.Frag} {mg : Str → Option Value} {base : Heap} {a : Adr}
open Evl
theorem tk_due (T : Txt P K mg a) {cdv : Value} {A : Around} {outer : List Env} {s : Shared} {H0 : Hp} {E : XK} (hr : Room 20 (A.deeper (envOfC "_law_taken_right" (defScope s__law_taken_right) s.heap.objs.size a._law_taken_right cdv))) (hG : A.guards = some []) :
    ∃ tr, PS (tkX P w K mg base a cdv A outer s H0 E) (tkB 3) tr ∧ ∀ (D : Ends) (H : Hp) (q : Addr) (x : V) (sd : Addr) (kvs : List (Key × V)) (lr : Addr) (rts : List Addr) (wl : Addr) (zs : List Str) (p r p2 : Addr) (ts : List Addr), TK K a q x sd kvs lr rts wl zs H → SqL K H p2 (ts.map V.ref) → Prs H ts (kvs.filter (inW (zs.take 2))) →
      (∀ p3 H', Ex H H' → H' p3 = some (.lst ((zs.take 2).map (fieldOf kvs))) → D.nx [some (.ref q), some (.ref lr), some (.ref wl), some (.ref p), some (.ref r), some .non, some (.ref p2), none, none, some (.ref p3), none, none, none, none, none] H') →
      tr D [some (.ref q), some (.ref lr), some (.ref wl), some (.ref p), some (.ref r), some .non, some (.ref p2), none, none, none, none, none, none, none, none] H := by
  refine ⟨_, (ps_setLc (i := 9) (own := [("word", 10)]) (g := (gName 10)) (by rfl) sc__law_taken_right.nd rfl rfl (sw_true rfl rfl rfl (by decide +kernel)) (pi_list (pe_slice sl_list (pv 2) po_none (po_some pe_int))) (blkOk_by (own := [("word", 10)]) (N := ["made", "pairs_here", "words", "hook", "row", "rest", "some", "one", "far", "due", "word", "again", "told", "whole", "other"]) (sc := defScope s__law_taken_right) (by decide +kernel)) (fun _ _ _ _ _ => (pg_name (i := 10) sc__law_taken_right.nd rfl (Or.inr rfl))) (fun _ _ _ _ _ => pts_nil) (fun _ _ _ _ _ => (pe_ix (ix_list' (K := K) rfl) (pe_lc (own := [("one", 7), ("far", 8)]) (g := (gTup K 2 (gCons (gName 7) (gCons (gName 8) gNil)))) (by rfl) sc__law_taken_right.nd (pi_list' (K := K) rfl (pv 6)) (blkOk_by (own := [("one", 7), ("far", 8)]) (N := ["made", "pairs_here", "words", "hook", "row", "rest", "some", "one", "far", "due", "word", "again", "told", "whole", "other"]) (sc := { kind := .function, names := [((".0" : Str), NameKind.local), (("word" : Str), NameKind.cell), (("some" : Str), NameKind.cell)], isGenerator := false, isCoroutine := false, more := [] }) (by decide +kernel)) (fun _ _ _ _ _ => (pg_tup rfl (pgs_cons (pg_name (i := 7) sc__law_taken_right.nd rfl (Or.inl rfl)) (pgs_cons (pg_name (i := 8) sc__law_taken_right.nd rfl (Or.inl rfl)) pgs_nil)))) (fun _ _ _ _ _ => (pts_one (pt_cmpR op_eq (pv 7) (pv 10) (nomark _)))) (fun _ _ _ _ _ => (pv 8))) pe_int (fun _ _ => rfl)))), ?_⟩
  intro D H q x sd kvs lr rts wl zs p r p2 ts g h2 hP k
  have hl := g.len
  have hfl := List.length_filter_le (inW (zs.take 2)) kvs
  have es := el_sl (K := K) (te := tVar 2) (σ := [some (.ref q), some (.ref lr), some (.ref wl), some (.ref p), some (.ref r), some .non, some (.ref p2), none, none, none, none, none, none, none, none]) (H := H) (tlo := tNoPart) (thi := tPart (tC (.int 2))) (lo := none) (hi := some 2) (ev_var rfl) (sq_of g.w) eo_none (eo_some ev_c)
  rw [show (some (2 : Int)) = some ((2 : Nat) : Int) from rfl, cut_take 2, ← List.map_take] at es
  have el := el_all (vs := [10]) (j := 10) (te := tOp (rIxL K) (tLc (iList K (tVar 6)) (gTup K 2 (gCons (gName 7) (gCons (gName 8) gNil))) (tTest (tOp rEq (tVar 7) (tVar 10))) (tVar 8) [7, 8]) (tC (.int 0))) (ei_listU (K := K) es) (fun y => fieldOf kvs (strOf y)) (by rw [List.length_map, List.length_take]; have := g.k; omega) (fun _ => rfl) (fun y hy H1 e1 => by
    obtain ⟨z, hz, rfl⟩ := List.mem_map.mp hy
    obtain ⟨_, v, hv, _, hf⟩ := g.key (take_sub hz)
    refine ev_ixE (el_prs (K := K) (kvs := kvs.filter (inW (zs.take 2))) (ts := ts) (ei_list (ev_var rfl) (ex_l e1 h2)) (hP.ex e1) (fun kv => decide (kV kv.1 = V.str z)) (fun kv => kv.2) (by omega) (fun _ _ => rfl) (fun kv hkv H2 e2 => ?_) (fun kv hkv hf H2 e2 => ev_var rfl)) ?_
    · obtain ⟨y, hy2, _⟩ := g.ok.lab _ (List.mem_filter.mp hkv).1
      exact et_test (ev_op (ev_var rfl) (ev_var rfl) (rv_eq (by rw [hy2]; rfl)))
    · rw [show fieldOf kvs (strOf (V.str z)) = v from hf]
      exact pick_head g.ok.nd hv (in_self hz))
  rw [List.map_map] at el
  exact s_asgL2 el fun p3 H1 e1 h3 => k p3 H1 e1 h3
theorem tk_again (T : Txt P K mg a) {cdv : Value} {A : Around} {outer : List Env} {s : Shared} {H0 : Hp} {E : XK} (hr : Room 20 (A.deeper (envOfC "_law_taken_right" (defScope s__law_taken_right) s.heap.objs.size a._law_taken_right cdv))) (hG : A.guards = some []) :
    ∃ tr, PS (tkX P w K mg base a cdv A outer s H0 E) (tkB 4) tr ∧ ∀ (D : Ends) (H : Hp) (q : Addr) (x : V) (sd : Addr) (kvs : List (Key × V)) (lr : Addr) (rts : List Addr) (wl : Addr) (zs : List Str) (p r p2 p3 dx t : Addr), TK K a q x sd kvs lr rts wl zs H → H p = some (.ins a.Parts dx [("label_row", .ref t)]) → SqT K H t ((zs.take 2).map V.str) →
      (∀ u r2 H', Ex H H' → H' r2 = some (.tup ((zs.take 2).map (fieldOf kvs))) → H' u = some (.tup [.ref r2, .non]) → D.nx [some (.ref q), some (.ref lr), some (.ref wl), some (.ref p), some (.ref r), some .non, some (.ref p2), none, none, some (.ref p3), none, some (.ref u), none, none, none] H') →
      tr D [some (.ref q), some (.ref lr), some (.ref wl), some (.ref p), some (.ref r), some .non, some (.ref p2), none, none, some (.ref p3), none, none, none, none, none] H := by
  refine ⟨_, (ps_set (i := 11) sc__law_taken_right.nd rfl (Or.inl rfl) (pe_ic0 (pv 3) (takes_of rfl rfl rfl rfl) (pk_cons (pv 0) pk_nil))), ?_⟩
  intro D H q x sd kvs lr rts wl zs p r p2 p3 dx t g hp ht k
  have hk := g.k
  refine ⟨_, rfl, p, a.Parts, dx, a.Parts___call__, _, 12, _, rfl, hp, co_Parts T, ok_Parts_call_kw T, hr.mono (by decide), _, rfl, ⟨_, hp⟩, rfl, rfl, p, dx, t, q, x, sd, kvs, zs.take 2, rfl, hp, ht, (by rw [List.length_take]; omega), (fun z hz => ?_), g.th, fun u r2 H1 e1 hr1 hu1 => k u r2 H1 e1 hr1 hu1⟩
  obtain ⟨h1, v, _, h2, _⟩ := g.key (take_sub hz)
  exact ⟨h1, v, h2⟩
theorem et_notN {te : TE} {σ : L2.St} {H : Hp} {v : V} (h : Ev te σ H v) : EvT (tB (tNotN te)) σ H (!decide (v = V.non)) := et_B fun H1 e Q q => h H1 e _ fun H2 e2 => q H2 e2
theorem tk_test (T : Txt P K mg a) {cdv : Value} {A : Around} {outer : List Env} {s : Shared} {H0 : Hp} {E : XK} (hr : Room 20 (A.deeper (envOfC "_law_taken_right" (defScope s__law_taken_right) s.heap.objs.size a._law_taken_right cdv))) (hG : A.guards = some []) :
    ∃ tr, PS (tkX P w K mg base a cdv A outer s H0 E) (tkB 5) tr ∧ ∀ (D : Ends) (H : Hp) (q lr wl p r p2 p3 u r2 : Addr) (xs : List V), H r = some (.tup xs) → H u = some (.tup [.ref r2, .non]) →
      (∀ H', Ex H H' → D.nx [some (.ref q), some (.ref lr), some (.ref wl), some (.ref p), some (.ref r), some .non, some (.ref p2), none, none, some (.ref p3), none, some (.ref u), none, none, none] H') →
      tr D [some (.ref q), some (.ref lr), some (.ref wl), some (.ref p), some (.ref r), some .non, some (.ref p2), none, none, some (.ref p3), none, some (.ref u), none, none, none] H := by
  refine ⟨_, (ps_if (PW.pt (pw_or (pt_cmp (pc_notN (pv 5))) (pw_or (pt_cmp (pc_notN (pe_ix (ix_tup' (K := K) rfl) (pv 11) pe_int (fun _ _ => rfl)))) (pw_or1 (pt_not (pt_val (pe_callB (call_isG' (K := K) rfl) (by rfl) T.b_isinstance (by decide +kernel) (pa_cons (pv 4) (pa_cons (pe_bltn (v := .ty "tuple") (u := .type "tuple") (by rfl) T.b_tuple (by decide +kernel) (by exact rfl)) pa_nil)))))))))
 (pss_one (ps_ret pe_bl))
 pss_nil), ?_⟩
  intro D H q lr wl p r p2 p3 u r2 xs h1 h2 k
  exact s_when (b := !true || (!true || !true)) (et_or (et_notN (v := .non) (ev_var rfl)) fun _ => et_or (et_notN (v := .non) (ev_ixT (i := 1) (ev_var rfl) ev_c (st_of h2) rfl)) fun _ => et_not (et_B (ev_cb (ea_cons (ev_var rfl) (ea_cons ev_c ea_nil)) (rc_is (ty_tup (st_of h1)) (n := "tuple") (kit_ty (by decide +kernel)))))) (fun z => nomatch z) fun _ H1 e1 => k H1 e1
/-- two lists of pairs that evaluate, alike -/
theorem ev_like {W : WX} {t1 t2 : TE} {σ : L2.St} {H : Hp} {kvs : List (Key × V)} (h1 : EvR K t1 σ H kvs) (h2 : EvR K t2 σ H kvs) (hl : kvs.length ≤ 100) (ok : ∀ kv ∈ kvs, (∃ z, kv.1 = .inr z) ∧ ValAt K a H kv.2) : Ev (tCa (spLike K a) W (tCons t1 (tCons t2 tNil))) σ H (.bl true) := fun H1 e Q q =>
  h1 H1 e _ fun p ts H2 e2 hp hP => h2 H2 (e.trans e2) _ fun p2 us H3 e3 hp2 hP2 => ⟨p, p2, ts, us, kvs, rfl, ex_l e3 hp, hp2, hP.ex e3, hP2, hl, (fun kv hk => ⟨(ok kv hk).1, (ok kv hk).2.ex ((e.trans e2).trans e3)⟩), fun H' e' => q H' ((e2.trans e3).trans e')⟩
theorem tk_loop (T : Txt P K mg a) {cdv : Value} {A : Around} {outer : List Env} {s : Shared} {H0 : Hp} {E : XK} (hr : Room 20 (A.deeper (envOfC "_law_taken_right" (defScope s__law_taken_right) s.heap.objs.size a._law_taken_right cdv))) (hG : A.guards = some []) :
    ∃ tr, PS (tkX P w K mg base a cdv A outer s H0 E) (tkB 6) tr ∧ ∀ (D : Ends) (H : Hp) (q lr wl p r p2 p3 u r2 : Addr) (xs : List V), H r = some (.tup xs) → H r2 = some (.tup xs) → H u = some (.tup [.ref r2, .non]) → H p3 = some (.lst xs) → xs.length ≤ 10 → (∀ v ∈ xs, ValAt K a H v) →
      (∀ o12 H', Ex H H' → D.nx [some (.ref q), some (.ref lr), some (.ref wl), some (.ref p), some (.ref r), some .non, some (.ref p2), none, none, some (.ref p3), none, some (.ref u), o12, none, none] H') →
      tr D [some (.ref q), some (.ref lr), some (.ref wl), some (.ref p), some (.ref r), some .non, some (.ref p2), none, none, some (.ref p3), none, some (.ref u), none, none, none] H := by
  have G__law_like : CallP P w K mg base 2 (.ref a._law_like) (spLike K a) := ok__law_like T
  refine ⟨_, (ps_for (passes_of rfl) rfl (pi_tup (pe_tup (pa_cons (pv 4) (pa_cons (pe_ix (ix_tup' (K := K) rfl) (pv 11) pe_int (fun _ _ => rfl)) pa_nil)))) (pg_name (i := 12) sc__law_taken_right.nd rfl (Or.inl rfl))
 (pss_one (ps_if (pt_not (pt_val (pe_ca G__law_like (hr.mono (by decide)) hG rfl T.g__law_like T.k__law_like (takes_of rfl rfl rfl rfl) (pa_cons (pe_lc (own := [("far", 8)]) (g := (gName 8)) (by rfl) sc__law_taken_right.nd (pi_tup (pv 12)) (blkOk_by (own := [("far", 8)]) (N := ["made", "pairs_here", "words", "hook", "row", "rest", "some", "one", "far", "due", "word", "again", "told", "whole", "other"]) (sc := defScope s__law_taken_right) (by decide +kernel)) (fun _ _ _ _ _ => (pg_name (i := 8) sc__law_taken_right.nd rfl (Or.inl rfl))) (fun _ _ _ _ _ => pts_nil) (fun _ _ _ _ _ => (pe_tup (pa_cons pe_str (pa_cons (pv 8) pa_nil))))) (pa_cons (pe_lc (own := [("far", 8)]) (g := (gName 8)) (by rfl) sc__law_taken_right.nd (pi_list (pv 9)) (blkOk_by (own := [("far", 8)]) (N := ["made", "pairs_here", "words", "hook", "row", "rest", "some", "one", "far", "due", "word", "again", "told", "whole", "other"]) (sc := defScope s__law_taken_right) (by decide +kernel)) (fun _ _ _ _ _ => (pg_name (i := 8) sc__law_taken_right.nd rfl (Or.inl rfl))) (fun _ _ _ _ _ => pts_nil) (fun _ _ _ _ _ => (pe_tup (pa_cons pe_str (pa_cons (pv 8) pa_nil))))) pa_nil)))))
 (pss_one (ps_ret pe_bl))
 pss_nil))), ?_⟩
  intro D H q lr wl p r p2 p3 u r2 xs h1 h2 hu h3 hl hv k
  refine ⟨_, rfl, _, rfl, u, _, 1 - 1, .ref r2, rfl, rfl, st_of hu, rfl, (by show 2 ≤ sizeLine; decide), fun tp ntp => ?_⟩
  have e1 := Ex.new (o := .tup [.ref r, .ref r2]) ntp
  refine ⟨tp, rfl, ⟨_, st_of upd_same⟩, for_tup (K := K) (a := tp) (xs := [.ref r, .ref r2]) (fun i σ' H' => (∃ o12, σ' = [some (.ref q), some (.ref lr), some (.ref wl), some (.ref p), some (.ref r), some .non, some (.ref p2), none, none, some (.ref p3), none, some (.ref u), o12, none, none]) ∧ Ex (upd H tp (.tup [.ref r, .ref r2])) H') ⟨⟨_, rfl⟩, Ex.refl _⟩ (fun i σ' H' _ h => st_of (h.2 _ _ upd_same)) (fun i y σ' H' hy h => ?_) fun σ' H' h => ?_⟩
  · obtain ⟨⟨o12, hσ⟩, e2⟩ := h
    subst hσ
    have e := e1.trans e2
    have hrow : ∃ rr, y = .ref rr ∧ H rr = some (.tup xs) := by
      have := List.mem_of_getElem? hy
      simp only [List.mem_cons, List.not_mem_nil, or_false] at this
      rcases this with rfl | rfl
      · exact ⟨r, rfl, h1⟩
      · exact ⟨r2, rfl, h2⟩
    obtain ⟨rr, rfl, hrr⟩ := hrow
    have tup : ∀ (σ : L2.St) (H1 : Hp) (v : V), EvU (tTup (tCons (tC (.str "")) (tCons (tVar 8) tNil))) (σ.set 8 (some v)) H1 [kV (.inr ""), v] → True := fun _ _ _ _ => trivial
    refine s_when (b := !true) (et_not (et_B (ev_like (K := K) (kvs := xs.map fun v => ((Sum.inr "" : Key), v)) (er_nm (ei_tup (ev_var rfl) (st_of (e _ _ hrr))) _ (by omega) (fun _ => rfl) fun v hm H1 e1 => eu_tup (ea_cons ev_c (ea_cons (ev_var rfl) ea_nil)) (by show 2 ≤ 100000; decide)) (er_nm (ei_list (ev_var rfl) (sq_of (e _ _ h3))) _ (by omega) (fun _ => rfl) fun v hm H1 e1 => eu_tup (ea_cons ev_c (ea_cons (ev_var rfl) ea_nil)) (by show 2 ≤ 100000; decide)) (by rw [List.length_map]; omega) fun kv hkv => ?_))) (fun z => nomatch z) fun _ H3 e3 => ⟨⟨_, rfl⟩, e2.trans e3⟩
    obtain ⟨v, hv2, rfl⟩ := List.mem_map.mp hkv
    exact ⟨⟨"", rfl⟩, (hv v hv2).ex e⟩
  · obtain ⟨⟨o12, hσ⟩, e2⟩ := h
    subst hσ
    exact k _ H' (e1.trans e2)

end
end BJL

namespace BJL
open PySem PySem.Spec PyProof.Rows L2 BJ
section
variable {P : Program} {w : World} {K : PySem.W.Frag} {mg : Str → Option Value} {base : Heap} {a : Adr}
open Evl
theorem tk_whole (T : Txt P K mg a) {cdv : Value} {A : Around} {outer : List Env} {s : Shared} {H0 : Hp} {E : XK} (hr : Room 20 (A.deeper (envOfC "_law_taken_right" (defScope s__law_taken_right) s.heap.objs.size a._law_taken_right cdv))) (hG : A.guards = some []) :
    ∃ tr, PS (tkX P w K mg base a cdv A outer s H0 E) (tkB 7) tr ∧ ∀ (D : Ends) (H : Hp) (q lr wl p r p2 p3 u : Addr) (o12 : Option V), 
      (∀ wo dx H', Ex H H' → H' wo = some (.ins a.Whole dx []) → D.nx [some (.ref q), some (.ref lr), some (.ref wl), some (.ref p), some (.ref r), some .non, some (.ref p2), none, none, some (.ref p3), none, some (.ref u), o12, some (.ref wo), none] H') →
      tr D [some (.ref q), some (.ref lr), some (.ref wl), some (.ref p), some (.ref r), some .non, some (.ref p2), none, none, some (.ref p3), none, some (.ref u), o12, none, none] H := by
  have G0_Whole := ok_Whole (P := P) (w := w) (base := base) (mg := mg) T
  refine ⟨_, (ps_set (i := 13) sc__law_taken_right.nd rfl (Or.inl rfl) (pe_cx0 G0_Whole (hr.mono (by decide)) rfl T.g_Whole T.k_Whole (takes_of rfl rfl rfl rfl) pk_nil)), ?_⟩
  intro D H q lr wl p r p2 p3 u o12 k
  exact ⟨rfl, rfl, fun x dx nx ndx hne => k x dx _ ((Ex.new ndx).trans (Ex.new (by rw [upd_ne hne.symm]; exact nx))) upd_same⟩
theorem tk_pairs (T : Txt P K mg a) {cdv : Value} {A : Around} {outer : List Env} {s : Shared} {H0 : Hp} {E : XK} (hr : Room 20 (A.deeper (envOfC "_law_taken_right" (defScope s__law_taken_right) s.heap.objs.size a._law_taken_right cdv))) (hG : A.guards = some []) :
    ∃ tr, PS (tkX P w K mg base a cdv A outer s H0 E) (tkB 8) tr ∧ ∀ (D : Ends) (H : Hp) (q : Addr) (x : V) (sd : Addr) (kvs : List (Key × V)) (lr : Addr) (rts : List Addr) (wl : Addr) (zs : List Str) (p r p2 p3 u wo dx : Addr) (o12 : Option V), TK K a q x sd kvs lr rts wl zs H → H wo = some (.ins a.Whole dx []) →
      (∀ t1 z1 b1 s1 t2 z2 b2 s2 H', Ex H H' → b1 ≠ b2 → s1 ≠ s2 → H s1 = none → BkAt a H' b1 s1 kvs → BkAt a H' b2 s2 kvs → H' z1 = some (.tup []) → H' z2 = some (.tup []) → H' t1 = some (.tup [.ref z1, .ref b1]) → H' t2 = some (.tup [.ref z2, .ref b2]) → D.nx [some (.ref q), some (.ref lr), some (.ref wl), some (.ref p), some (.ref r), some .non, some (.ref p2), some (.ref t1), none, some (.ref p3), none, some (.ref u), o12, some (.ref wo), some (.ref t2)] H') →
      tr D [some (.ref q), some (.ref lr), some (.ref wl), some (.ref p), some (.ref r), some .non, some (.ref p2), none, none, some (.ref p3), none, some (.ref u), o12, some (.ref wo), none] H := by
  refine ⟨_, (ps_par (i := 7) (j := 14) rfl sc__law_taken_right.nd rfl rfl (by decide) rfl rfl (pa_cons (pe_ic (pv 13) (takes_of rfl rfl rfl rfl) (pa_cons (pv 0) pa_nil) pk_nil) (pa_cons (pe_ic0 (pv 13) (takes_of rfl rfl rfl rfl) (pk_cons (pv 0) pk_nil)) pa_nil)) (by rfl)), ?_⟩
  intro D H q x sd kvs lr rts wl zs p r p2 p3 u wo dx o12 g hwo k
  have hl := g.len
  refine ⟨_, rfl, wo, a.Whole, dx, a.Whole___call__, _, 16, _, rfl, hwo, co_Whole T, ok_Whole_call T, hr.mono (by decide), _, rfl, ⟨_, hwo⟩, rfl, _, q, x, sd, kvs, rfl, g.th, g.ok.en T, by omega, fun t1 z1 b1 s1 H1 nb1 ns1 e1 bk1 hz1 ht1 => ?_⟩
  have g1 := g.ex e1
  refine ⟨_, rfl, wo, a.Whole, dx, a.Whole___call__, _, 16, _, rfl, e1 _ _ hwo, co_Whole T, ok_Whole_call_kw T, hr.mono (by decide), _, rfl, ⟨_, e1 _ _ hwo⟩, rfl, rfl, _, q, x, sd, kvs, rfl, g1.th, g1.ok.en T, by omega, fun t2 z2 b2 s2 H2 nb2 ns2 e2 bk2 hz2 ht2 => ?_⟩
  obtain ⟨dx1, hb1⟩ := id bk1.at_
  have hs1 := bk1.dict
  exact ⟨_, _, rfl, k t1 z1 b1 s1 t2 z2 b2 s2 H2 (e1.trans e2) (fun z => by rw [← z, hb1] at nb2; cases nb2) (fun z => by rw [← z, hs1] at ns2; cases ns2) ns1 (bk1.ex e2) bk2 (e2 _ _ hz1) hz2 (e2 _ _ ht1) ht2⟩
theorem nil_eqv : SeqAt.shaped (.tuple []) = true ∧ PyData.eqv (.tuple []) (.tuple []) = true := by decide +kernel
theorem ev_neT0 {t1 : TE} {σ : L2.St} {H : Hp} {z : Addr} (h : Ev t1 σ H (.ref z)) (hz : H z = some (.tup [])) : Ev (tOp (rNeD K) t1 (tTup tNil)) σ H (.bl false) := fun H1 e Q q =>
  h H1 e _ fun H2 e2 => ⟨Nat.zero_le _, fun t0 n0 => ⟨.tuple [], .tuple [], .tup (st_of ((e2.trans (Ex.new n0)) _ _ (e _ _ hz))) .nil, .tup (st_of upd_same) .nil, nil_eqv.1, nil_eqv.1, by rw [nil_eqv.2]; exact q _ (e2.trans (Ex.new n0))⟩⟩
theorem tk_test2 (T : Txt P K mg a) {cdv : Value} {A : Around} {outer : List Env} {s : Shared} {H0 : Hp} {E : XK} (hr : Room 20 (A.deeper (envOfC "_law_taken_right" (defScope s__law_taken_right) s.heap.objs.size a._law_taken_right cdv))) (hG : A.guards = some []) :
    ∃ tr, PS (tkX P w K mg base a cdv A outer s H0 E) (tkB 9) tr ∧ ∀ (D : Ends) (H : Hp) (q lr wl p r p2 p3 u wo t1 z1 b1 s1 t2 z2 b2 s2 : Addr) (kvs : List (Key × V)) (o12 : Option V), b1 ≠ b2 → BkAt a H b1 s1 kvs → BkAt a H b2 s2 kvs → H z1 = some (.tup []) → H z2 = some (.tup []) → H t1 = some (.tup [.ref z1, .ref b1]) → H t2 = some (.tup [.ref z2, .ref b2]) →
      (∀ H', Ex H H' → D.nx [some (.ref q), some (.ref lr), some (.ref wl), some (.ref p), some (.ref r), some .non, some (.ref p2), some (.ref t1), none, some (.ref p3), none, some (.ref u), o12, some (.ref wo), some (.ref t2)] H') →
      tr D [some (.ref q), some (.ref lr), some (.ref wl), some (.ref p), some (.ref r), some .non, some (.ref p2), some (.ref t1), none, some (.ref p3), none, some (.ref u), o12, some (.ref wo), some (.ref t2)] H := by
  refine ⟨_, (ps_if (PW.pt (pw_or (pt_cmpR (op_neD' (K := K) rfl hr.units) (pe_ix (ix_tup' (K := K) rfl) (pv 7) pe_int (fun _ _ => rfl)) (pe_tup pa_nil) (nomark _)) (pw_or (pt_cmpR (op_neD' (K := K) rfl hr.units) (pe_ix (ix_tup' (K := K) rfl) (pv 14) pe_int (fun _ _ => rfl)) (pe_tup pa_nil) (nomark _)) (pw_or (pt_cmpR (op_eqI (Nat.lt_of_le_of_lt (Nat.le_add_right _ _) hr.units)) (pe_ix (ix_tup' (K := K) rfl) (pv 7) pe_int (fun _ _ => rfl)) (pe_ix (ix_tup' (K := K) rfl) (pv 14) pe_int (fun _ _ => rfl)) (nomark _)) (pw_or1 (pt_not (pt_val (pe_callB (call_isG' (K := K) rfl) (by rfl) T.b_isinstance (by decide +kernel) (pa_cons (pe_ix (ix_tup' (K := K) rfl) (pv 7) pe_int (fun _ _ => rfl)) (pa_cons (pe_glob (v := .ref a.Book) (by rfl) T.g_Book rfl) pa_nil))))))))))
 (pss_one (ps_ret pe_bl))
 pss_nil), ?_⟩
  intro D H q lr wl p r p2 p3 u wo t1 z1 b1 s1 t2 z2 b2 s2 kvs o12 hne bk1 bk2 h1 h2 h3 h4 k
  obtain ⟨dx1, hb1⟩ := id bk1.at_
  obtain ⟨dx2, hb2⟩ := id bk2.at_
  have nc : NodeC a a.Book := by unfold NodeC; simp
  exact s_when (b := false || (false || (false || !true))) (et_or (et_test (ev_neT0 (ev_ixT (i := 0) (ev_var rfl) ev_c (st_of h3) rfl) h1)) fun _ => et_or (et_test (ev_neT0 (ev_ixT (i := 0) (ev_var rfl) ev_c (st_of h4) rfl) h2)) fun _ => et_or (et_test (ev_op (ev_ixT (i := 1) (ev_var rfl) ev_c (st_of h3) rfl) (ev_ixT (i := 1) (ev_var rfl) ev_c (st_of h4) rfl) fun H1 e Q q => ⟨b1, b2, a.Book, dx1, dx2, _, _, rfl, rfl, e _ _ hb1, e _ _ hb2, T.e_Book, by rw [decide_eq_false hne]; exact q H1 (Ex.refl _)⟩)) fun _ => et_not (et_B (ev_cb (ea_cons (ev_ixT (i := 1) (ev_var rfl) ev_c (st_of h3) rfl) (ea_cons ev_c ea_nil)) (rc_isN (ty_node T hb1 nc) T.w_Book_Book)))) (fun z => nomatch z) fun _ H1 e1 => k H1 e1
theorem tk_enter (T : Txt P K mg a) {cdv : Value} {A : Around} {outer : List Env} {s : Shared} {H0 : Hp} {E : XK} (hr : Room 20 (A.deeper (envOfC "_law_taken_right" (defScope s__law_taken_right) s.heap.objs.size a._law_taken_right cdv))) (hG : A.guards = some []) :
    ∃ tr, PS (tkX P w K mg base a cdv A outer s H0 E) (tkB 10) tr ∧ ∀ (D : Ends) (H : Hp) (q lr wl p r p2 p3 u wo t1 z1 b1 s1 t2 : Addr) (kvs : List (Key × V)) (o12 : Option V), BkAt a H b1 s1 kvs → H t1 = some (.tup [.ref z1, .ref b1]) → kvs.length ≤ 5 → valV kvs (.inr "later") = none →
      (∀ H', SameBut s1 H H' → D.nx [some (.ref q), some (.ref lr), some (.ref wl), some (.ref p), some (.ref r), some .non, some (.ref p2), some (.ref t1), none, some (.ref p3), none, some (.ref u), o12, some (.ref wo), some (.ref t2)] H') →
      tr D [some (.ref q), some (.ref lr), some (.ref wl), some (.ref p), some (.ref r), some .non, some (.ref p2), some (.ref t1), none, some (.ref p3), none, some (.ref u), o12, some (.ref wo), some (.ref t2)] H := by
  refine ⟨_, (ps_expr (pe_me (pe_ix (ix_tup' (K := K) rfl) (pv 7) pe_int (fun _ _ => rfl)) (takes_of rfl rfl rfl rfl) (pa_cons pe_str (pa_cons pe_int pa_nil)) pk_nil)), ?_⟩
  intro D H q lr wl p r p2 p3 u wo t1 z1 b1 s1 t2 kvs o12 bk1 h3 hl hn k
  obtain ⟨dx1, hb1⟩ := id bk1.at_
  have nolk : ([("entries", V.ref s1)] : List (Str × V)).lookup ("enter" : Str) = none := rfl
  have hks : keyS (.str "later") = true := by decide +kernel
  refine ⟨_, rfl, t1, _, 1, .ref b1, rfl, rfl, st_of h3, rfl, b1, a.Book, dx1, a.Book_enter, _, 10, _, rfl, hb1, nolk, T.c_Book, T.p_Book_enter, ok_enter T, hr.mono (by decide), rfl, b1, s1, kvs, .str "later", .int 1, false, rfl, bk1, by omega, kn_dz T (.str _), key_fits hks, .inr ⟨.inr "later", rfl, by show (keyS (.str "later") || keyI (.str "later")) = true; rw [hks]; rfl, .inr ⟨hn, .inr ⟨⟨false, kn_dz T (.int 1), (fun z h => nomatch h), rfl⟩, ?_⟩⟩⟩⟩
  exact k _ fun y o hy ho => by rw [upd_ne hy]; exact ho
theorem tk_end (T : Txt P K mg a) {cdv : Value} {A : Around} {outer : List Env} {s : Shared} {H0 : Hp} {E : XK} (hr : Room 20 (A.deeper (envOfC "_law_taken_right" (defScope s__law_taken_right) s.heap.objs.size a._law_taken_right cdv))) (hG : A.guards = some []) :
    ∃ tr, PS (tkX P w K mg base a cdv A outer s H0 E) (tkB 11) tr ∧ ∀ (D : Ends) (H : Hp) (q : Addr) (x : V) (sd : Addr) (kvs : List (Key × V)) (lr : Addr) (rts : List Addr) (wl : Addr) (zs : List Str) (p r p2 p3 u wo t1 t2 z2 b2 s2 : Addr) (o12 : Option V), TK K a q x sd kvs lr rts wl zs H → BkAt a H b2 s2 kvs → H t2 = some (.tup [.ref z2, .ref b2]) →
      (∀ H', Ex H H' → D.rt (.bl true) H') →
      tr D [some (.ref q), some (.ref lr), some (.ref wl), some (.ref p), some (.ref r), some .non, some (.ref p2), some (.ref t1), none, some (.ref p3), none, some (.ref u), o12, some (.ref wo), some (.ref t2)] H := by
  have G__law_like : CallP P w K mg base 2 (.ref a._law_like) (spLike K a) := ok__law_like T
  refine ⟨_, (ps_ret (pe_and (pe_ca G__law_like (hr.mono (by decide)) hG rfl T.g__law_like T.k__law_like (takes_of rfl rfl rfl rfl) (pa_cons (pe_callTy call_list_of (by rfl) T.b_list (by decide +kernel) (pa_cons (pe_pr (pe_ix (ix_tup' (K := K) rfl) (pv 14) pe_int (fun _ _ => rfl))) pa_nil)) (pa_cons (pv 1) pa_nil))) (pe_one (pe_ca G__law_like (hr.mono (by decide)) hG rfl T.g__law_like T.k__law_like (takes_of rfl rfl rfl rfl) (pa_cons (pe_callTy call_list_of (by rfl) T.b_list (by decide +kernel) (pa_cons (pe_pr (pv 0)) pa_nil)) (pa_cons (pv 1) pa_nil)))))), ?_⟩
  intro D H q x sd kvs lr rts wl zs p r p2 p3 u wo t1 t2 z2 b2 s2 o12 g bk2 h4 k
  have hl := g.len
  have ok : ∀ kv ∈ kvs, (∃ z, kv.1 = .inr z) ∧ ValAt K a H kv.2 := fun kv hk => by
    obtain ⟨z, hz, _⟩ := g.ok.lab kv hk
    exact ⟨⟨z, hz⟩, g.ok.val kv hk⟩
  exact s_ret (v := .bl (true && true)) (ev_andV (ev_like (er_list fun H1 e Q q => pr_pairs T rfl rfl rfl rfl rfl (hr.mono (by decide)) (ev_ixT (i := 1) (ev_var rfl) ev_c (st_of (e _ _ h4)) rfl) (bk2.ex e) (by omega) q) (er_var rfl (sq_of g.hl) g.prs) (by omega) ok) fun _ => ev_like (er_list fun H1 e Q q => pr_fields T rfl rfl rfl rfl rfl (hr.mono (by decide)) (ev_var rfl) (g.th.ex e) (by omega) q) (er_var rfl (sq_of g.hl) g.prs) (by omega) ok) fun H1 e1 => k H1 e1
def spTk (K : PySem.W.Frag) (a : Adr) : Sp := fun vs H Q _ => ∃ q x sd kvs lr rts wl zs, vs = [.ref q, .ref lr, .ref wl] ∧ TK K a q x sd kvs lr rts wl zs H ∧ ∀ H', Ex H H' → Q (.bl true) H'
theorem ok__law_taken_right (T : Txt P K mg a) : CallP P w K mg base 21 (.ref a._law_taken_right) (spTk K a) := by
  refine T.d__law_taken_right.ok sc__law_taken_right (fun vs H Q E h => ?_) (fun cdv A outer s H vs Q E hr hG h => ?_)
  · obtain ⟨q, x, sd, kvs, lr, rts, wl, zs, rfl, _⟩ := h
    rfl
  · obtain ⟨q, x, sd, kvs, lr, rts, wl, zs, rfl, g, hq⟩ := h
    obtain ⟨t0, p0, u0⟩ := tk_hook (P := P) (w := w) (mg := mg) (base := base) (outer := outer) (s := s) (H0 := H) (E := E) T hr hG
    obtain ⟨t1, p1, u1⟩ := tk_call (P := P) (w := w) (mg := mg) (base := base) (outer := outer) (s := s) (H0 := H) (E := E) T hr hG
    obtain ⟨t2, p2, u2⟩ := tk_some (P := P) (w := w) (mg := mg) (base := base) (outer := outer) (s := s) (H0 := H) (E := E) T hr hG
    obtain ⟨t3, p3, u3⟩ := tk_due (P := P) (w := w) (mg := mg) (base := base) (outer := outer) (s := s) (H0 := H) (E := E) T hr hG
    obtain ⟨t4, p4, u4⟩ := tk_again (P := P) (w := w) (mg := mg) (base := base) (outer := outer) (s := s) (H0 := H) (E := E) T hr hG
    obtain ⟨t5, p5, u5⟩ := tk_test (P := P) (w := w) (mg := mg) (base := base) (outer := outer) (s := s) (H0 := H) (E := E) T hr hG
    obtain ⟨t6, p6, u6⟩ := tk_loop (P := P) (w := w) (mg := mg) (base := base) (outer := outer) (s := s) (H0 := H) (E := E) T hr hG
    obtain ⟨t7, p7, u7⟩ := tk_whole (P := P) (w := w) (mg := mg) (base := base) (outer := outer) (s := s) (H0 := H) (E := E) T hr hG
    obtain ⟨t8, p8, u8⟩ := tk_pairs (P := P) (w := w) (mg := mg) (base := base) (outer := outer) (s := s) (H0 := H) (E := E) T hr hG
    obtain ⟨t9, p9, u9⟩ := tk_test2 (P := P) (w := w) (mg := mg) (base := base) (outer := outer) (s := s) (H0 := H) (E := E) T hr hG
    obtain ⟨t10, p10, u10⟩ := tk_enter (P := P) (w := w) (mg := mg) (base := base) (outer := outer) (s := s) (H0 := H) (E := E) T hr hG
    obtain ⟨t11, p11, u11⟩ := tk_end (P := P) (w := w) (mg := mg) (base := base) (outer := outer) (s := s) (H0 := H) (E := E) T hr hG
    refine ⟨_, pss_cons p0 (pss_cons p1 (pss_cons p2 (pss_cons p3 (pss_cons p4 (pss_cons p5 (pss_cons p6 (pss_cons p7 (pss_cons p8 (pss_cons p9 (pss_cons p10 (pss_one p11))))))))))), ?_⟩
    have hk := g.k
    refine u0 _ _ q x sd kvs lr rts wl zs g fun p dx t H1 e1 hp ht => ?_
    refine u1 _ _ q x sd kvs lr rts wl zs p dx t (g.ex e1) hp ht fun r H2 e2 hr2 => ?_
    have e02 := e1.trans e2
    refine u2 _ _ q x sd kvs lr rts wl zs p r (g.ex e02) fun p2 ts H3 e3 hp2 hP2 => ?_
    have e03 := e02.trans e3
    refine u3 _ _ q x sd kvs lr rts wl zs p r p2 ts (g.ex e03) hp2 hP2 fun p3 H4 e4 hp3 => ?_
    have e04 := e03.trans e4
    have e24 := e3.trans e4
    refine u4 _ _ q x sd kvs lr rts wl zs p r p2 p3 dx t (g.ex e04) ((e2.trans e24) _ _ hp) (ex_t (e2.trans e24) ht) fun u r2 H5 e5 hr5 hu5 => ?_
    have e05 := e04.trans e5
    have e25 := e24.trans e5
    refine u5 _ _ q lr wl p r p2 p3 u r2 _ (e25 _ _ hr2) hu5 fun H6 e6 => ?_
    have e06 := e05.trans e6
    have g6 := g.ex e06
    refine u6 _ _ q lr wl p r p2 p3 u r2 _ ((e25.trans e6) _ _ hr2) (e6 _ _ hr5) (e6 _ _ hu5) ((e5.trans e6) _ _ hp3) (by rw [List.length_map, List.length_take]; omega) (fun v hv => ?_) fun o12 H7 e7 => ?_
    · obtain ⟨z, hz, rfl⟩ := List.mem_map.mp hv
      obtain ⟨_, v, hv, _, hf⟩ := g.key (take_sub hz)
      rw [hf]
      exact g6.ok.val _ hv
    have e07 := e06.trans e7
    refine u7 _ _ q lr wl p r p2 p3 u o12 fun wo dw H8 e8 hwo => ?_
    have e08 := e07.trans e8
    refine u8 _ _ q x sd kvs lr rts wl zs p r p2 p3 u wo dw o12 (g.ex e08) hwo fun t1 z1 b1 s1 t2 z2 b2 s2 H9 e9 hbb hss ns1 bk1 bk2 hz1 hz2 ht1 ht2 => ?_
    have e09 := e08.trans e9
    refine u9 _ _ q lr wl p r p2 p3 u wo t1 z1 b1 s1 t2 z2 b2 s2 kvs o12 hbb bk1 bk2 hz1 hz2 ht1 ht2 fun H10 e10 => ?_
    have e010 := e09.trans e10
    refine u10 _ _ q lr wl p r p2 p3 u wo t1 z1 b1 s1 t2 kvs o12 (bk1.ex e10) (e10 _ _ ht1) g.len g.la fun H11 sb => ?_
    have e011 := ex_sb e010 (fresh_back e08 ns1) sb
    have hs1 := (bk1.ex e10).dict
    obtain ⟨⟨dx2, hb2⟩, hs2⟩ := bk2.ex e10
    exact u11 _ _ q x sd kvs lr rts wl zs p r p2 p3 u wo t1 t2 z2 b2 s2 o12 (g.ex e011) ⟨⟨dx2, sb _ _ (ne_of hb2 hs1 fun z => nomatch z) hb2⟩, sb _ _ hss.symm hs2⟩ (sb _ _ (ne_of (e10 _ _ ht2) hs1 fun z => nomatch z) (e10 _ _ ht2)) fun H12 e12 => hq H12 (e011.trans e12)

end
end BJL

namespace BJL
open PySem PySem.Spec PyProof.Rows L2 BJ
section
variable {P : Program} {w : World} {K : PySem.W.Frag} {mg : Str → Option Value} {base : Heap} {a : Adr}
open Evl
abbrev rfN : List Str := ["draw", "made", "pairs_here", "book", "due", "one", "far", "known", "word", "old", "shown", "hook"]
abbrev rfB (i : Nat) : Stmt := (defBody s__law_refilled_right).getD i (.Pass ⟨0, 0, 0, 0⟩)
abbrev rfT (i : Nat) : Stmt := (match rfB 1 with | .For _ _ b _ _ => b | _ => []).getD i (.Pass ⟨0, 0, 0, 0⟩)
abbrev rfX (P : Program) (w : World) (K : PySem.W.Frag) (mg : Str → Option Value) (base : Heap) (a : Adr) (cdv : Value) (A : Around) (outer : List Env) (s : Shared) (H : Hp) (E : XK) : Cx := cxOf (L2.CX P w) P w K mg base BJL.rfN "_law_refilled_right" (defScope s__law_refilled_right) a._law_refilled_right cdv A outer s H E
/-- what stands while the Book grows -/
structure RF (K : PySem.W.Frag) (a : Adr) (d c : Addr) (cells : List Int) (n : Nat) (q : Addr) (x : V) (sd : Addr) (kvs : List (Key × V)) (b sb : Addr) (bks : List (Key × V)) (dl : Addr) (ds : List Addr) (H : Hp) : Prop where
  dr : Dr H d c cells n
  th : ThAt a H q x sd kvs
  kv : KvOk K a H kvs
  kl : kvs.length ≤ 5
  bk : BkAt a H b sb bks
  bo : KvOk K a H bks
  bl : bks.length ≤ 5
  dh : H dl = some (.lst (ds.map V.ref))
  prs : Prs H ds (layK kvs bks)
  sdd : sd ≠ d
  sbd : sb ≠ d
  sbs : sb ≠ sd
  dlc : dl ≠ c
section
variable {d c : Addr} {cells : List Int} {n m : Nat} {q : Addr} {x : V} {sd : Addr} {kvs : List (Key × V)} {b sb : Addr} {bks : List (Key × V)} {dl : Addr} {ds : List Addr} {H H' : Hp} {v : V} {z : Str}
theorem RF.ex (g : RF K a d c cells n q x sd kvs b sb bks dl ds H) (e : Ex H H') : RF K a d c cells n q x sd kvs b sb bks dl ds H' := ⟨g.dr.same e, g.th.ex e, g.kv.ex e, g.kl, g.bk.ex e, g.bo.ex e, g.bl, e _ _ g.dh, g.prs.ex e, g.sdd, g.sbd, g.sbs, g.dlc⟩
theorem RF.mono (g : RF K a d c cells n q x sd kvs b sb bks dl ds H) (h : n ≤ m) : RF K a d c cells m q x sd kvs b sb bks dl ds H := ⟨g.dr.mono h, g.th, g.kv, g.kl, g.bk, g.bo, g.bl, g.dh, g.prs, g.sdd, g.sbd, g.sbs, g.dlc⟩
theorem RF.draw (g : RF K a d c cells n q x sd kvs b sb bks dl ds H) (s : SameBut d H H') (D : Dr H' d c cells m) : RF K a d c cells m q x sd kvs b sb bks dl ds H' := by
  obtain ⟨dvs, hd⟩ := g.dr.atd
  obtain ⟨⟨dx, hp⟩, hs⟩ := g.th
  obtain ⟨⟨dy, hb⟩, hsb⟩ := g.bk
  exact ⟨D, ⟨⟨dx, s _ _ (ne_of hp hd fun z => nomatch z) hp⟩, s _ _ g.sdd hs⟩, g.kv.sb hd s, g.kl, ⟨⟨dy, s _ _ (ne_of hb hd fun z => nomatch z) hb⟩, s _ _ g.sbd hsb⟩, g.bo.sb hd s, g.bl, s _ _ (ne_of g.dh hd fun z => nomatch z) g.dh, prs_but g.prs (ButL.sb s (by simp) : ButL [d] H H') (fun y hy ys z => by rw [List.mem_singleton.mp hy, hd] at z; cases z), g.sdd, g.sbd, g.sbs, g.dlc⟩
theorem RF.mo (g : RF K a d c cells n q x sd kvs b sb bks dl ds H) : ∀ kv ∈ layK kvs bks, (∃ z, kv.1 = .inr z) ∧ ValAt K a H kv.2 :=
  merge_all _ _ (fun kv hk => ⟨by obtain ⟨z, hz, _⟩ := g.kv.lab kv hk; exact ⟨z, hz⟩, g.kv.val kv hk⟩) fun kv hk => ⟨by obtain ⟨z, hz, _⟩ := g.bo.lab kv hk; exact ⟨z, hz⟩, g.bo.val kv hk⟩
theorem RF.ml (g : RF K a d c cells n q x sd kvs b sb bks dl ds H) : (layK kvs bks).length ≤ 10 := by
  have := layK_len bks kvs
  have := g.kl
  have := g.bl
  omega
/-- an entry more, the rows as they were -/
structure RG (K : PySem.W.Frag) (a : Adr) (d c : Addr) (cells : List Int) (n : Nat) (q : Addr) (x : V) (sd : Addr) (kvs : List (Key × V)) (b sb : Addr) (bks : List (Key × V)) (z : Str) (v : V) (H : Hp) : Prop where
  dr : Dr H d c cells n
  th : ThAt a H q x sd kvs
  kv : KvOk K a H kvs
  kl : kvs.length ≤ 5
  bk : BkAt a H b sb (bks ++ [(.inr z, v)])
  bo : KvOk K a H (bks ++ [(.inr z, v)])
  bl : bks.length + 1 ≤ 5
  sdd : sd ≠ d
  sbd : sb ≠ d
  sbs : sb ≠ sd
  mo : ∀ kv ∈ layK kvs bks, (∃ z, kv.1 = .inr z) ∧ ValAt K a H kv.2
theorem RG.ex (g : RG K a d c cells n q x sd kvs b sb bks z v H) (e : Ex H H') : RG K a d c cells n q x sd kvs b sb bks z v H' := ⟨g.dr.same e, g.th.ex e, g.kv.ex e, g.kl, g.bk.ex e, g.bo.ex e, g.bl, g.sdd, g.sbd, g.sbs, fun kv hk => ⟨(g.mo kv hk).1, (g.mo kv hk).2.ex e⟩⟩
theorem RG.ml (g : RG K a d c cells n q x sd kvs b sb bks z v H) : (layK kvs bks).length ≤ 10 := by
  have := layK_len bks kvs
  have := g.kl
  have := g.bl
  omega
end
theorem rf_start (T : Txt P K mg a) {cdv : Value} {A : Around} {outer : List Env} {s : Shared} {H0 : Hp} {E : XK} (hr : Room 16 (A.deeper (envOfC "_law_refilled_right" (defScope s__law_refilled_right) s.heap.objs.size a._law_refilled_right cdv))) (hG : A.guards = some []) :
    ∃ tr, PS (rfX P w K mg base a cdv A outer s H0 E) (rfB 0) tr ∧ ∀ (D : Ends) (H : Hp) (d q lr : Addr) (rts : List Addr) (kvs : List (Key × V)), SqL K H lr (rts.map V.ref) → Prs H rts kvs →
      (∀ b sb dl ds H', H b = none → H sb = none → H dl = none → Ex H H' → BkAt a H' b sb [] → H' dl = some (.lst (ds.map V.ref)) → Prs H' ds kvs → D.nx [some (.ref d), some (.ref q), some (.ref lr), some (.ref b), some (.ref dl), none, none, none, none, none, none, none] H') →
      tr D [some (.ref d), some (.ref q), some (.ref lr), none, none, none, none, none, none, none, none, none] H := by
  have G0_Book := ok_Book (P := P) (w := w) (base := base) (mg := mg) T
  refine ⟨_, (ps_par (i := 3) (j := 4) rfl sc__law_refilled_right.nd rfl rfl (by decide) rfl rfl (pa_cons (pe_cx0 G0_Book (hr.mono (by decide)) rfl T.g_Book T.k_Book (takes_of rfl rfl rfl rfl) pk_nil) (pa_cons (pe_callTy call_list_of (by rfl) T.b_list (by decide +kernel) (pa_cons (pv 2) pa_nil)) pa_nil)) (by rfl)), ?_⟩
  intro D H d q lr rts kvs hl hP k
  refine ⟨rfl, rfl, fun b sb H1 nb nsb e1 bk => ⟨_, rfl, lr, _, rfl, .inl (ex_l e1 hl), fun dl ndl => ⟨_, _, rfl, ?_⟩⟩⟩
  have e2 := Ex.new (o := .lst (rts.map V.ref)) ndl
  exact k b sb dl rts _ nb nsb (fresh_back e1 ndl) (e1.trans e2) (bk.ex e2) upd_same (hP.ex (e1.trans e2))
theorem rf_far (T : Txt P K mg a) {cdv : Value} {A : Around} {outer : List Env} {s : Shared} {H0 : Hp} {E : XK} (hr : Room 16 (A.deeper (envOfC "_law_refilled_right" (defScope s__law_refilled_right) s.heap.objs.size a._law_refilled_right cdv))) (hG : A.guards = some []) :
    ∃ tr, PS (rfX P w K mg base a cdv A outer s H0 E) (rfT 0) tr ∧ ∀ (D : Ends) (H : Hp) (d c : Addr) (cells : List Int) (n : Nat) (q : Addr) (x : V) (sd : Addr) (kvs : List (Key × V)) (lr b sb : Addr) (bks : List (Key × V)) (dl : Addr) (ds : List Addr) (v5 : V) (o6 o7 : Option V), RF K a d c cells n q x sd kvs b sb bks dl ds H → n ≤ 90000 →
      (∀ v H', SameBut d H H' → okAtom v = true → RF K a d c cells (n + 1) q x sd kvs b sb bks dl ds H' → D.nx [some (.ref d), some (.ref q), some (.ref lr), some (.ref b), some (.ref dl), some v5, some v, o7, none, none, none, none] H') →
      tr D [some (.ref d), some (.ref q), some (.ref lr), some (.ref b), some (.ref dl), some v5, o6, o7, none, none, none, none] H := by
  have G__law_atom : CallP P w K mg base 3 (.ref a._law_atom) spAtom := (ok__law_atom T).p
  refine ⟨_, (ps_set (i := 6) sc__law_refilled_right.nd rfl (Or.inr rfl) (pe_ca G__law_atom (hr.mono (by decide)) hG rfl T.g__law_atom T.k__law_atom (takes_of rfl rfl rfl rfl) (pa_cons (pv 0) pa_nil))), ?_⟩
  intro D H d c cells n q x sd kvs lr b sb bks dl ds v5 o6 o7 g hn k
  exact ⟨_, rfl, d, c, cells, n, rfl, g.dr, by omega, fun v H1 s D1 ok => k v H1 s ok (g.draw s D1)⟩
theorem rf_enter (T : Txt P K mg a) {cdv : Value} {A : Around} {outer : List Env} {s : Shared} {H0 : Hp} {E : XK} (hr : Room 16 (A.deeper (envOfC "_law_refilled_right" (defScope s__law_refilled_right) s.heap.objs.size a._law_refilled_right cdv))) (hG : A.guards = some []) :
    ∃ tr, PS (rfX P w K mg base a cdv A outer s H0 E) (rfT 1) tr ∧ ∀ (D : Ends) (H : Hp) (d c : Addr) (cells : List Int) (n : Nat) (q : Addr) (x : V) (sd : Addr) (kvs : List (Key × V)) (lr b sb : Addr) (bks : List (Key × V)) (dl : Addr) (ds : List Addr) (z : Str) (v : V) (o7 : Option V), RF K a d c cells n q x sd kvs b sb bks dl ds H → okAtom v = true → labB z = true → valV bks (.inr z) = none → bks.length < 5 →
      (∀ H', SameBut sb H H' → RG K a d c cells n q x sd kvs b sb bks z v H' → H' dl = some (.lst (ds.map V.ref)) → Prs H' ds (layK kvs bks) → D.nx [some (.ref d), some (.ref q), some (.ref lr), some (.ref b), some (.ref dl), some (.str z), some v, o7, none, none, none, none] H') →
      tr D [some (.ref d), some (.ref q), some (.ref lr), some (.ref b), some (.ref dl), some (.str z), some v, o7, none, none, none, none] H := by
  refine ⟨_, (ps_expr (pe_me (pv 3) (takes_of rfl rfl rfl rfl) (pa_cons (pv 5) (pa_cons (pv 6) pa_nil)) pk_nil)), ?_⟩
  intro D H d c cells n q x sd kvs lr b sb bks dl ds z v o7 g hv hz hn hl k
  obtain ⟨dx, hb⟩ := id g.bk.at_
  have hsb := g.bk.dict
  have nolk : ([("entries", V.ref sb)] : List (Str × V)).lookup ("enter" : Str) = none := rfl
  have hks := (lab_lay hz).2
  have va : ValAt K a H v := .inl hv
  refine ⟨_, rfl, b, a.Book, dx, a.Book_enter, _, 10, _, rfl, hb, nolk, T.c_Book, T.p_Book_enter, ok_enter T, hr.mono (by decide), _, rfl, _, rfl, rfl, b, sb, bks, .str z, v, false, rfl, g.bk, by omega, kn_dz T (.str _), key_fits hks, .inr ⟨.inr z, rfl, by show (keyS (.str z) || keyI (.str z)) = true; rw [hks]; rfl, .inr ⟨hn, .inr ⟨va.good T, ?_⟩⟩⟩⟩
  rw [putK_new v hn]
  have s : SameBut sb H (upd H sb (.dK (bks ++ [(.inr z, v)]))) := fun y o hy ho => by rw [upd_ne hy]; exact ho
  obtain ⟨⟨dy, hp⟩, hs⟩ := id g.th
  have nosb : ∀ y ∈ [sb], ∀ ys, H y ≠ some (.tup ys) := fun y hy ys z => by rw [List.mem_singleton.mp hy, hsb] at z; cases z
  have sbc : sb ≠ c := ne_of hsb g.dr.list fun z => nomatch z
  have sbl : dl ≠ sb := ne_of g.dh hsb fun z => nomatch z
  refine k _ s ⟨g.dr.mut g.sbd sbc, ⟨⟨dy, s _ _ (ne_of hp hsb fun z => nomatch z) hp⟩, s _ _ g.sbs.symm hs⟩, g.kv.sb hsb s, g.kl, ⟨⟨dx, s _ _ (ne_of hb hsb fun z => nomatch z) hb⟩, upd_same⟩, (g.bo.snoc va hz hn).sb hsb s, by omega, g.sdd, g.sbd, g.sbs, fun kv hk => ⟨(g.mo kv hk).1, (g.mo kv hk).2.sb hsb s⟩⟩ (s _ _ sbl g.dh) (prs_but g.prs (ButL.sb s (by simp)) nosb)
theorem rf_known (T : Txt P K mg a) {cdv : Value} {A : Around} {outer : List Env} {s : Shared} {H0 : Hp} {E : XK} (hr : Room 16 (A.deeper (envOfC "_law_refilled_right" (defScope s__law_refilled_right) s.heap.objs.size a._law_refilled_right cdv))) (hG : A.guards = some []) :
    ∃ tr, PS (rfX P w K mg base a cdv A outer s H0 E) (rfT 2) tr ∧ ∀ (D : Ends) (H : Hp) (d c : Addr) (cells : List Int) (n : Nat) (q : Addr) (x : V) (sd : Addr) (kvs : List (Key × V)) (lr b sb : Addr) (bks : List (Key × V)) (dl : Addr) (ds : List Addr) (z : Str) (v : V) (o7 : Option V), RG K a d c cells n q x sd kvs b sb bks z v H → H dl = some (.lst (ds.map V.ref)) → Prs H ds (layK kvs bks) →
      (∀ kl H', Ex H H' → H' kl = some (.lst ((layK kvs bks).map fun kv => kV kv.1)) → D.nx [some (.ref d), some (.ref q), some (.ref lr), some (.ref b), some (.ref dl), some (.str z), some v, some (.ref kl), none, none, none, none] H') →
      tr D [some (.ref d), some (.ref q), some (.ref lr), some (.ref b), some (.ref dl), some (.str z), some v, o7, none, none, none, none] H := by
  refine ⟨_, (ps_setLc (i := 7) (own := [("word", 8), ("old", 9)]) (g := (gTup K 2 (gCons (gName 8) (gCons (gName 9) gNil)))) (by rfl) sc__law_refilled_right.nd rfl rfl (sw_true rfl rfl rfl (by decide +kernel)) (pi_list (pv 4)) (blkOk_by (own := [("word", 8), ("old", 9)]) (N := ["draw", "made", "pairs_here", "book", "due", "one", "far", "known", "word", "old", "shown", "hook"]) (sc := defScope s__law_refilled_right) (by decide +kernel)) (fun _ _ _ _ _ => (pg_tup rfl (pgs_cons (pg_name (i := 8) sc__law_refilled_right.nd rfl (Or.inl rfl)) (pgs_cons (pg_name (i := 9) sc__law_refilled_right.nd rfl (Or.inl rfl)) pgs_nil)))) (fun _ _ _ _ _ => pts_nil) (fun _ _ _ _ _ => (pv 8))), ?_⟩
  intro D H d c cells n q x sd kvs lr b sb bks dl ds z v o7 g hdl hP k
  have hl := g.ml
  have el := el_prs (K := K) (vs := [8, 9]) (j := 8) (l := 9) (wi := iList K (tVar 4)) (tt := tYes) (te := tVar 8) (σ := [some (.ref d), some (.ref q), some (.ref lr), some (.ref b), some (.ref dl), some (.str z), some v, o7, none, none, none, none]) (ei_list (ev_var rfl) (sq_of hdl)) hP (fun _ => true) (fun kv => kV kv.1) (by omega) (fun _ _ => rfl) (fun _ _ _ _ => et_yes) (fun kv hk hf H1 e1 => ev_var rfl)
  rw [List.filter_eq_self.mpr (fun _ _ => rfl)] at el
  exact s_asgL2 el fun kl H1 e1 hk => k kl H1 e1 hk
theorem rf_due (T : Txt P K mg a) {cdv : Value} {A : Around} {outer : List Env} {s : Shared} {H0 : Hp} {E : XK} (hr : Room 16 (A.deeper (envOfC "_law_refilled_right" (defScope s__law_refilled_right) s.heap.objs.size a._law_refilled_right cdv))) (hG : A.guards = some []) :
    ∃ tr, PS (rfX P w K mg base a cdv A outer s H0 E) (rfT 3) tr ∧ ∀ (D : Ends) (H : Hp) (d c : Addr) (cells : List Int) (n : Nat) (q : Addr) (x : V) (sd : Addr) (kvs : List (Key × V)) (lr b sb : Addr) (bks : List (Key × V)) (dl : Addr) (ds : List Addr) (z : Str) (v : V) (kl : Addr), RG K a d c cells n q x sd kvs b sb bks z v H → H dl = some (.lst (ds.map V.ref)) → Prs H ds (layK kvs bks) →
      (∀ dl2 ds2 H', H dl2 = none → Ex H H' → H' dl2 = some (.lst (ds2.map V.ref)) → Prs H' ds2 ((layK kvs bks).map (overK (.inr z) v)) → D.nx [some (.ref d), some (.ref q), some (.ref lr), some (.ref b), some (.ref dl2), some (.str z), some v, some (.ref kl), none, none, none, none] H') →
      tr D [some (.ref d), some (.ref q), some (.ref lr), some (.ref b), some (.ref dl), some (.str z), some v, some (.ref kl), none, none, none, none] H := by
  refine ⟨_, (ps_setLc (i := 4) (own := [("word", 8), ("old", 9)]) (g := (gTup K 2 (gCons (gName 8) (gCons (gName 9) gNil)))) (by rfl) sc__law_refilled_right.nd rfl rfl (sw_true rfl rfl rfl (by decide +kernel)) (pi_list (pv 4)) (blkOk_by (own := [("word", 8), ("old", 9)]) (N := ["draw", "made", "pairs_here", "book", "due", "one", "far", "known", "word", "old", "shown", "hook"]) (sc := defScope s__law_refilled_right) (by decide +kernel)) (fun _ _ _ _ _ => (pg_tup rfl (pgs_cons (pg_name (i := 8) sc__law_refilled_right.nd rfl (Or.inl rfl)) (pgs_cons (pg_name (i := 9) sc__law_refilled_right.nd rfl (Or.inl rfl)) pgs_nil)))) (fun _ _ _ _ _ => pts_nil) (fun _ _ _ _ _ => (pe_tup (pa_cons (pv 8) (pa_cons (pe_ifExp (pt_cmpR op_eq (pv 8) (pv 5) (nomark _)) (pv 6) (pv 9)) pa_nil))))), ?_⟩
  intro D H d c cells n q x sd kvs lr b sb bks dl ds z v kl g hdl hP k
  have hl := g.ml
  have er := ern_prs (K := K) (vs := [8, 9]) (j := 8) (l := 9) (wi := iList K (tVar 4)) (tt := tYes) (te := tTup (tCons (tVar 8) (tCons (tIf (tTest (tOp rEq (tVar 8) (tVar 5))) (tVar 6) (tVar 9)) tNil))) (σ := [some (.ref d), some (.ref q), some (.ref lr), some (.ref b), some (.ref dl), some (.str z), some v, some (.ref kl), none, none, none, none]) (ei_list (ev_var rfl) (sq_of hdl)) hP (fun _ => true) (overK (.inr z) v) (by omega) (fun _ _ => rfl) (fun _ _ _ _ => et_yes) (fun kv hk hf H1 e1 => by
    obtain ⟨y, hy⟩ := (g.mo kv hk).1
    refine eu_tup (ea_cons (ev_var rfl) (ea_cons (ev_if (b := decide (kV kv.1 = V.str z)) (et_test (ev_op (ev_var rfl) (ev_var rfl) (rv_eq (by rw [hy]; rfl)))) (fun h => ?_) fun h => ?_) ea_nil)) (by show 2 ≤ 100000; decide)
    · have : kv.1 = .inr z := kV_inj (of_decide_eq_true h)
      rw [show (overK (.inr z) v kv).2 = v by unfold overK; rw [if_pos this]]
      exact ev_var rfl
    · have : ¬ kv.1 = .inr z := fun e => by rw [e] at h; simp [kV] at h
      rw [show (overK (.inr z) v kv).2 = kv.2 by unfold overK; rw [if_neg this]]
      exact ev_var rfl)
  rw [List.filter_eq_self.mpr (fun _ _ => rfl)] at er
  exact s_asgRN er fun dl2 ds2 H1 nd e1 h1 h2 => k dl2 ds2 H1 nd e1 h1 h2

end
end BJL

namespace BJL
open PySem PySem.Spec PyProof.Rows L2 BJ
section
variable {P : Program} {w : World} {K : PySem.W.Frag} {mg : Str → Option Value} {base : Heap} {a : Adr}
open Evl
section
variable {d c : Addr} {cells : List Int} {n m : Nat} {q : Addr} {x : V} {sd : Addr} {kvs : List (Key × V)} {b sb : Addr} {bks : List (Key × V)} {dl : Addr} {ds : List Addr} {H H' : Hp} {v : V} {z : Str}
theorem RG.rf (g : RG K a d c cells n q x sd kvs b sb bks z v H) (h : H dl = some (.lst (ds.map V.ref))) (hP : Prs H ds (layK kvs (bks ++ [(.inr z, v)]))) (hc : dl ≠ c) : RF K a d c cells n q x sd kvs b sb (bks ++ [(.inr z, v)]) dl ds H :=
  ⟨g.dr, g.th, g.kv, g.kl, g.bk, g.bo, by rw [List.length_append]; exact g.bl, h, hP, g.sdd, g.sbd, g.sbs, hc⟩
theorem RG.mutL {xs ys : List V} (g : RG K a d c cells n q x sd kvs b sb bks z v H) (h : H dl = some (.lst xs)) (hc : dl ≠ c) : RG K a d c cells n q x sd kvs b sb bks z v (upd H dl (.lst ys)) := by
  obtain ⟨dvs, hd⟩ := g.dr.atd
  obtain ⟨⟨dx, hp⟩, hs⟩ := g.th
  obtain ⟨⟨dy, hb⟩, hsb⟩ := g.bk
  have st : ∀ {y o}, H y = some o → y ≠ dl → upd H dl (.lst ys) y = some o := fun hy hn => by rw [upd_ne hn]; exact hy
  have bl : ButL [dl] H (upd H dl (.lst ys)) := ButL.upd (by simp)
  have no : ∀ y ∈ [dl], ∀ C dx fs, H y ≠ some (.ins C dx fs) := fun y hy C dx fs z => by rw [List.mem_singleton.mp hy, h] at z; cases z
  exact ⟨g.dr.mut (ne_of h hd fun z => nomatch z) hc, ⟨⟨dx, st hp (ne_of hp h fun z => nomatch z)⟩, st hs (ne_of hs h fun z => nomatch z)⟩, g.kv.but bl no, g.kl, ⟨⟨dy, st hb (ne_of hb h fun z => nomatch z)⟩, st hsb (ne_of hsb h fun z => nomatch z)⟩, g.bo.but bl no, g.bl, g.sdd, g.sbd, g.sbs, fun kv hk => ⟨(g.mo kv hk).1, (g.mo kv hk).2.but bl no⟩⟩
end
theorem rf_if (T : Txt P K mg a) {cdv : Value} {A : Around} {outer : List Env} {s : Shared} {H0 : Hp} {E : XK} (hr : Room 16 (A.deeper (envOfC "_law_refilled_right" (defScope s__law_refilled_right) s.heap.objs.size a._law_refilled_right cdv))) (hG : A.guards = some []) :
    ∃ tr, PS (rfX P w K mg base a cdv A outer s H0 E) (rfT 4) tr ∧ ∀ (D : Ends) (H : Hp) (d c : Addr) (cells : List Int) (n : Nat) (q : Addr) (x : V) (sd : Addr) (kvs : List (Key × V)) (lr b sb : Addr) (bks : List (Key × V)) (dl : Addr) (ds : List Addr) (z : Str) (v : V) (kl : Addr), RG K a d c cells n q x sd kvs b sb bks z v H → H kl = some (.lst ((layK kvs bks).map fun kv => kV kv.1)) → H dl = some (.lst (ds.map V.ref)) → Prs H ds ((layK kvs bks).map (overK (.inr z) v)) → dl ≠ c →
      (∀ ds2 H', ButL [dl] H H' → RF K a d c cells n q x sd kvs b sb (bks ++ [(.inr z, v)]) dl ds2 H' → D.nx [some (.ref d), some (.ref q), some (.ref lr), some (.ref b), some (.ref dl), some (.str z), some v, some (.ref kl), none, none, none, none] H') →
      tr D [some (.ref d), some (.ref q), some (.ref lr), some (.ref b), some (.ref dl), some (.str z), some v, some (.ref kl), none, none, none, none] H := by
  refine ⟨_, (ps_if (pt_cmpR op_notIn_seq (pv 5) (pv 7) (by rfl))
 (pss_one (ps_expr (pe_bm PySem.F.plainAttrs_list PySem.F.slot_list_append PySem.F.type_list_append mt_append (pv 4) (pa_cons (pe_tup (pa_cons (pv 5) (pa_cons (pv 6) pa_nil))) pa_nil))))
 pss_nil), ?_⟩
  intro D H d c cells n q x sd kvs lr b sb bks dl ds z v kl g hkl hdl hP hc k
  have hiv := inV_keys (z := z) (l := layK kvs bks) fun kv hk => (g.mo kv hk).1
  have hlay : layK kvs (bks ++ [(.inr z, v)]) = _ := (layK_snoc (q := ((Sum.inr z : Key), v))).trans over_put
  have hml := g.ml
  refine s_when (b := !inV (.str z) ((layK kvs bks).map fun kv => kV kv.1)) (et_test (ev_op (ev_var rfl) (ev_var rfl) fun H1 e Q q => ⟨kl, _, rfl, .inl (sq_of (e _ _ hkl)), rfl, flat_keys _, by rw [if_pos rfl]; exact q H1 (Ex.refl _)⟩)) (fun hb H1 e1 => ?_) fun hb H1 e1 => ?_
  · rw [Bool.not_eq_true', hiv] at hb
    dsimp only at hlay
    rw [hb, if_neg Bool.false_ne_true] at hlay
    have hd1 := e1 _ _ hdl
    refine ⟨_, rfl, .inl ⟨rfl, _, sq_of hd1⟩, _, rfl, _, rfl, (by show 2 ≤ sizeLine; decide), fun t nt => ?_⟩
    have et := Ex.new (o := .tup [.str z, v]) nt
    have tdl : t ≠ dl := fun z => by rw [z, hd1] at nt; cases nt
    have hlen := Prs.len hP
    rw [List.length_map] at hlen
    refine ⟨dl, ds.map V.ref, .ref t, rfl, rfl, et _ _ hd1, (by rw [List.length_map, sizeLine_eq]; omega), ?_⟩
    have e := e1.trans et
    have g2 := (g.ex e).mutL (ys := ds.map V.ref ++ [.ref t]) (et _ _ hd1) hc
    refine k (ds ++ [t]) _ ((ButL.ex e).trans (ButL.upd (by simp))) (g2.rf (by rw [List.map_append]; exact upd_same) ?_ hc)
    rw [hlay]
    refine Prs.snoc (by rw [upd_ne tdl]; exact upd_same) (prs_but (hP.ex e) (ButL.upd (by simp) : ButL [dl] _ _) fun y hy ys z => ?_)
    rw [List.mem_singleton.mp hy, et _ _ hd1] at z
    cases z
  · rw [Bool.not_eq_false', hiv] at hb
    dsimp only at hlay
    rw [hb, if_pos rfl] at hlay
    exact k ds H1 (ButL.ex e1) ((g.ex e1).rf (e1 _ _ hdl) (by rw [hlay]; exact hP.ex e1) hc)
theorem back_none {d t : Addr} {S H : Hp} {o : HO} (sb : SameBut d S H) (hd : H d = some o) (h : H t = none) : S t = none := by
  cases e : S t with
  | none => rfl
  | some u =>
    have td : t ≠ d := fun z => by rw [z, hd] at h; cases h
    rw [sb t u td e] at h
    cases h
theorem rf_loop (T : Txt P K mg a) {cdv : Value} {A : Around} {outer : List Env} {s : Shared} {H0 : Hp} {E : XK} (hr : Room 16 (A.deeper (envOfC "_law_refilled_right" (defScope s__law_refilled_right) s.heap.objs.size a._law_refilled_right cdv))) (hG : A.guards = some []) :
    ∃ tr, PS (rfX P w K mg base a cdv A outer s H0 E) (rfB 1) tr ∧ ∀ (D : Ends) (H : Hp) (S : Hp) (d c : Addr) (cells : List Int) (n : Nat) (q : Addr) (x : V) (sd : Addr) (kvs : List (Key × V)) (lr b sb : Addr) (dl : Addr) (ds : List Addr), RF K a d c cells n q x sd kvs b sb [] dl ds H → n ≤ 80000 → SameBut d S H → S sb = none →
      (∀ o5 o6 o7 bks dl2 ds2 H', SameBut d S H' → RF K a d c cells (n + 20) q x sd kvs b sb bks dl2 ds2 H' → D.nx [some (.ref d), some (.ref q), some (.ref lr), some (.ref b), some (.ref dl2), o5, o6, o7, none, none, none, none] H') →
      tr D [some (.ref d), some (.ref q), some (.ref lr), some (.ref b), some (.ref dl), none, none, none, none, none, none, none] H := by
  have G__law_next : CallP P w K mg base 2 (.ref a._law_next) spNext := (ok__law_next T).p
  have G__law_labels : CallP P w K mg base 3 (.ref a._law_labels) spLabs := (ok__law_labels T).p
  obtain ⟨t0, p0, u0⟩ := rf_far (P := P) (w := w) (mg := mg) (base := base) (outer := outer) (s := s) (H0 := H0) (E := E) T hr hG
  obtain ⟨t1, p1, u1⟩ := rf_enter (P := P) (w := w) (mg := mg) (base := base) (outer := outer) (s := s) (H0 := H0) (E := E) T hr hG
  obtain ⟨t2, p2, u2⟩ := rf_known (P := P) (w := w) (mg := mg) (base := base) (outer := outer) (s := s) (H0 := H0) (E := E) T hr hG
  obtain ⟨t3, p3, u3⟩ := rf_due (P := P) (w := w) (mg := mg) (base := base) (outer := outer) (s := s) (H0 := H0) (E := E) T hr hG
  obtain ⟨t4, p4, u4⟩ := rf_if (P := P) (w := w) (mg := mg) (base := base) (outer := outer) (s := s) (H0 := H0) (E := E) T hr hG
  refine ⟨_, (ps_for (passes_of rfl) rfl (pi_list (pe_ca G__law_labels (hr.mono (by decide)) hG rfl T.g__law_labels T.k__law_labels (takes_of rfl rfl rfl rfl) (pa_cons (pv 0) (pa_cons (pe_ca G__law_next (hr.mono (by decide)) hG rfl T.g__law_next T.k__law_next (takes_of rfl rfl rfl rfl) (pa_cons (pv 0) (pa_cons pe_int pa_nil))) pa_nil)))) (pg_name (i := 5) sc__law_refilled_right.nd rfl (Or.inr rfl)) (pss_cons p0 (pss_cons p1 (pss_cons p2 (pss_cons p3 (pss_one p4)))))), ?_⟩
  intro D H S d c cells n q x sd kvs lr b sb dl ds g hn s nsb k
  refine ⟨_, rfl, _, rfl, d, c, cells, n, 4, rfl, g.dr, by omega, by omega, by omega, fun r H1 r0 r1 D1 B1 => ?_⟩
  obtain ⟨m, hm, rfl⟩ : ∃ m : Nat, m < 4 ∧ r = (m : Int) := ⟨r.toNat, by omega, by omega⟩
  refine ⟨d, c, cells, n + 1, m, rfl, D1, by omega, by omega, fun l zs H2 nl s2 D2 hl hlen nd hmem => ⟨l, rfl, ⟨_, sq_of hl⟩, ?_⟩⟩
  have g1 := g.draw B1.sb D1
  have g2 := g1.draw s2 D2
  have lsb : l ≠ sb := fun z => by rw [z, g1.bk.dict] at nl; cases nl
  refine for_list (K := K) (a := l) (xs := zs.map V.str) (fun i σ H' => ∃ dl ds bks, (∃ o5 o6 o7, σ = [some (.ref d), some (.ref q), some (.ref lr), some (.ref b), some (.ref dl), o5, o6, o7, none, none, none, none]) ∧ SameBut d S H' ∧ H' l = some (.lst (zs.map V.str)) ∧ RF K a d c cells (n + 1 + m + i) q x sd kvs b sb bks dl ds H' ∧ bks.map (·.1) = (zs.take i).map Sum.inr) ⟨dl, ds, [], ⟨_, _, _, rfl⟩, (s.trans B1.sb).trans s2, hl, g2, rfl⟩ (fun i σ H' _ h => by obtain ⟨_, _, _, _, _, h, _⟩ := h; exact sq_of h) (fun i y σ H' hy h => ?_) fun σ H' h => ?_
  · obtain ⟨dl, ds, bks, ⟨o5, o6, o7, hσ⟩, s3, hl3, g3, hkeys⟩ := h
    subst hσ
    rw [List.getElem?_map] at hy
    obtain ⟨z, hz, rfl⟩ := Option.map_eq_some_iff.mp hy
    have hil := (List.getElem?_eq_some_iff.mp hz).1
    have hlab := labs_lab z (hmem z (List.mem_of_getElem? hz))
    have hnew := key_new nd hz hkeys
    have hbl := keys_len (by omega) hkeys
    refine u0 _ _ d c cells _ q x sd kvs lr b sb bks dl ds _ _ _ g3 (by omega) fun v H4 s4 hv g4 => ?_
    refine u1 _ _ d c cells _ q x sd kvs lr b sb bks dl ds z v _ g4 hv hlab hnew (by omega) fun H5 s5 g5 hdl5 hP5 => ?_
    refine u2 _ _ d c cells _ q x sd kvs lr b sb bks dl ds z v _ g5 hdl5 hP5 fun kl H6 e6 hkl => ?_
    refine u3 _ _ d c cells _ q x sd kvs lr b sb bks dl ds z v kl (g5.ex e6) (e6 _ _ hdl5) (hP5.ex e6) fun dl2 ds2 H7 ndl e7 hdl7 hP7 => ?_
    have l4 := s4 l _ (ne_of hl3 (g3.dr.atd).choose_spec fun z => nomatch z) hl3
    have l5 := s5 l _ lsb l4
    have l6 := e6 _ _ l5
    have dlc : dl2 ≠ c := fun z => by rw [z, (g5.ex e6).dr.list] at ndl; cases ndl
    have dll : l ≠ dl2 := fun z => by rw [← z, l6] at ndl; cases ndl
    have S4 := s3.trans s4
    have S5 : SameBut d S H5 := fun y o hy ho => s5 y o (fun z => by rw [z, nsb] at ho; cases ho) (S4 y o hy ho)
    have S6 := S5.trans (sb_ex e6)
    have nS := back_none S6 ((g5.ex e6).dr.atd).choose_spec ndl
    have S7 := S6.trans (sb_ex e7)
    refine u4 _ _ d c cells _ q x sd kvs lr b sb bks dl2 ds2 z v kl ((g5.ex e6).ex e7) (e7 _ _ hkl) hdl7 hP7 dlc fun ds3 H8 b8 g8 => ?_
    refine ⟨dl2, ds3, _, ⟨_, _, _, rfl⟩, fun y o hy ho => b8 y o (fun hm => by rw [List.mem_singleton.mp hm, nS] at ho; cases ho) (S7 y o hy ho), b8 l _ (fun hm => dll (List.mem_singleton.mp hm)) (e7 _ _ l6), g8.mono (by omega), ?_⟩
    rw [List.map_append, hkeys, List.take_add_one, hz, List.map_append]
    rfl
  · obtain ⟨dl, ds, bks, ⟨o5, o6, o7, hσ⟩, s3, hl3, g3, hkeys⟩ := h
    subst hσ
    rw [List.length_map] at g3
    exact k _ _ _ bks dl ds H' s3 (g3.mono (by omega))

end
end BJL

namespace BJL
open PySem PySem.Spec PyProof.Rows L2 BJ
section
variable {P : Program} {w : World} {K : PySem.W.Frag} {mg : Str → Option Value} {base : Heap} {a : Adr}
open Evl
theorem par_c {t1 : TE} {t2 : TA} {D : Ends} {σ : L2.St} {H : Hp} {i j : Nat} (h : t1 σ H fun x H1 => t2 σ H1 fun xs H2 => ∃ v w, x :: xs = [v, w] ∧ D.nx ((σ.set i (some v)).set j (some w)) H2) : tPar i j (tCons t1 t2) D σ H := h
theorem rf_shown (T : Txt P K mg a) {cdv : Value} {A : Around} {outer : List Env} {s : Shared} {H0 : Hp} {E : XK} (hr : Room 16 (A.deeper (envOfC "_law_refilled_right" (defScope s__law_refilled_right) s.heap.objs.size a._law_refilled_right cdv))) (hG : A.guards = some []) :
    ∃ tr, PS (rfX P w K mg base a cdv A outer s H0 E) (rfB 2) tr ∧ ∀ (D : Ends) (H : Hp) (d q lr b sb dl : Addr) (bks : List (Key × V)) (o5 o6 o7 : Option V), BkAt a H b sb bks → bks.length ≤ 5 →
      (∀ sl ss wo dx H', Ex H H' → H' sl = some (.lst (ss.map V.ref)) → Prs H' ss bks → H' wo = some (.ins a.Refill dx []) → D.nx [some (.ref d), some (.ref q), some (.ref lr), some (.ref b), some (.ref dl), o5, o6, o7, none, none, some (.ref sl), some (.ref wo)] H') →
      tr D [some (.ref d), some (.ref q), some (.ref lr), some (.ref b), some (.ref dl), o5, o6, o7, none, none, none, none] H := by
  have G0_Refill := ok_Refill (P := P) (w := w) (base := base) (mg := mg) T
  refine ⟨_, (ps_par (i := 10) (j := 11) rfl sc__law_refilled_right.nd rfl rfl (by decide) rfl rfl (pa_cons (pe_callTy call_list_of (by rfl) T.b_list (by decide +kernel) (pa_cons (pe_pr (pv 3)) pa_nil)) (pa_cons (pe_cx0 G0_Refill (hr.mono (by decide)) rfl T.g_Refill T.k_Refill (takes_of rfl rfl rfl rfl) pk_nil) pa_nil)) (by rfl)), ?_⟩
  intro D H d q lr b sb dl bks o5 o6 o7 bk hl k
  have er : EvRN (tCB (rListS K) (tCons (tPr (rfX P w K mg base a cdv A outer s H0 E) "pairs" (tVar 3)) tNil)) [some (.ref d), some (.ref q), some (.ref lr), some (.ref b), some (.ref dl), o5, o6, o7, none, none, none, none] H bks := ern_list fun H1 e Q q => pr_pairs T rfl rfl rfl rfl rfl (hr.mono (by decide)) (ev_var rfl) (bk.ex e) (by omega) fun t ts H2 e2 ht hP => q t ts H2 e2 (.inr (st_of ht)) hP
  refine par_c (er H (Ex.refl _) _ fun sl ss H1 nsl e1 hsl hss => ⟨rfl, rfl, fun wo dx nx ndx hne => ⟨_, _, rfl, ?_⟩⟩)
  have e2 : Ex H1 (upd (upd H1 dx (.own wo)) wo (.ins a.Refill dx [])) := (Ex.new ndx).trans (Ex.new (by rw [upd_ne hne.symm]; exact nx))
  exact k sl ss wo dx _ (e1.trans e2) (e2 _ _ hsl) (hss.ex e2) upd_same
theorem rf_hook (T : Txt P K mg a) {cdv : Value} {A : Around} {outer : List Env} {s : Shared} {H0 : Hp} {E : XK} (hr : Room 16 (A.deeper (envOfC "_law_refilled_right" (defScope s__law_refilled_right) s.heap.objs.size a._law_refilled_right cdv))) (hG : A.guards = some []) :
    ∃ tr, PS (rfX P w K mg base a cdv A outer s H0 E) (rfB 3) tr ∧ ∀ (D : Ends) (H : Hp) (d q lr b sb dl sl wo dx : Addr) (x : V) (sd : Addr) (kvs bks : List (Key × V)) (o5 o6 o7 : Option V), ThAt a H q x sd kvs → kvs.length ≤ 20 → BkAt a H b sb bks → KvOk K a H bks → bks.length ≤ 5 → H wo = some (.ins a.Refill dx []) →
      (∀ H', SameBut sd H H' → ThAt a H' q x sd (layK kvs bks) → D.nx [some (.ref d), some (.ref q), some (.ref lr), some (.ref b), some (.ref dl), o5, o6, o7, none, none, some (.ref sl), some (.ref wo)] H') →
      tr D [some (.ref d), some (.ref q), some (.ref lr), some (.ref b), some (.ref dl), o5, o6, o7, none, none, some (.ref sl), some (.ref wo)] H := by
  refine ⟨_, (ps_expr (pe_ic (pv 11) (takes_of rfl rfl rfl rfl) (pa_cons (pv 1) (pa_cons (pv 3) pa_nil)) pk_nil)), ?_⟩
  intro D H d q lr b sb dl sl wo dx x sd kvs bks o5 o6 o7 th hkl bk bo hbl hwo k
  exact ⟨_, rfl, wo, a.Refill, dx, a.Refill___call__, _, 14, _, rfl, hwo, co_Refill T, ok_Refill_call T, hr.mono (by decide), _, rfl, _, rfl, ⟨_, hwo⟩, rfl, _, q, x, sd, kvs, b, sb, bks, rfl, th, bk, by omega, bo, by omega, k⟩
theorem rf_test (T : Txt P K mg a) {cdv : Value} {A : Around} {outer : List Env} {s : Shared} {H0 : Hp} {E : XK} (hr : Room 16 (A.deeper (envOfC "_law_refilled_right" (defScope s__law_refilled_right) s.heap.objs.size a._law_refilled_right cdv))) (hG : A.guards = some []) :
    ∃ tr, PS (rfX P w K mg base a cdv A outer s H0 E) (rfB 4) tr ∧ ∀ (D : Ends) (H : Hp) (d q lr b dl sl wo : Addr) (x : V) (sd : Addr) (M : List (Key × V)) (ds : List Addr) (o5 o6 o7 : Option V), ThAt a H q x sd M → M.length ≤ 20 → H dl = some (.lst (ds.map V.ref)) → Prs H ds M → (∀ kv ∈ M, (∃ z, kv.1 = .inr z) ∧ ValAt K a H kv.2) →
      (∀ H', Ex H H' → D.nx [some (.ref d), some (.ref q), some (.ref lr), some (.ref b), some (.ref dl), o5, o6, o7, none, none, some (.ref sl), some (.ref wo)] H') →
      tr D [some (.ref d), some (.ref q), some (.ref lr), some (.ref b), some (.ref dl), o5, o6, o7, none, none, some (.ref sl), some (.ref wo)] H := by
  have G__law_like : CallP P w K mg base 2 (.ref a._law_like) (spLike K a) := ok__law_like T
  refine ⟨_, (ps_if (pt_not (pt_val (pe_ca G__law_like (hr.mono (by decide)) hG rfl T.g__law_like T.k__law_like (takes_of rfl rfl rfl rfl) (pa_cons (pe_callTy call_list_of (by rfl) T.b_list (by decide +kernel) (pa_cons (pe_pr (pv 1)) pa_nil)) (pa_cons (pv 4) pa_nil)))))
 (pss_one (ps_ret pe_bl))
 pss_nil), ?_⟩
  intro D H d q lr b dl sl wo x sd M ds o5 o6 o7 th hl hdl hP mo k
  exact s_when (b := !true) (et_not (et_B (ev_like (er_list fun H1 e Q q => pr_fields T rfl rfl rfl rfl rfl (hr.mono (by decide)) (ev_var rfl) (th.ex e) (by omega) q) (er_var rfl (sq_of hdl) hP) (by omega) mo))) (fun z => nomatch z) fun _ H1 e1 => k H1 e1
theorem rf_again (T : Txt P K mg a) {cdv : Value} {A : Around} {outer : List Env} {s : Shared} {H0 : Hp} {E : XK} (hr : Room 16 (A.deeper (envOfC "_law_refilled_right" (defScope s__law_refilled_right) s.heap.objs.size a._law_refilled_right cdv))) (hG : A.guards = some []) :
    ∃ tr, PS (rfX P w K mg base a cdv A outer s H0 E) (rfB 5) tr ∧ ∀ (D : Ends) (H : Hp) (d q lr b sb dl sl wo dx : Addr) (x : V) (sd : Addr) (kvs bks : List (Key × V)) (o5 o6 o7 : Option V), ThAt a H q x sd kvs → kvs.length ≤ 20 → BkAt a H b sb bks → KvOk K a H bks → bks.length ≤ 5 → H wo = some (.ins a.Refill dx []) →
      (∀ H', SameBut sd H H' → ThAt a H' q x sd (layK kvs bks) → D.nx [some (.ref d), some (.ref q), some (.ref lr), some (.ref b), some (.ref dl), o5, o6, o7, none, none, some (.ref sl), some (.ref wo)] H') →
      tr D [some (.ref d), some (.ref q), some (.ref lr), some (.ref b), some (.ref dl), o5, o6, o7, none, none, some (.ref sl), some (.ref wo)] H := by
  refine ⟨_, (ps_expr (pe_ic0 (pv 11) (takes_of rfl rfl rfl rfl) (pk_cons (pv 3) (pk_cons (pv 1) pk_nil)))), ?_⟩
  intro D H d q lr b sb dl sl wo dx x sd kvs bks o5 o6 o7 th hkl bk bo hbl hwo k
  exact ⟨_, rfl, wo, a.Refill, dx, a.Refill___call__, _, 14, _, rfl, hwo, co_Refill T, ok_Refill_call_kw T, hr.mono (by decide), _, rfl, _, rfl, ⟨_, hwo⟩, rfl, rfl, _, q, x, sd, kvs, b, sb, bks, rfl, th, bk, by omega, bo, by omega, k⟩
theorem rf_end (T : Txt P K mg a) {cdv : Value} {A : Around} {outer : List Env} {s : Shared} {H0 : Hp} {E : XK} (hr : Room 16 (A.deeper (envOfC "_law_refilled_right" (defScope s__law_refilled_right) s.heap.objs.size a._law_refilled_right cdv))) (hG : A.guards = some []) :
    ∃ tr, PS (rfX P w K mg base a cdv A outer s H0 E) (rfB 6) tr ∧ ∀ (D : Ends) (H : Hp) (d q lr b sb dl sl wo : Addr) (x : V) (sd : Addr) (M bks : List (Key × V)) (ds ss : List Addr) (o5 o6 o7 : Option V), ThAt a H q x sd M → M.length ≤ 20 → H dl = some (.lst (ds.map V.ref)) → Prs H ds M → (∀ kv ∈ M, (∃ z, kv.1 = .inr z) ∧ ValAt K a H kv.2) → BkAt a H b sb bks → bks.length ≤ 5 → H sl = some (.lst (ss.map V.ref)) → Prs H ss bks → (∀ kv ∈ bks, (∃ z, kv.1 = .inr z) ∧ ValAt K a H kv.2) →
      (∀ H', Ex H H' → D.rt (.bl true) H') →
      tr D [some (.ref d), some (.ref q), some (.ref lr), some (.ref b), some (.ref dl), o5, o6, o7, none, none, some (.ref sl), some (.ref wo)] H := by
  have G__law_like : CallP P w K mg base 2 (.ref a._law_like) (spLike K a) := ok__law_like T
  refine ⟨_, (ps_ret (pe_and (pe_ca G__law_like (hr.mono (by decide)) hG rfl T.g__law_like T.k__law_like (takes_of rfl rfl rfl rfl) (pa_cons (pe_callTy call_list_of (by rfl) T.b_list (by decide +kernel) (pa_cons (pe_pr (pv 1)) pa_nil)) (pa_cons (pv 4) pa_nil))) (pe_one (pe_ca G__law_like (hr.mono (by decide)) hG rfl T.g__law_like T.k__law_like (takes_of rfl rfl rfl rfl) (pa_cons (pe_callTy call_list_of (by rfl) T.b_list (by decide +kernel) (pa_cons (pe_pr (pv 3)) pa_nil)) (pa_cons (pv 10) pa_nil)))))), ?_⟩
  intro D H d q lr b sb dl sl wo x sd M bks ds ss o5 o6 o7 th hl hdl hP mo bk hbl hsl hss bo k
  exact s_ret (v := .bl (true && true)) (ev_andV (ev_like (er_list fun H1 e Q q => pr_fields T rfl rfl rfl rfl rfl (hr.mono (by decide)) (ev_var rfl) (th.ex e) (by omega) q) (er_var rfl (sq_of hdl) hP) (by omega) mo) fun _ => ev_like (er_list fun H1 e Q q => pr_pairs T rfl rfl rfl rfl rfl (hr.mono (by decide)) (ev_var rfl) (bk.ex e) (by omega) q) (er_var rfl (sq_of hsl) hss) (by omega) bo) fun H1 e1 => k H1 e1
def spRf (K : PySem.W.Frag) (a : Adr) : Sp := fun vs H Q _ => ∃ d c cells n q x sd kvs lr rts, vs = [.ref d, .ref q, .ref lr] ∧ Dr H d c cells n ∧ n ≤ 70000 ∧ ThAt a H q x sd kvs ∧ KvOk K a H kvs ∧ kvs.length ≤ 5 ∧ SqL K H lr (rts.map V.ref) ∧ Prs H rts kvs ∧ sd ≠ d ∧
  ∀ H', ButL [d, sd] H H' → Dr H' d c cells (n + 20) → Q (.bl true) H'
theorem ok__law_refilled_right (T : Txt P K mg a) : CallP P w K mg base 17 (.ref a._law_refilled_right) (spRf K a) := by
  refine T.d__law_refilled_right.ok sc__law_refilled_right (fun vs H Q E h => ?_) (fun cdv A outer s H vs Q E hr hG h => ?_)
  · obtain ⟨d, c, cells, n, q, x, sd, kvs, lr, rts, rfl, _⟩ := h
    rfl
  · obtain ⟨d, c, cells, n, q, x, sd, kvs, lr, rts, rfl, D, hn, th, kv, kl, hlr, hP, sdd, hq⟩ := h
    obtain ⟨t0, p0, u0⟩ := rf_start (P := P) (w := w) (mg := mg) (base := base) (outer := outer) (s := s) (H0 := H) (E := E) T hr hG
    obtain ⟨t1, p1, u1⟩ := rf_loop (P := P) (w := w) (mg := mg) (base := base) (outer := outer) (s := s) (H0 := H) (E := E) T hr hG
    obtain ⟨t2, p2, u2⟩ := rf_shown (P := P) (w := w) (mg := mg) (base := base) (outer := outer) (s := s) (H0 := H) (E := E) T hr hG
    obtain ⟨t3, p3, u3⟩ := rf_hook (P := P) (w := w) (mg := mg) (base := base) (outer := outer) (s := s) (H0 := H) (E := E) T hr hG
    obtain ⟨t4, p4, u4⟩ := rf_test (P := P) (w := w) (mg := mg) (base := base) (outer := outer) (s := s) (H0 := H) (E := E) T hr hG
    obtain ⟨t5, p5, u5⟩ := rf_again (P := P) (w := w) (mg := mg) (base := base) (outer := outer) (s := s) (H0 := H) (E := E) T hr hG
    obtain ⟨t6, p6, u6⟩ := rf_end (P := P) (w := w) (mg := mg) (base := base) (outer := outer) (s := s) (H0 := H) (E := E) T hr hG
    refine ⟨_, pss_cons p0 (pss_cons p1 (pss_cons p2 (pss_cons p3 (pss_cons p4 (pss_cons p5 (pss_one p6)))))), ?_⟩
    obtain ⟨dvs, hd⟩ := D.atd
    refine u0 _ _ d q lr rts kvs hlr hP fun b sb dl ds H1 nb nsb ndl e1 bk hdl hds => ?_
    have sbd : sb ≠ d := fun z => by rw [z, hd] at nsb; cases nsb
    have sbs : sb ≠ sd := fun z => by rw [z, th.dict] at nsb; cases nsb
    have dlc : dl ≠ c := fun z => by rw [z, D.list] at ndl; cases ndl
    refine u1 _ _ H d c cells n q x sd kvs lr b sb dl ds ⟨D.same e1, th.ex e1, kv.ex e1, kl, bk, .nil, Nat.zero_le _, hdl, hds, sdd, sbd, sbs, dlc⟩ (by omega) (SameBut.of e1) nsb fun o5 o6 o7 bks dl2 ds2 H2 S2 g => ?_
    refine u2 _ _ d q lr b sb dl2 bks o5 o6 o7 g.bk g.bl fun sl ss wo dx H3 e3 hsl hss hwo => ?_
    have g3 := g.ex e3
    have kl := g3.kl
    have ml := g3.ml
    refine u3 _ _ d q lr b sb dl2 sl wo dx x sd kvs bks o5 o6 o7 g3.th (by omega) g3.bk g3.bo g3.bl hwo fun H4 s4 th4 => ?_
    have hsd := g3.th.dict
    have no : ∀ {y : Addr} {o : HO}, H3 y = some o → (∀ z, o ≠ .dK z) → H4 y = some o := fun hy ho => s4 _ _ (fun z => by rw [z, hsd] at hy; cases hy; exact ho _ rfl) hy
    have nt : ∀ y ∈ [sd], ∀ ys, H3 y ≠ some (.tup ys) := fun y hy ys z => by rw [List.mem_singleton.mp hy, hsd] at z; cases z
    have b4 : ButL [sd] H3 H4 := ButL.sb s4 (by simp)
    obtain ⟨⟨dy, hb⟩, hsb⟩ := g3.bk
    have bk4 : BkAt a H4 b sb bks := ⟨⟨dy, no hb fun z => (nomatch ·)⟩, s4 _ _ g3.sbs hsb⟩
    have bo4 := g3.bo.sb hsd s4
    have mo4 : ∀ kv ∈ layK kvs bks, (∃ z, kv.1 = .inr z) ∧ ValAt K a H4 kv.2 := fun kv hk => ⟨(g3.mo kv hk).1, (g3.mo kv hk).2.sb hsd s4⟩
    have prs4 := prs_but g3.prs b4 nt
    have hss4 := prs_but hss b4 nt
    have hdl4 := no g3.dh fun z => (nomatch ·)
    have hsl4 := no hsl fun z => (nomatch ·)
    have hwo4 := no hwo fun z => (nomatch ·)
    refine u4 _ _ d q lr b dl2 sl wo x sd _ ds2 o5 o6 o7 th4 (by omega) hdl4 prs4 mo4 fun H5 e5 => ?_
    refine u5 _ _ d q lr b sb dl2 sl wo dx x sd _ bks o5 o6 o7 (th4.ex e5) (by omega) (bk4.ex e5) (bo4.ex e5) g.bl (e5 _ _ hwo4) fun H6 s6 th6 => ?_
    have hlay : layK (layK kvs bks) bks = layK kvs bks := merge_same _ _ (merge_nd _ _ kv.nd) fun y hy => merge_get _ _ g3.bo.nd y hy
    rw [hlay] at th6
    have hsd5 := (th4.ex e5).dict
    have no6 : ∀ {y : Addr} {o : HO}, H4 y = some o → (∀ z, o ≠ .dK z) → H6 y = some o := fun hy ho => s6 _ _ (fun z => by rw [z, th4.dict] at hy; cases hy; exact ho _ rfl) (e5 _ _ hy)
    have b6 : ButL [sd] H5 H6 := ButL.sb s6 (by simp)
    have nt6 : ∀ y ∈ [sd], ∀ ys, H5 y ≠ some (.tup ys) := fun y hy ys z => by rw [List.mem_singleton.mp hy, hsd5] at z; cases z
    obtain ⟨⟨dz, hb4⟩, hsb4⟩ := bk4
    refine u6 _ _ d q lr b sb dl2 sl wo x sd _ bks ds2 ss o5 o6 o7 th6 (by omega) (no6 hdl4 fun z => (nomatch ·)) (prs_but (prs4.ex e5) b6 nt6) (fun kv hk => ⟨(mo4 kv hk).1, ((mo4 kv hk).2.ex e5).sb hsd5 s6⟩) ⟨⟨dz, no6 hb4 fun z => (nomatch ·)⟩, s6 _ _ g3.sbs (e5 _ _ hsb4)⟩ g.bl (no6 hsl4 fun z => (nomatch ·)) (prs_but (hss4.ex e5) b6 nt6) (fun kv hk => ?_) fun H7 e7 => hq H7 (fun y o hy ho => ?_) ?_
    · obtain ⟨z, hz, _⟩ := bo4.lab kv hk
      exact ⟨⟨z, hz⟩, ((bo4.val kv hk).ex e5).sb hsd5 s6⟩
    · simp only [List.mem_cons, List.not_mem_nil, or_false, not_or] at hy
      exact e7 _ _ (s6 _ _ hy.2 (e5 _ _ (s4 _ _ hy.2 (e3 _ _ (S2 y o hy.1 ho)))))
    · have D3 := g3.dr
      obtain ⟨⟨a', l', u', k1, k2⟩, k3, k4, k5⟩ := D3
      exact ⟨⟨a', l', u', e7 _ _ (s6 _ _ g3.sdd.symm (e5 _ _ (s4 _ _ g3.sdd.symm k1))), k2⟩, e7 _ _ (no6 (no k3 fun z => (nomatch ·)) fun z => (nomatch ·)), k4, k5⟩

end
end BJL

namespace BJL
open PySem PySem.Spec PyProof.Rows L2 BJ
section
variable {P : Program} {w : World} {K : PySem.W.Frag} {mg : Str → Option Value} {base : Heap} {a : Adr}
open Evl
abbrev lwN : List Str := ["script", "draw", "turn", "words", "items", "one", "made", "pairs_here", "lone", "far"]
abbrev lwB (i : Nat) : Stmt := (match (defBody s_law).getD 1 (.Pass ⟨0, 0, 0, 0⟩) with | .For _ _ b _ _ => b | _ => []).getD i (.Pass ⟨0, 0, 0, 0⟩)
abbrev lwX (P : Program) (w : World) (K : PySem.W.Frag) (mg : Str → Option Value) (base : Heap) (a : Adr) (cdv : Value) (A : Around) (outer : List Env) (s : Shared) (H : Hp) (E : XK) : Cx := cxOf (L2.CX P w) P w K mg base BJL.lwN "law" (defScope s_law) a.law cdv A outer s H E
theorem lw_words (T : Txt P K mg a) {cdv : Value} {A : Around} {outer : List Env} {s : Shared} {H0 : Hp} {E : XK} (hr : Room 24 (A.deeper (envOfC "law" (defScope s_law) s.heap.objs.size a.law cdv))) (hG : A.guards = some []) :
    ∃ tr, PS (lwX P w K mg base a cdv A outer s H0 E) (lwB 0) tr ∧ ∀ (D : Ends) (H : Hp) (d c : Addr) (cells : List Int) (n : Nat) (o0 o2 o3 o4 o5 o6 o7 o8 o9 : Option V), Dr H d c cells n → n ≤ 90000 →
      (∀ (wl : Addr) (zs : List Str) (H' : Hp), Dr H' d c cells (n + 4) → H' wl = some (.lst (zs.map V.str)) → zs.length ≤ 3 → zs.Nodup → (∀ z ∈ zs, z ∈ LABS) → D.nx [o0, some (.ref d), o2, some (.ref wl), o4, o5, o6, o7, o8, o9] H') →
      tr D [o0, some (.ref d), o2, o3, o4, o5, o6, o7, o8, o9] H := by
  have G__law_next : CallP P w K mg base 2 (.ref a._law_next) spNext := (ok__law_next T).p
  have G__law_labels : CallP P w K mg base 3 (.ref a._law_labels) spLabs := (ok__law_labels T).p
  refine ⟨_, (ps_set (i := 3) sc_law.nd rfl (Or.inl rfl) (pe_ca G__law_labels (hr.mono (by decide)) hG rfl T.g__law_labels T.k__law_labels (takes_of rfl rfl rfl rfl) (pa_cons (pv 1) (pa_cons (pe_ca G__law_next (hr.mono (by decide)) hG rfl T.g__law_next T.k__law_next (takes_of rfl rfl rfl rfl) (pa_cons (pv 1) (pa_cons pe_int pa_nil))) pa_nil)))), ?_⟩
  intro D H d c cells n o0 o2 o3 o4 o5 o6 o7 o8 o9 dr hn k
  refine ⟨_, rfl, _, rfl, d, c, cells, n, 4, rfl, dr, by omega, by omega, by omega, fun r H1 r0 r1 D1 B1 => ?_⟩
  obtain ⟨m, hm, rfl⟩ : ∃ m : Nat, m < 4 ∧ r = (m : Int) := ⟨r.toNat, by omega, by omega⟩
  exact ⟨d, c, cells, n + 1, m, rfl, D1, by omega, by omega, fun l zs H2 nl s2 D2 hl hlen nd hmem => k l zs H2 (D2.mono (by omega)) hl (by omega) nd hmem⟩
theorem lw_items (T : Txt P K mg a) {cdv : Value} {A : Around} {outer : List Env} {s : Shared} {H0 : Hp} {E : XK} (hr : Room 24 (A.deeper (envOfC "law" (defScope s_law) s.heap.objs.size a.law cdv))) (hG : A.guards = some []) :
    ∃ tr, PS (lwX P w K mg base a cdv A outer s H0 E) (lwB 1) tr ∧ ∀ (D : Ends) (H : Hp) (d c : Addr) (cells : List Int) (n : Nat) (wl : Addr) (zs : List Str) (o0 o2 o4 o5 o6 o7 o8 o9 : Option V), Dr H d c cells n → n ≤ 90000 → H wl = some (.lst (zs.map V.str)) → zs.length ≤ 3 →
      (∀ il ws H', Dr H' d c cells (n + 6) → H' wl = some (.lst (zs.map V.str)) → H' il = some (.lst ws) → zs.length = ws.length → (∀ x ∈ ws, ValAt K a H' x) → D.nx [o0, some (.ref d), o2, some (.ref wl), some (.ref il), o5, o6, o7, o8, o9] H') →
      tr D [o0, some (.ref d), o2, some (.ref wl), o4, o5, o6, o7, o8, o9] H := by
  have G__law_next : CallP P w K mg base 2 (.ref a._law_next) spNext := (ok__law_next T).p
  have G__law_atom : CallP P w K mg base 3 (.ref a._law_atom) spAtom := (ok__law_atom T).p
  have G0_Row := ok_Row (P := P) (w := w) (base := base) (mg := mg) T
  refine ⟨_, (ps_setLc (i := 4) (own := [("one", 5)]) (g := (gName 5)) (by rfl) sc_law.nd rfl rfl (sw_true rfl rfl rfl (by decide +kernel)) (pi_list (pv 3)) (blkOk_by (own := [("one", 5)]) (N := ["script", "draw", "turn", "words", "items", "one", "made", "pairs_here", "lone", "far"]) (sc := defScope s_law) (by decide +kernel)) (fun _ _ _ _ _ => (pg_name (i := 5) sc_law.nd rfl (Or.inl rfl))) (fun _ _ _ _ _ => pts_nil) (fun _ _ _ _ _ => (pe_ifExp (pt_cmpR op_eq (pe_ca G__law_next (hr.mono (by decide)) hG rfl T.g__law_next T.k__law_next tkN (pa_cons (pv 1) (pa_cons pe_int pa_nil))) pe_int (nomark _)) (pe_cx0 G0_Row (hr.mono (by decide)) rfl T.g_Row T.k_Row tkN pk_nil) (pe_ca G__law_atom (hr.mono (by decide)) hG rfl T.g__law_atom T.k__law_atom tkN (pa_cons (pv 1) pa_nil))))), ?_⟩
  intro D H d c cells n wl zs o0 o2 o4 o5 o6 o7 o8 o9 dr hn hwl hz k
  refine ⟨_, rfl, wl, rfl, ⟨_, sq_of hwl⟩, fun Dl nDl => ?_⟩
  obtain ⟨dvs, hd⟩ := dr.atd
  have Dd : Dl ≠ d := fun z => by rw [z, hd] at nDl; cases nDl
  have Dc : Dl ≠ c := fun z => by rw [z, dr.list] at nDl; cases nDl
  have Dw : wl ≠ Dl := fun z => by rw [← z, hwl] at nDl; cases nDl
  have wd : wl ≠ d := ne_of hwl hd fun z => nomatch z
  refine lc_it (walk_list (K := K) (a := wl) (xs := zs.map V.str)) (fun i H' => Dr H' d c cells (n + 2 * i) ∧ H' wl = some (.lst (zs.map V.str)) ∧ ∃ xs, H' Dl = some (.lst xs) ∧ xs.length = i ∧ ∀ x ∈ xs, ValAt K a H' x) ⟨dr.mut Dd Dc, by rw [upd_ne Dw]; exact hwl, [], upd_same, rfl, fun _ h => nomatch h⟩ (fun i H' _ h => sq_of h.2.1) (fun i x H2 H3 hi h y => ?_) fun H' h => ?_
  · obtain ⟨rfl, hx0⟩ := y
    obtain ⟨D2, hw2, xs, hx, hl, hv⟩ := h
    rw [List.length_map] at hi
    refine ⟨rfl, ?_⟩
    unfold tYes
    dsimp only
    rw [if_pos rfl]
    have key : ∀ (v : V) (H5 : Hp), SameBut d H3 H5 → Dr H5 d c cells (n + 2 * i + 2) → ValAt K a H5 v → ∃ acc, H5 Dl = some (.lst acc) ∧ acc.length < sizeLine ∧ (Dr (upd H5 Dl (.lst (acc ++ [v]))) d c cells (n + 2 * (i + 1)) ∧ (upd H5 Dl (.lst (acc ++ [v]))) wl = some (.lst (zs.map V.str)) ∧ ∃ xs, (upd H5 Dl (.lst (acc ++ [v]))) Dl = some (.lst xs) ∧ xs.length = i + 1 ∧ ∀ x ∈ xs, ValAt K a (upd H5 Dl (.lst (acc ++ [v]))) x) := fun v H5 sb D5 hv5 => by
      have hx5 := sb _ _ Dd hx
      obtain ⟨dv2, hd2⟩ := D2.atd
      have bl : ∀ u, ButL [Dl] H5 (upd H5 Dl u) := fun u => ButL.upd (by simp)
      have no : ∀ y ∈ [Dl], ∀ C dx fs, H5 y ≠ some (.ins C dx fs) := fun y hy C dx fs z => by rw [List.mem_singleton.mp hy, hx5] at z; cases z
      refine ⟨xs, hx5, by rw [sizeLine_eq]; omega, (D5.mut Dd Dc).mono (by omega), by rw [upd_ne Dw]; exact sb _ _ wd hw2, xs ++ [v], upd_same, by rw [List.length_append, hl]; rfl, fun z hz => ?_⟩
      rcases List.mem_append.mp hz with h | h
      · exact ((hv z h).sb hd2 sb).but (bl _) no
      · rw [List.mem_singleton.mp h]; exact hv5.but (bl _) no
    refine ⟨_, rfl, d, c, cells, n + 2 * i, 3, rfl, D2, by omega, by omega, by omega, fun r H4 r0 r1 D4 B4 => ⟨rfl, _, rfl, ifd (fun h0 => ?_) fun h0 => ?_⟩⟩
    · refine ⟨rfl, by decide, .inl ⟨(fun x h => nomatch h), fun q dx l H5 nq nl e5 hq hl => ?_⟩⟩
      exact key _ H5 (B4.sb.trans (SameBut.of e5)) ((D4.same e5).mono (by omega)) (.inr ⟨q, a.Row, dx, _, rfl, hq, by unfold NodeC; simp⟩)
    · exact ⟨_, rfl, d, c, cells, n + 2 * i + 1, rfl, D4, by omega, fun v H5 s5 D5 ok => key v H5 (B4.sb.trans s5) D5 (.inl ok)⟩
  · obtain ⟨D2, hw2, xs, hx, hl, hv⟩ := h
    rw [List.length_map] at hl D2
    exact k Dl xs H' (D2.mono (by omega)) hw2 hx hl.symm hv
theorem ev_callT {sp : Sp} {W : WX} {ta : TA} {vs : List V} {σ : L2.St} {H : Hp} {z : V} (h : EvA ta σ H vs) (hs : ∀ H1, Ex H H1 → ∀ (Q : VK) (E : XK), (∀ H2, Ex H1 H2 → Q z H2) → sp vs H1 Q E) : Ev (tCa sp W ta) σ H z := ev_ca h hs
theorem lw_test (T : Txt P K mg a) {cdv : Value} {A : Around} {outer : List Env} {s : Shared} {H0 : Hp} {E : XK} (hr : Room 24 (A.deeper (envOfC "law" (defScope s_law) s.heap.objs.size a.law cdv))) (hG : A.guards = some []) :
    ∃ tr, PS (lwX P w K mg base a cdv A outer s H0 E) (lwB 4) tr ∧ ∀ (D : Ends) (H : Hp) (d wl il lo p sd : Addr) (x : V) (kvs : List (Key × V)) (zs : List Str) (ws : List V) (dl : Addr) (o0 o2 o5 o7 o9 : Option V), FI K a wl il zs ws H → ThAt a H p x sd kvs → H lo = some (.ins a.Single dl [("only_thing", .ref p)]) →
      (∀ H', Ex H H' → D.nx [o0, some (.ref d), o2, some (.ref wl), some (.ref il), o5, some (.ref p), o7, some (.ref lo), o9] H') →
      tr D [o0, some (.ref d), o2, some (.ref wl), some (.ref il), o5, some (.ref p), o7, some (.ref lo), o9] H := by
  have G__law_fields_right : CallP P w K mg base 17 (.ref a._law_fields_right) (spFr K a) := ok__law_fields_right T
  refine ⟨_, (ps_if (PW.pt (pw_or (pt_not (pt_val (pe_ca G__law_fields_right (hr.mono (by decide)) hG rfl T.g__law_fields_right T.k__law_fields_right (takes_of rfl rfl rfl rfl) (pa_cons (pv 1) (pa_cons (pv 3) (pa_cons (pv 4) pa_nil)))))) (pw_or1 (pt_cmpR (op_neIds (K := K) rfl (Nat.lt_of_le_of_lt (Nat.le_add_right _ _) hr.units)) (pe_lst (pa_cons (pe_ic (pv 8) (takes_of rfl rfl rfl rfl) (pa_cons (pe_tup pa_nil) pa_nil) pk_nil) (pa_cons (pe_ic0 (pv 8) (takes_of rfl rfl rfl rfl) (pk_cons (pe_tup (pa_cons pe_int (pa_cons pe_int pa_nil))) pk_nil)) pa_nil))) (pe_lst (pa_cons (pv 6) (pa_cons (pv 6) pa_nil))) (nomark _)))))
 (pss_one (ps_ret pe_bl))
 pss_nil), ?_⟩
  intro D H d wl il lo p sd x kvs zs ws dl o0 o2 o5 o7 o9 f th hlo k
  refine s_when (b := !true || false) (et_or (et_not (et_B (ev_ca (ea_cons (ev_var rfl) (ea_cons (ev_var rfl) (ea_cons (ev_var rfl) ea_nil))) fun H1 e1 Q E q => ⟨.ref d, wl, il, zs, ws, rfl, f.ex e1, q⟩))) fun _ => et_test fun H1 e1 Q q => ?_) (fun z => nomatch z) fun _ H1 e1 => k H1 e1
  have h1 := e1 _ _ hlo
  refine ⟨_, rfl, lo, a.Single, dl, a.Single___call__, _, 1, _, rfl, h1, co_Single T, ok_Single_call T, hr.mono (by decide), Nat.zero_le _, fun t0 n0 => ?_⟩
  have h2 := (Ex.new (o := .tup []) n0) _ _ h1
  refine ⟨⟨_, h2⟩, rfl, lo, dl, _, p, rfl, h2, ?_⟩
  refine ⟨_, rfl, lo, a.Single, dl, a.Single___call__, _, 1, _, rfl, h2, co_Single T, ok_Single_call_kw T, hr.mono (by decide), (by show 2 ≤ sizeLine; decide), fun t1 n1 => ?_⟩
  have h3 := (Ex.new (o := .tup [.int 1, .int 2]) n1) _ _ h2
  refine ⟨⟨_, h3⟩, rfl, rfl, lo, dl, _, p, rfl, h3, ?_⟩
  refine ⟨(by show 2 ≤ sizeLine; decide), fun l1 nl1 => ?_⟩
  refine ⟨_, rfl, _, rfl, (by show 2 ≤ sizeLine; decide), fun l2 nl2 => ?_⟩
  have e := (((Ex.new (o := .tup []) n0).trans (Ex.new (o := .tup [.int 1, .int 2]) n1)).trans (Ex.new (o := .lst [.ref p, .ref p]) nl1)).trans (Ex.new (o := .lst [.ref p, .ref p]) nl2)
  exact ⟨l1, l2, [.ref p, .ref p], rfl, rfl, sq_of ((Ex.new nl2) _ _ upd_same), sq_of upd_same, (fun v hv => by simp only [List.mem_cons, List.not_mem_nil, or_false, or_self] at hv; rw [hv]; rfl), q _ e⟩
theorem ta_fst {t1 : TE} {t2 : TA} {σ : L2.St} {H : Hp} {Q : List V → Hp → Prop} (h : t1 σ H fun x H1 => t2 σ H1 fun xs H2 => Q (x :: xs) H2) : tCons t1 t2 σ H Q := h
def keyStr : Key → Str | .inr z => z | .inl _ => Str.empty
theorem pick_aux (n : Nat) (l : List Nat) (xs : List V) (hn : xs.length = n) (h : sliceRange (sliceBounds none none (some (-1)) n).1 (sliceBounds none none (some (-1)) n).2.1 (sliceBounds none none (some (-1)) n).2.2 = l) : pickV xs none none (some (-1)) = l.filterMap (xs[·]?) := by
  unfold pickV
  rw [hn, h]
theorem pick_rev : ∀ xs : List V, xs.length ≤ 5 → pickV xs none none (some (-1)) = xs.reverse
  | [], _ => (pick_aux 0 [] _ rfl (by decide)).trans rfl
  | [_], _ => (pick_aux 1 [0] _ rfl (by decide)).trans rfl
  | [_, _], _ => (pick_aux 2 [1, 0] _ rfl (by decide)).trans rfl
  | [_, _, _], _ => (pick_aux 3 [2, 1, 0] _ rfl (by decide)).trans rfl
  | [_, _, _, _], _ => (pick_aux 4 [3, 2, 1, 0] _ rfl (by decide)).trans rfl
  | [_, _, _, _, _], _ => (pick_aux 5 [4, 3, 2, 1, 0] _ rfl (by decide)).trans rfl
  | _ :: _ :: _ :: _ :: _ :: _ :: _, h => by simp at h
theorem el_rev {te : TE} {σ : L2.St} {H : Hp} {xs : List V} (h : EvL te σ H xs) (hl : xs.length ≤ 5) : EvL (tSl3 K te tNoPart tNoPart (tPart (tUn (rU fun i => V.int (-i)) (tC (.int 1))))) σ H xs.reverse := fun H1 e Q q =>
  h H1 e _ fun p H2 np e2 hp => ⟨_, rfl, _, rfl, p, xs, rfl, sq_of hp, (by decide), (by rw [pick_rev xs hl, List.length_reverse, sizeLine_eq]; omega), fun p2 np2 => by
    rw [pick_rev xs hl]
    exact q p2 _ (fresh_back e2 np2) (e2.trans (Ex.new np2)) upd_same⟩
theorem words_of {kvs : List (Key × V)} (h : ∀ kv ∈ kvs, ∃ z ∈ LABS, kv.1 = .inr z) : (kvs.map fun kv => kV kv.1).reverse = ((kvs.map fun kv => keyStr kv.1).reverse).map V.str := by
  rw [List.map_reverse, List.map_map]
  congr 1
  refine List.map_congr_left fun kv hk => ?_
  obtain ⟨z, _, hz⟩ := h kv hk
  show kV kv.1 = V.str (keyStr kv.1)
  rw [hz]
  rfl
theorem lw_taken (T : Txt P K mg a) {cdv : Value} {A : Around} {outer : List Env} {s : Shared} {H0 : Hp} {E : XK} (hr : Room 24 (A.deeper (envOfC "law" (defScope s_law) s.heap.objs.size a.law cdv))) (hG : A.guards = some []) :
    ∃ tr, PS (lwX P w K mg base a cdv A outer s H0 E) (lwB 5) tr ∧ ∀ (D : Ends) (H : Hp) (d p sd : Addr) (x : V) (kvs : List (Key × V)) (lr : Addr) (rts : List Addr) (o0 o2 o3 o4 o5 o8 o9 : Option V), ThAt a H p x sd kvs → H lr = some (.lst (rts.map V.ref)) → Prs H rts kvs → KvOk K a H kvs → kvs.length ≤ 5 → (∀ kv ∈ kvs, ∃ z ∈ LABS, kv.1 = .inr z) →
      (∀ H', Ex H H' → D.nx [o0, some (.ref d), o2, o3, o4, o5, some (.ref p), some (.ref lr), o8, o9] H') →
      tr D [o0, some (.ref d), o2, o3, o4, o5, some (.ref p), some (.ref lr), o8, o9] H := by
  have G__law_taken_right : CallP P w K mg base 21 (.ref a._law_taken_right) (spTk K a) := ok__law_taken_right T
  refine ⟨_, (ps_if (pt_not (pt_val (pe_ca G__law_taken_right (hr.mono (by decide)) hG rfl T.g__law_taken_right T.k__law_taken_right (takes_of rfl rfl rfl rfl) (pa_cons (pv 6) (pa_cons (pv 7) (pa_cons (pe_slice3 (pe_lc (own := [("one", 5), ("far", 9)]) (g := (gTup K 2 (gCons (gName 5) (gCons (gName 9) gNil)))) (by rfl) sc_law.nd (pi_list (pv 7)) (blkOk_by (own := [("one", 5), ("far", 9)]) (N := ["script", "draw", "turn", "words", "items", "one", "made", "pairs_here", "lone", "far"]) (sc := defScope s_law) (by decide +kernel)) (fun _ _ _ _ _ => (pg_tup rfl (pgs_cons (pg_name (i := 5) sc_law.nd rfl (Or.inl rfl)) (pgs_cons (pg_name (i := 9) sc_law.nd rfl (Or.inl rfl)) pgs_nil)))) (fun _ _ _ _ _ => pts_nil) (fun _ _ _ _ _ => (pv 5))) po_none po_none (po_some (pe_un un_neg pe_int))) pa_nil))))))
 (pss_one (ps_ret pe_bl))
 pss_nil), ?_⟩
  intro D H d p sd x kvs lr rts o0 o2 o3 o4 o5 o8 o9 th hlr hP ok hl hlab k
  refine s_when (b := !true) (et_not (et_B fun H1 e1 Q q => ?_)) (fun z => nomatch z) fun _ H1 e1 => k H1 e1
  have el := el_prs (K := K) (vs := [5, 9]) (j := 5) (l := 9) (wi := iList K (tVar 7)) (tt := tYes) (te := tVar 5) (σ := [o0, some (.ref d), o2, o3, o4, o5, some (.ref p), some (.ref lr), o8, o9]) (H := H) (ei_list (ev_var rfl) (sq_of hlr)) hP (fun _ => true) (fun kv => kV kv.1) (by omega) (fun _ _ => rfl) (fun _ _ _ _ => et_yes) (fun kv hk hf H1 e1 => ev_var rfl)
  rw [List.filter_eq_self.mpr (fun _ _ => rfl)] at el
  refine ⟨_, rfl, _, rfl, ?_⟩
  have er := el_rev (K := K) el (by rw [List.length_map]; exact hl)
  rw [words_of hlab] at er
  refine ta_fst (er H1 e1 _ fun l2 H2 nl2 e2 hl2 => ?_)
  · have e := e1.trans e2
    refine ⟨p, x, sd, kvs, lr, rts, l2, (kvs.map fun kv => keyStr kv.1).reverse, rfl, ⟨th.ex e, e _ _ hlr, hP.ex e, ok.ex e, hl, hl2, ?_, fun z hz => ?_, by rw [List.length_reverse, List.length_map]; exact hl, ?_⟩, fun H' e' => q H' (e2.trans e')⟩
    · unfold List.Nodup
      rw [List.pairwise_reverse]
      refine List.Pairwise.imp (R := fun a b => a ≠ b) (fun {a b} (h : a ≠ b) => h.symm) ?_
      have h2 : kvs.map (·.1) = (kvs.map fun kv => keyStr kv.1).map (Sum.inr : Str → Key) := by
        rw [List.map_map]
        refine List.map_congr_left fun kv hk => ?_
        obtain ⟨z, _, hz⟩ := hlab kv hk
        show kv.1 = Sum.inr (keyStr kv.1)
        rw [hz]
        rfl
      have h3 := ok.nd
      rw [h2] at h3
      exact List.Pairwise.of_map Sum.inr (fun x y hxy e => hxy (congrArg Sum.inr e)) h3
    · obtain ⟨kv, hk, rfl⟩ := List.mem_map.mp (List.mem_reverse.mp hz)
      obtain ⟨z, _, hz⟩ := hlab kv hk
      refine ⟨kv.2, ?_⟩
      rw [show (Sum.inr (keyStr kv.1) : Key) = kv.1 by rw [hz]; rfl]
      exact hk
    · cases hv : valV kvs (.inr "later") with
      | none => rfl
      | some v =>
        exfalso
        obtain ⟨kv, hm, hk⟩ := List.mem_map.mp (valV_in hv)
        obtain ⟨y, hy, hyk⟩ := hlab kv hm
        rw [hyk] at hk
        exact late_ok (Sum.inr.inj hk ▸ hy)
theorem lw_refilled (T : Txt P K mg a) {cdv : Value} {A : Around} {outer : List Env} {s : Shared} {H0 : Hp} {E : XK} (hr : Room 24 (A.deeper (envOfC "law" (defScope s_law) s.heap.objs.size a.law cdv))) (hG : A.guards = some []) :
    ∃ tr, PS (lwX P w K mg base a cdv A outer s H0 E) (lwB 6) tr ∧ ∀ (D : Ends) (H : Hp) (d c : Addr) (cells : List Int) (n : Nat) (p sd : Addr) (x : V) (kvs : List (Key × V)) (lr : Addr) (rts : List Addr) (o0 o2 o3 o4 o5 o8 o9 : Option V), Dr H d c cells n → n ≤ 70000 → ThAt a H p x sd kvs → H lr = some (.lst (rts.map V.ref)) → Prs H rts kvs → KvOk K a H kvs → kvs.length ≤ 5 → sd ≠ d →
      (∀ H', Dr H' d c cells (n + 20) → D.nx [o0, some (.ref d), o2, o3, o4, o5, some (.ref p), some (.ref lr), o8, o9] H') →
      tr D [o0, some (.ref d), o2, o3, o4, o5, some (.ref p), some (.ref lr), o8, o9] H := by
  have G__law_refilled_right : CallP P w K mg base 17 (.ref a._law_refilled_right) (spRf K a) := ok__law_refilled_right T
  refine ⟨_, (ps_if (pt_not (pt_val (pe_ca G__law_refilled_right (hr.mono (by decide)) hG rfl T.g__law_refilled_right T.k__law_refilled_right (takes_of rfl rfl rfl rfl) (pa_cons (pv 1) (pa_cons (pv 6) (pa_cons (pv 7) pa_nil))))))
 (pss_one (ps_ret pe_bl))
 pss_nil), ?_⟩
  intro D H d c cells n p sd x kvs lr rts o0 o2 o3 o4 o5 o8 o9 dr hn th hlr hP ok hl sdd k
  exact ⟨_, rfl, _, rfl, _, rfl, d, c, cells, n, p, x, sd, kvs, lr, rts, rfl, dr, hn, th, ok, hl, sq_of hlr, hP, sdd, fun H' b D' => ⟨_, rfl, iteF (k H' D')⟩⟩

end
end BJL

namespace BJL
open PySem PySem.Spec PyProof.Rows L2 BJ
section
variable {P : Program} {w : World} {K : PySem.W.Frag} {mg : Str → Option Value} {base : Heap} {a : Adr}
open Evl
theorem fdiv_le {i : Int} (h : 0 ≤ i) : 0 ≤ i.fdiv 2 := fd (by decide) h
theorem lw_loop (T : Txt P K mg a) {cdv : Value} {A : Around} {outer : List Env} {s : Shared} {H0 : Hp} {E : XK} (hr : Room 24 (A.deeper (envOfC "law" (defScope s_law) s.heap.objs.size a.law cdv))) (hG : A.guards = some []) :
    ∃ tr, PS (lwX P w K mg base a cdv A outer s H0 E) ((defBody s_law).getD 1 (.Pass ⟨0, 0, 0, 0⟩)) tr ∧ ∀ (D : Ends) (H : Hp) (sc d c : Addr) (cells : List Int) (ns : List V), Dr H d c cells 0 → SqL K H sc ns → ns.length ≤ 63 →
      (∀ σ' H', D.nx σ' H') →
      tr D [some (.ref sc), some (.ref d), none, none, none, none, none, none, none, none] H := by
  have G__law_thing : CallP P w K mg base 15 (.ref a._law_thing) (spThg K a) := ok__law_thing T
  have G_Single := ok_Single (P := P) (w := w) (base := base) (mg := mg) T
  obtain ⟨t0, p0, u0⟩ := lw_words (P := P) (w := w) (mg := mg) (base := base) (outer := outer) (s := s) (H0 := H0) (E := E) T hr hG
  obtain ⟨t1, p1, u1⟩ := lw_items (P := P) (w := w) (mg := mg) (base := base) (outer := outer) (s := s) (H0 := H0) (E := E) T hr hG
  obtain ⟨t4, p4, u4⟩ := lw_test (P := P) (w := w) (mg := mg) (base := base) (outer := outer) (s := s) (H0 := H0) (E := E) T hr hG
  obtain ⟨t5, p5, u5⟩ := lw_taken (P := P) (w := w) (mg := mg) (base := base) (outer := outer) (s := s) (H0 := H0) (E := E) T hr hG
  obtain ⟨t6, p6, u6⟩ := lw_refilled (P := P) (w := w) (mg := mg) (base := base) (outer := outer) (s := s) (H0 := H0) (E := E) T hr hG
  have p2 : PS (lwX P w K mg base a cdv A outer s H0 E) (lwB 2) _ := (ps_asg (pe_ca G__law_thing (hr.mono (by decide)) hG rfl T.g__law_thing T.k__law_thing (takes_of rfl rfl rfl rfl) (pa_cons (pv 1) (pa_cons pe_int pa_nil))) (pg_tup rfl (pgs_cons (pg_name (i := 6) sc_law.nd rfl (Or.inl rfl)) (pgs_cons (pg_name (i := 7) sc_law.nd rfl (Or.inl rfl)) pgs_nil))) (by rfl))
  have p3 : PS (lwX P w K mg base a cdv A outer s H0 E) (lwB 3) _ := (ps_set (i := 8) sc_law.nd rfl (Or.inl rfl) (pe_cx G_Single (hr.mono (by decide)) rfl T.g_Single T.k_Single (takes_of rfl rfl rfl rfl) (pa_cons (pv 6) pa_nil) pk_nil))
  refine ⟨_, (ps_for (passes_of rfl) rfl (pi_range1 (by rfl) T.b_range (pa_cons (pe_callB (call_min2 rfl) (by rfl) T.b_min (by decide +kernel) (pa_cons pe_int (pa_cons (pe_op op_add pe_int (pe_op op_fdiv (pe_callB call_len_seq (by rfl) T.b_len (by decide +kernel) (pa_cons (pv 0) pa_nil)) pe_int)) pa_nil))) pa_nil)) (pg_name (i := 2) sc_law.nd rfl (Or.inl rfl)) (pss_cons p0 (pss_cons p1 (pss_cons p2 (pss_cons p3 (pss_cons p4 (pss_cons p5 (pss_one p6)))))))), ?_⟩
  intro D H sc d c cells ns dr hsc hlen k
  obtain ⟨N, hN, hN2⟩ : ∃ N : Int, N = (if 2 + ((ns.length : Nat) : Int) / 2 < 6 then 2 + ((ns.length : Nat) : Int) / 2 else 6) ∧ (0 ≤ N ∧ N ≤ 6) := ⟨_, rfl, by split <;> omega⟩
  refine ⟨_, rfl, sc, ns, rfl, .inl hsc, _, _, rfl, rfl, ⟨by decide, by decide⟩, _, _, rfl, rfl, _, _, rfl, N, by rw [hN], by omega, by omega, for_range (lo := 0) (n := N.toNat) (fun i σ H' => (∃ o2 o3 o4 o5 o6 o7 o8 o9, σ = [some (.ref sc), some (.ref d), o2, o3, o4, o5, o6, o7, o8, o9]) ∧ Dr H' d c cells (100 * i))
    ⟨⟨_, _, _, _, _, _, _, _, rfl⟩, dr⟩ (fun i σ H1 hi h => ?_) fun σ H' _ => k σ H'⟩
  obtain ⟨⟨o2, o3, o4, o5, o6, o7, o8, o9, hσ⟩, D1⟩ := h
  subst hσ
  refine u0 _ H1 d c cells (100 * i) _ _ _ _ _ _ _ _ _ D1 (by omega) fun wl zs H2 D2 hwl hz nd hmem => ?_
  refine u1 _ H2 d c cells _ wl zs _ _ _ _ _ _ _ _ D2 (by omega) hwl hz fun il ws H3 D3 hwl3 hil hzw hv => ?_
  refine ⟨_, rfl, d, c, cells, _, rfl, D3, by omega, fun u p sd lr rts kvs H4 s4 nsd g hu hl hlab => ⟨u, _, rfl, st_of hu, rfl, _, _, rfl, _, _, rfl, rfl, ?_⟩⟩
  obtain ⟨dx, hp⟩ := id g.th.at_
  refine ⟨_, rfl, p, dx, _, rfl, rfl, hp, fun lo dl H5 nlo e5 hlo => ?_⟩
  obtain ⟨dv3, hd3⟩ := D3.atd
  have f4 : FI K a wl il zs ws H4 := ⟨s4 _ _ (ne_of hwl3 hd3 fun z => nomatch z) hwl3, s4 _ _ (ne_of hil hd3 fun z => nomatch z) hil, hzw, nd, hz, hmem, fun x hx => (hv x hx).sb hd3 s4⟩
  have g5 := g.ex e5
  refine u4 _ H5 d wl il lo p sd _ kvs zs ws dl _ _ _ _ _ (f4.ex e5) g5.th hlo fun H6 e6 => ?_
  have g6 := g5.ex e6
  refine u5 _ H6 d p sd _ kvs lr rts _ _ _ _ _ _ _ g6.th g6.hl g6.prs g6.ok hl hlab fun H7 e7 => ?_
  have g7 := g6.ex e7
  refine u6 _ H7 d c cells _ p sd _ kvs lr rts _ _ _ _ _ _ _ g7.dr (by omega) g7.th g7.hl g7.prs g7.ok hl g7.ds fun H8 D8 => ?_
  exact ⟨⟨_, _, _, _, _, _, _, _, rfl⟩, D8.mono (by omega)⟩
def sp_law (K : PySem.W.Frag) : Sp := fun vs H Q _ => ∃ (a : Addr) (ns : List Int), vs = [.ref a] ∧ Scr K H a (ns.map V.int) ∧ ns.length ≤ 63 ∧ ∀ H', Q (.bl true) H'
theorem ok_law (T : Txt P K mg a) : CallP P w K mg base 27 (.ref a.law) (sp_law K) := by
  have G__law_begin : CallP P w K mg base 1 (.ref a._law_begin) (spBegin K) := (ok__law_begin T).p
  refine T.d_law.ok sc_law (fun vs H Q E h => ?_) (fun cdv A outer s H vs Q E hr hG h => ?_)
  · obtain ⟨x, ns, rfl, _⟩ := h
    rfl
  · obtain ⟨sc, ns0, rfl, hS, hl, hq⟩ := h
    obtain ⟨t1, p1, k1⟩ := lw_loop (P := P) (w := w) (mg := mg) (base := base) (outer := outer) (H0 := H) (E := E) T (hr.mono (by decide)) hG
    refine ⟨_, pss_cons (ps_set (i := 1) sc_law.nd rfl (Or.inr rfl) (pe_ca G__law_begin (hr.mono (by decide)) hG rfl T.g__law_begin T.k__law_begin (takes_of rfl rfl rfl rfl) (pa_cons (pv 0) pa_nil))) (pss_cons p1 (pss_one (ps_ret pe_bl))), ?_⟩
    refine ⟨_, rfl, sc, ns0, rfl, hS, hl, fun d c H1 x1 nd nc D1 => ?_⟩
    exact k1 _ H1 sc d c (ns0 ++ [0]) (ns0.map V.int) D1 (ex_l x1 hS.sq) (by rw [List.length_map]; exact hl) fun σ' H' => hq H'
theorem law_start {K : Params → PySem.W.Frag} (w : World) (H : Hp) (a : Addr) (ns : List Int) (_ht : Tr H) (hl : ns.length ≤ 63) (_hb : ∀ z ∈ ns, Builtin.Int.intBits z ≤ 1048576) (h : Scr (K w.params) H a (ns.map V.int)) :
  sp_law (K w.params) [.ref a] H (fun v _ => v = .bl true) fun _ _ _ => False := ⟨a, ns, rfl, h, hl, fun _ => rfl⟩
theorem law_use {P : Program} {w : World} {K : PySem.W.Frag} {mg : Str → Option Value} {base : Heap} {a : Adr} {fa : Addr} (T : Txt P K mg a) (h : mg "law" = some (.ref fa)) : CallP P w K mg base 30 (.ref fa) (sp_law K) := by
  have q := T.g_law.symm.trans h
  cases q
  exact (ok_law T).mono (by decide)

end
end BJL
namespace BJL
open PySem PySem.Spec PyProof.Rows L2 BJ
theorem all_mk {P : Program} {K : PySem.W.Frag} {h : Heap} {mg : Str → Option Value} {A_wall Ais_integer Ais_whole_atom Ais_text Ais_key Ais_atom Ais_brand Aholds_value Acheck_value Acheck_key Acheck_label ANode_shape ANode_children ASequence___init__ ASequence_parts ASequence_children ARow_of ARow_shape ARow_put_last ARow_put_at ABook___init__ ABook_of ABook_shape ABook_pairs ABook_children ABook_enter ABook_check_entry ABook_change ABook_value_of AThing___init__ AThing_shape AThing_brand AThing_fields AThing_children AThing_set_field AThing_field Acheck_labels AFields___init__ AFields___call__ ASingle___init__ ASingle___call__ AParts___init__ AParts___call__ AWhole___call__ ARefill___call__ A_law_begin A_law_mixed A_law_next A_law_atom A_law_labels A_law_thing A_law_like A_law_fields_right A_law_taken_right A_law_refilled_right Alaw AJarError AInvalidValue AInvalidKey AInvalidBrand AStateError AKeyTaken AMissingError ANoEntry ANode ASequence ARow ABook AThing AFields ASingle AParts AWhole ARefill AInvalidValue_i AInvalidValue_c AInvalidValue_d AInvalidKey_i AInvalidKey_c AInvalidKey_d AInvalidBrand_i AInvalidBrand_c AInvalidBrand_d AKeyTaken_i AKeyTaken_c AKeyTaken_d ANoEntry_i ANoEntry_c ANoEntry_d ANode_shape_p ASequence_parts_p ARow_of_p ARow_shape_p ABook_of_p ABook_shape_p ABook_pairs_p AThing_shape_p AThing_brand_p AThing_fields_p : Addr} (X : K.In h) (G : h.Ns mainGlobals mg)
  {rest_Node_shape : List Value}
  {rest_Sequence_shape : List Value}
  {rest_Sequence_parts : List Value}
  {rest_Row_shape : List Value}
  {rest_Row_parts : List Value}
  {rest_Row_of : List Value}
  {rest_Book_shape : List Value}
  {rest_Book_of : List Value}
  {rest_Book_pairs : List Value}
  {rest_Thing_shape : List Value}
  {rest_Thing_brand : List Value}
  {rest_Thing_fields : List Value}
  {t_MOST_INTEGER : Tok}
  {t_MOST_CHARACTERS : Tok}
  {t_MOST_NUMBERS : Tok}
  {t_MOST_BRAND : Tok}
  {t_BAG : Tok}
  {t_LETTERS : Tok}
  {t_OTHERS : Tok}
  {od__wall an__wall : Option Addr} {sl__wall : Array (Option Value)} {oc__wall kV__wall dc__wall pm__wall cd__wall ct__wall : Value}
  {od_is_integer an_is_integer : Option Addr} {sl_is_integer : Array (Option Value)} {oc_is_integer kV_is_integer dc_is_integer pm_is_integer cd_is_integer ct_is_integer : Value}
  {od_is_whole_atom an_is_whole_atom : Option Addr} {sl_is_whole_atom : Array (Option Value)} {oc_is_whole_atom kV_is_whole_atom dc_is_whole_atom pm_is_whole_atom cd_is_whole_atom ct_is_whole_atom : Value}
  {od_is_text an_is_text : Option Addr} {sl_is_text : Array (Option Value)} {oc_is_text kV_is_text dc_is_text pm_is_text cd_is_text ct_is_text : Value}
  {od_is_key an_is_key : Option Addr} {sl_is_key : Array (Option Value)} {oc_is_key kV_is_key dc_is_key pm_is_key cd_is_key ct_is_key : Value}
  {od_is_atom an_is_atom : Option Addr} {sl_is_atom : Array (Option Value)} {oc_is_atom kV_is_atom dc_is_atom pm_is_atom cd_is_atom ct_is_atom : Value}
  {od_is_brand an_is_brand : Option Addr} {sl_is_brand : Array (Option Value)} {oc_is_brand kV_is_brand dc_is_brand pm_is_brand cd_is_brand ct_is_brand : Value}
  {od_holds_value an_holds_value : Option Addr} {sl_holds_value : Array (Option Value)} {oc_holds_value kV_holds_value dc_holds_value pm_holds_value cd_holds_value ct_holds_value : Value}
  {od_check_value an_check_value : Option Addr} {sl_check_value : Array (Option Value)} {oc_check_value kV_check_value dc_check_value pm_check_value cd_check_value ct_check_value : Value}
  {od_check_key an_check_key : Option Addr} {sl_check_key : Array (Option Value)} {oc_check_key kV_check_key dc_check_key pm_check_key cd_check_key ct_check_key : Value}
  {od_check_label an_check_label : Option Addr} {sl_check_label : Array (Option Value)} {oc_check_label kV_check_label dc_check_label pm_check_label cd_check_label ct_check_label : Value}
  {od_Node_shape an_Node_shape : Option Addr} {sl_Node_shape : Array (Option Value)} {oc_Node_shape kV_Node_shape dc_Node_shape pm_Node_shape cd_Node_shape ct_Node_shape : Value}
  {od_Node_children an_Node_children : Option Addr} {sl_Node_children : Array (Option Value)} {oc_Node_children kV_Node_children dc_Node_children pm_Node_children cd_Node_children ct_Node_children : Value}
  {od_Sequence___init__ an_Sequence___init__ : Option Addr} {sl_Sequence___init__ : Array (Option Value)} {oc_Sequence___init__ kV_Sequence___init__ dc_Sequence___init__ pm_Sequence___init__ cd_Sequence___init__ ct_Sequence___init__ : Value}
  {od_Sequence_parts an_Sequence_parts : Option Addr} {sl_Sequence_parts : Array (Option Value)} {oc_Sequence_parts kV_Sequence_parts dc_Sequence_parts pm_Sequence_parts cd_Sequence_parts ct_Sequence_parts : Value}
  {od_Sequence_children an_Sequence_children : Option Addr} {sl_Sequence_children : Array (Option Value)} {oc_Sequence_children kV_Sequence_children dc_Sequence_children pm_Sequence_children cd_Sequence_children ct_Sequence_children : Value}
  {od_Row_of an_Row_of : Option Addr} {sl_Row_of : Array (Option Value)} {oc_Row_of kV_Row_of dc_Row_of pm_Row_of cd_Row_of ct_Row_of : Value}
  {od_Row_shape an_Row_shape : Option Addr} {sl_Row_shape : Array (Option Value)} {oc_Row_shape kV_Row_shape dc_Row_shape pm_Row_shape cd_Row_shape ct_Row_shape : Value}
  {od_Row_put_last an_Row_put_last : Option Addr} {sl_Row_put_last : Array (Option Value)} {oc_Row_put_last kV_Row_put_last dc_Row_put_last pm_Row_put_last cd_Row_put_last ct_Row_put_last : Value}
  {od_Row_put_at an_Row_put_at : Option Addr} {sl_Row_put_at : Array (Option Value)} {oc_Row_put_at kV_Row_put_at dc_Row_put_at pm_Row_put_at cd_Row_put_at ct_Row_put_at : Value}
  {od_Book___init__ an_Book___init__ : Option Addr} {sl_Book___init__ : Array (Option Value)} {oc_Book___init__ kV_Book___init__ dc_Book___init__ pm_Book___init__ cd_Book___init__ ct_Book___init__ : Value}
  {od_Book_of an_Book_of : Option Addr} {sl_Book_of : Array (Option Value)} {oc_Book_of kV_Book_of dc_Book_of pm_Book_of cd_Book_of ct_Book_of : Value}
  {od_Book_shape an_Book_shape : Option Addr} {sl_Book_shape : Array (Option Value)} {oc_Book_shape kV_Book_shape dc_Book_shape pm_Book_shape cd_Book_shape ct_Book_shape : Value}
  {od_Book_pairs an_Book_pairs : Option Addr} {sl_Book_pairs : Array (Option Value)} {oc_Book_pairs kV_Book_pairs dc_Book_pairs pm_Book_pairs cd_Book_pairs ct_Book_pairs : Value}
  {od_Book_children an_Book_children : Option Addr} {sl_Book_children : Array (Option Value)} {oc_Book_children kV_Book_children dc_Book_children pm_Book_children cd_Book_children ct_Book_children : Value}
  {od_Book_enter an_Book_enter : Option Addr} {sl_Book_enter : Array (Option Value)} {oc_Book_enter kV_Book_enter dc_Book_enter pm_Book_enter cd_Book_enter ct_Book_enter : Value}
  {od_Book_check_entry an_Book_check_entry : Option Addr} {sl_Book_check_entry : Array (Option Value)} {oc_Book_check_entry kV_Book_check_entry dc_Book_check_entry pm_Book_check_entry cd_Book_check_entry ct_Book_check_entry : Value}
  {od_Book_change an_Book_change : Option Addr} {sl_Book_change : Array (Option Value)} {oc_Book_change kV_Book_change dc_Book_change pm_Book_change cd_Book_change ct_Book_change : Value}
  {od_Book_value_of an_Book_value_of : Option Addr} {sl_Book_value_of : Array (Option Value)} {oc_Book_value_of kV_Book_value_of dc_Book_value_of pm_Book_value_of cd_Book_value_of ct_Book_value_of : Value}
  {od_Thing___init__ an_Thing___init__ : Option Addr} {sl_Thing___init__ : Array (Option Value)} {oc_Thing___init__ kV_Thing___init__ dc_Thing___init__ pm_Thing___init__ cd_Thing___init__ ct_Thing___init__ : Value}
  {od_Thing_shape an_Thing_shape : Option Addr} {sl_Thing_shape : Array (Option Value)} {oc_Thing_shape kV_Thing_shape dc_Thing_shape pm_Thing_shape cd_Thing_shape ct_Thing_shape : Value}
  {od_Thing_brand an_Thing_brand : Option Addr} {sl_Thing_brand : Array (Option Value)} {oc_Thing_brand kV_Thing_brand dc_Thing_brand pm_Thing_brand cd_Thing_brand ct_Thing_brand : Value}
  {od_Thing_fields an_Thing_fields : Option Addr} {sl_Thing_fields : Array (Option Value)} {oc_Thing_fields kV_Thing_fields dc_Thing_fields pm_Thing_fields cd_Thing_fields ct_Thing_fields : Value}
  {od_Thing_children an_Thing_children : Option Addr} {sl_Thing_children : Array (Option Value)} {oc_Thing_children kV_Thing_children dc_Thing_children pm_Thing_children cd_Thing_children ct_Thing_children : Value}
  {od_Thing_set_field an_Thing_set_field : Option Addr} {sl_Thing_set_field : Array (Option Value)} {oc_Thing_set_field kV_Thing_set_field dc_Thing_set_field pm_Thing_set_field cd_Thing_set_field ct_Thing_set_field : Value}
  {od_Thing_field an_Thing_field : Option Addr} {sl_Thing_field : Array (Option Value)} {oc_Thing_field kV_Thing_field dc_Thing_field pm_Thing_field cd_Thing_field ct_Thing_field : Value}
  {od_check_labels an_check_labels : Option Addr} {sl_check_labels : Array (Option Value)} {oc_check_labels kV_check_labels dc_check_labels pm_check_labels cd_check_labels ct_check_labels : Value}
  {od_Fields___init__ an_Fields___init__ : Option Addr} {sl_Fields___init__ : Array (Option Value)} {oc_Fields___init__ kV_Fields___init__ dc_Fields___init__ pm_Fields___init__ cd_Fields___init__ ct_Fields___init__ : Value}
  {od_Fields___call__ an_Fields___call__ : Option Addr} {sl_Fields___call__ : Array (Option Value)} {oc_Fields___call__ kV_Fields___call__ dc_Fields___call__ pm_Fields___call__ cd_Fields___call__ ct_Fields___call__ : Value}
  {od_Single___init__ an_Single___init__ : Option Addr} {sl_Single___init__ : Array (Option Value)} {oc_Single___init__ kV_Single___init__ dc_Single___init__ pm_Single___init__ cd_Single___init__ ct_Single___init__ : Value}
  {od_Single___call__ an_Single___call__ : Option Addr} {sl_Single___call__ : Array (Option Value)} {oc_Single___call__ kV_Single___call__ dc_Single___call__ pm_Single___call__ cd_Single___call__ ct_Single___call__ : Value}
  {od_Parts___init__ an_Parts___init__ : Option Addr} {sl_Parts___init__ : Array (Option Value)} {oc_Parts___init__ kV_Parts___init__ dc_Parts___init__ pm_Parts___init__ cd_Parts___init__ ct_Parts___init__ : Value}
  {od_Parts___call__ an_Parts___call__ : Option Addr} {sl_Parts___call__ : Array (Option Value)} {oc_Parts___call__ kV_Parts___call__ dc_Parts___call__ pm_Parts___call__ cd_Parts___call__ ct_Parts___call__ : Value}
  {od_Whole___call__ an_Whole___call__ : Option Addr} {sl_Whole___call__ : Array (Option Value)} {oc_Whole___call__ kV_Whole___call__ dc_Whole___call__ pm_Whole___call__ cd_Whole___call__ ct_Whole___call__ : Value}
  {od_Refill___call__ an_Refill___call__ : Option Addr} {sl_Refill___call__ : Array (Option Value)} {oc_Refill___call__ kV_Refill___call__ dc_Refill___call__ pm_Refill___call__ cd_Refill___call__ ct_Refill___call__ : Value}
  {od__law_begin an__law_begin : Option Addr} {sl__law_begin : Array (Option Value)} {oc__law_begin kV__law_begin dc__law_begin pm__law_begin cd__law_begin ct__law_begin : Value}
  {od__law_mixed an__law_mixed : Option Addr} {sl__law_mixed : Array (Option Value)} {oc__law_mixed kV__law_mixed dc__law_mixed pm__law_mixed cd__law_mixed ct__law_mixed : Value}
  {od__law_next an__law_next : Option Addr} {sl__law_next : Array (Option Value)} {oc__law_next kV__law_next dc__law_next pm__law_next cd__law_next ct__law_next : Value}
  {od__law_atom an__law_atom : Option Addr} {sl__law_atom : Array (Option Value)} {oc__law_atom kV__law_atom dc__law_atom pm__law_atom cd__law_atom ct__law_atom : Value}
  {od__law_labels an__law_labels : Option Addr} {sl__law_labels : Array (Option Value)} {oc__law_labels kV__law_labels dc__law_labels pm__law_labels cd__law_labels ct__law_labels : Value}
  {od__law_thing an__law_thing : Option Addr} {sl__law_thing : Array (Option Value)} {oc__law_thing kV__law_thing dc__law_thing pm__law_thing cd__law_thing ct__law_thing : Value}
  {od__law_like an__law_like : Option Addr} {sl__law_like : Array (Option Value)} {oc__law_like kV__law_like dc__law_like pm__law_like cd__law_like ct__law_like : Value}
  {od__law_fields_right an__law_fields_right : Option Addr} {sl__law_fields_right : Array (Option Value)} {oc__law_fields_right kV__law_fields_right dc__law_fields_right pm__law_fields_right cd__law_fields_right ct__law_fields_right : Value}
  {od__law_taken_right an__law_taken_right : Option Addr} {sl__law_taken_right : Array (Option Value)} {oc__law_taken_right kV__law_taken_right dc__law_taken_right pm__law_taken_right cd__law_taken_right ct__law_taken_right : Value}
  {od__law_refilled_right an__law_refilled_right : Option Addr} {sl__law_refilled_right : Array (Option Value)} {oc__law_refilled_right kV__law_refilled_right dc__law_refilled_right pm__law_refilled_right cd__law_refilled_right ct__law_refilled_right : Value}
  {od_law an_law : Option Addr} {sl_law : Array (Option Value)} {oc_law kV_law dc_law pm_law cd_law ct_law : Value}
  {od_InvalidValue an_InvalidValue : Option Addr} {sl_InvalidValue : Array (Option Value)} {oc_InvalidValue kV_InvalidValue dc_InvalidValue pm_InvalidValue ct_InvalidValue : Value} {cl_InvalidValue ccl_InvalidValue : Value} {cld_InvalidValue cdd_InvalidValue : Option Addr} {csl_InvalidValue ccs_InvalidValue : Array (Option Value)} {vs_InvalidValue : Array Value}
  {tf_InvalidValue : Tok}
  {od_InvalidKey an_InvalidKey : Option Addr} {sl_InvalidKey : Array (Option Value)} {oc_InvalidKey kV_InvalidKey dc_InvalidKey pm_InvalidKey ct_InvalidKey : Value} {cl_InvalidKey ccl_InvalidKey : Value} {cld_InvalidKey cdd_InvalidKey : Option Addr} {csl_InvalidKey ccs_InvalidKey : Array (Option Value)} {vs_InvalidKey : Array Value}
  {tf_InvalidKey : Tok}
  {od_InvalidBrand an_InvalidBrand : Option Addr} {sl_InvalidBrand : Array (Option Value)} {oc_InvalidBrand kV_InvalidBrand dc_InvalidBrand pm_InvalidBrand ct_InvalidBrand : Value} {cl_InvalidBrand ccl_InvalidBrand : Value} {cld_InvalidBrand cdd_InvalidBrand : Option Addr} {csl_InvalidBrand ccs_InvalidBrand : Array (Option Value)} {vs_InvalidBrand : Array Value}
  {tf_InvalidBrand : Tok}
  {od_KeyTaken an_KeyTaken : Option Addr} {sl_KeyTaken : Array (Option Value)} {oc_KeyTaken kV_KeyTaken dc_KeyTaken pm_KeyTaken ct_KeyTaken : Value} {cl_KeyTaken ccl_KeyTaken : Value} {cld_KeyTaken cdd_KeyTaken : Option Addr} {csl_KeyTaken ccs_KeyTaken : Array (Option Value)} {vs_KeyTaken : Array Value}
  {tf_KeyTaken : Tok}
  {od_NoEntry an_NoEntry : Option Addr} {sl_NoEntry : Array (Option Value)} {oc_NoEntry kV_NoEntry dc_NoEntry pm_NoEntry ct_NoEntry : Value} {cl_NoEntry ccl_NoEntry : Value} {cld_NoEntry cdd_NoEntry : Option Addr} {csl_NoEntry ccs_NoEntry : Array (Option Value)} {vs_NoEntry : Array Value}
  {tf_NoEntry : Tok}
  (za_Node : PySem.W.nsIn K mainGlobals "Node" = some (some (.ref ANode)))
  (zc1_Node : PySem.W.plainGet K ANode Str.empty = true)
  (zc2_Node : PySem.W.hasDictIn K ANode = true)
  (zc3_Node : PySem.W.plainOver K ANode = true)
  (zc4_Node : PySem.W.findIn K (.ref ANode) "__setattr__" = some (some (.builtin "object.__setattr__")))
  (zk_Node : PySem.W.keepIn K (.ref ANode) = true)
  (ze1_Node : PySem.W.mroIn K ANode (.type "object") = some true)
  (ze2_Node : PySem.W.findIn K (.ref ANode) "__eq__" = some (some (.builtin "object.__eq__")))
  (zt_Node : PySem.W.typeIn K (.ref ANode) = some (.type "type"))
  (zp1_Node_shape : PySem.W.findIn K (.ref ANode) "shape" = some (some (.ref ANode_shape_p)))
  (zp2_Node_shape : PySem.W.specialIn K (.ref ANode_shape_p) "__get__" = some (some (.builtin "property.__get__")))
  (zp3_Node_shape : PySem.W.takesIn K (.ref ANode_shape_p) = some true)
  (zp4_Node_shape : PySem.W.recIn K ANode_shape_p "property" = some (.ref ANode_shape :: rest_Node_shape))
  (zp1_Node_children : PySem.W.findIn K (.ref ANode) "children" = some (some (.ref ANode_children)))
  (zp2_Node_children : PySem.W.isFn K (.ref ANode_children) = true)
  (zp3_Node_children : PySem.W.keepIn K (.ref ANode_children) = true)
  (za_Sequence : PySem.W.nsIn K mainGlobals "Sequence" = some (some (.ref ASequence)))
  (zc1_Sequence : PySem.W.plainGet K ASequence Str.empty = true)
  (zc2_Sequence : PySem.W.hasDictIn K ASequence = true)
  (zc3_Sequence : PySem.W.plainOver K ASequence = true)
  (zc4_Sequence : PySem.W.findIn K (.ref ASequence) "__setattr__" = some (some (.builtin "object.__setattr__")))
  (zk_Sequence : PySem.W.keepIn K (.ref ASequence) = true)
  (ze1_Sequence : PySem.W.mroIn K ASequence (.type "object") = some true)
  (ze2_Sequence : PySem.W.findIn K (.ref ASequence) "__eq__" = some (some (.builtin "object.__eq__")))
  (zt_Sequence : PySem.W.typeIn K (.ref ASequence) = some (.type "type"))
  (zp1_Sequence_shape : PySem.W.findIn K (.ref ASequence) "shape" = some (some (.ref ANode_shape_p)))
  (zp2_Sequence_shape : PySem.W.specialIn K (.ref ANode_shape_p) "__get__" = some (some (.builtin "property.__get__")))
  (zp3_Sequence_shape : PySem.W.takesIn K (.ref ANode_shape_p) = some true)
  (zp4_Sequence_shape : PySem.W.recIn K ANode_shape_p "property" = some (.ref ANode_shape :: rest_Sequence_shape))
  (zp1_Sequence_children : PySem.W.findIn K (.ref ASequence) "children" = some (some (.ref ASequence_children)))
  (zp2_Sequence_children : PySem.W.isFn K (.ref ASequence_children) = true)
  (zp3_Sequence_children : PySem.W.keepIn K (.ref ASequence_children) = true)
  (zm1_Sequence : PySem.W.makesIn K ASequence = true)
  (zm2_Sequence : PySem.W.findIn K (.ref ASequence) "__init__" = some (some (.ref ASequence___init__)))
  (zm3_Sequence : PySem.W.isFn K (.ref ASequence___init__) = true)
  (zp1_Sequence_parts : PySem.W.findIn K (.ref ASequence) "parts" = some (some (.ref ASequence_parts_p)))
  (zp2_Sequence_parts : PySem.W.specialIn K (.ref ASequence_parts_p) "__get__" = some (some (.builtin "property.__get__")))
  (zp3_Sequence_parts : PySem.W.takesIn K (.ref ASequence_parts_p) = some true)
  (zp4_Sequence_parts : PySem.W.recIn K ASequence_parts_p "property" = some (.ref ASequence_parts :: rest_Sequence_parts))
  (zn_Sequence_kept : PySem.W.findIn K (.ref ASequence) "kept" = some none)
  (za_Row : PySem.W.nsIn K mainGlobals "Row" = some (some (.ref ARow)))
  (zc1_Row : PySem.W.plainGet K ARow Str.empty = true)
  (zc2_Row : PySem.W.hasDictIn K ARow = true)
  (zc3_Row : PySem.W.plainOver K ARow = true)
  (zc4_Row : PySem.W.findIn K (.ref ARow) "__setattr__" = some (some (.builtin "object.__setattr__")))
  (zk_Row : PySem.W.keepIn K (.ref ARow) = true)
  (ze1_Row : PySem.W.mroIn K ARow (.type "object") = some true)
  (ze2_Row : PySem.W.findIn K (.ref ARow) "__eq__" = some (some (.builtin "object.__eq__")))
  (zt_Row : PySem.W.typeIn K (.ref ARow) = some (.type "type"))
  (zr1_Row : PySem.W.readsIn K ARow (.type "type") = true)
  (zr2_Row : PySem.W.specialIn K (.ref ARow) "__getattribute__" = some (some (.builtin "type.__getattribute__")))
  (zp1_Row_shape : PySem.W.findIn K (.ref ARow) "shape" = some (some (.ref ARow_shape_p)))
  (zp2_Row_shape : PySem.W.specialIn K (.ref ARow_shape_p) "__get__" = some (some (.builtin "property.__get__")))
  (zp3_Row_shape : PySem.W.takesIn K (.ref ARow_shape_p) = some true)
  (zp4_Row_shape : PySem.W.recIn K ARow_shape_p "property" = some (.ref ARow_shape :: rest_Row_shape))
  (zp1_Row_children : PySem.W.findIn K (.ref ARow) "children" = some (some (.ref ASequence_children)))
  (zp2_Row_children : PySem.W.isFn K (.ref ASequence_children) = true)
  (zp3_Row_children : PySem.W.keepIn K (.ref ASequence_children) = true)
  (zm1_Row : PySem.W.makesIn K ARow = true)
  (zm2_Row : PySem.W.findIn K (.ref ARow) "__init__" = some (some (.ref ASequence___init__)))
  (zm3_Row : PySem.W.isFn K (.ref ASequence___init__) = true)
  (zp1_Row_parts : PySem.W.findIn K (.ref ARow) "parts" = some (some (.ref ASequence_parts_p)))
  (zp2_Row_parts : PySem.W.specialIn K (.ref ASequence_parts_p) "__get__" = some (some (.builtin "property.__get__")))
  (zp3_Row_parts : PySem.W.takesIn K (.ref ASequence_parts_p) = some true)
  (zp4_Row_parts : PySem.W.recIn K ASequence_parts_p "property" = some (.ref ASequence_parts :: rest_Row_parts))
  (zp1_Row_of : PySem.W.findCls K (.ref ARow) (.type "type") "of" = some (.get (.builtin "classmethod.__get__") (.ref ARow_of_p) .none (.ref ARow)))
  (zp2_Row_of : PySem.W.recIn K ARow_of_p "classmethod" = some (.ref ARow_of :: rest_Row_of))
  (zp3_Row_of : PySem.W.fnIn K ARow_of = true)
  (zp1_Row_put_last : PySem.W.findIn K (.ref ARow) "put_last" = some (some (.ref ARow_put_last)))
  (zp2_Row_put_last : PySem.W.isFn K (.ref ARow_put_last) = true)
  (zp3_Row_put_last : PySem.W.keepIn K (.ref ARow_put_last) = true)
  (zp1_Row_put_at : PySem.W.findIn K (.ref ARow) "put_at" = some (some (.ref ARow_put_at)))
  (zp2_Row_put_at : PySem.W.isFn K (.ref ARow_put_at) = true)
  (zp3_Row_put_at : PySem.W.keepIn K (.ref ARow_put_at) = true)
  (zn_Row_kept : PySem.W.findIn K (.ref ARow) "kept" = some none)
  (za_Book : PySem.W.nsIn K mainGlobals "Book" = some (some (.ref ABook)))
  (zc1_Book : PySem.W.plainGet K ABook Str.empty = true)
  (zc2_Book : PySem.W.hasDictIn K ABook = true)
  (zc3_Book : PySem.W.plainOver K ABook = true)
  (zc4_Book : PySem.W.findIn K (.ref ABook) "__setattr__" = some (some (.builtin "object.__setattr__")))
  (zk_Book : PySem.W.keepIn K (.ref ABook) = true)
  (ze1_Book : PySem.W.mroIn K ABook (.type "object") = some true)
  (ze2_Book : PySem.W.findIn K (.ref ABook) "__eq__" = some (some (.builtin "object.__eq__")))
  (zt_Book : PySem.W.typeIn K (.ref ABook) = some (.type "type"))
  (zr1_Book : PySem.W.readsIn K ABook (.type "type") = true)
  (zr2_Book : PySem.W.specialIn K (.ref ABook) "__getattribute__" = some (some (.builtin "type.__getattribute__")))
  (zp1_Book_shape : PySem.W.findIn K (.ref ABook) "shape" = some (some (.ref ABook_shape_p)))
  (zp2_Book_shape : PySem.W.specialIn K (.ref ABook_shape_p) "__get__" = some (some (.builtin "property.__get__")))
  (zp3_Book_shape : PySem.W.takesIn K (.ref ABook_shape_p) = some true)
  (zp4_Book_shape : PySem.W.recIn K ABook_shape_p "property" = some (.ref ABook_shape :: rest_Book_shape))
  (zp1_Book_children : PySem.W.findIn K (.ref ABook) "children" = some (some (.ref ABook_children)))
  (zp2_Book_children : PySem.W.isFn K (.ref ABook_children) = true)
  (zp3_Book_children : PySem.W.keepIn K (.ref ABook_children) = true)
  (zm1_Book : PySem.W.makesIn K ABook = true)
  (zm2_Book : PySem.W.findIn K (.ref ABook) "__init__" = some (some (.ref ABook___init__)))
  (zm3_Book : PySem.W.isFn K (.ref ABook___init__) = true)
  (zp1_Book_of : PySem.W.findCls K (.ref ABook) (.type "type") "of" = some (.get (.builtin "classmethod.__get__") (.ref ABook_of_p) .none (.ref ABook)))
  (zp2_Book_of : PySem.W.recIn K ABook_of_p "classmethod" = some (.ref ABook_of :: rest_Book_of))
  (zp3_Book_of : PySem.W.fnIn K ABook_of = true)
  (zp1_Book_pairs : PySem.W.findIn K (.ref ABook) "pairs" = some (some (.ref ABook_pairs_p)))
  (zp2_Book_pairs : PySem.W.specialIn K (.ref ABook_pairs_p) "__get__" = some (some (.builtin "property.__get__")))
  (zp3_Book_pairs : PySem.W.takesIn K (.ref ABook_pairs_p) = some true)
  (zp4_Book_pairs : PySem.W.recIn K ABook_pairs_p "property" = some (.ref ABook_pairs :: rest_Book_pairs))
  (zp1_Book_enter : PySem.W.findIn K (.ref ABook) "enter" = some (some (.ref ABook_enter)))
  (zp2_Book_enter : PySem.W.isFn K (.ref ABook_enter) = true)
  (zp3_Book_enter : PySem.W.keepIn K (.ref ABook_enter) = true)
  (zp1_Book_check_entry : PySem.W.findIn K (.ref ABook) "check_entry" = some (some (.ref ABook_check_entry)))
  (zp2_Book_check_entry : PySem.W.isFn K (.ref ABook_check_entry) = true)
  (zp3_Book_check_entry : PySem.W.keepIn K (.ref ABook_check_entry) = true)
  (zp1_Book_change : PySem.W.findIn K (.ref ABook) "change" = some (some (.ref ABook_change)))
  (zp2_Book_change : PySem.W.isFn K (.ref ABook_change) = true)
  (zp3_Book_change : PySem.W.keepIn K (.ref ABook_change) = true)
  (zp1_Book_value_of : PySem.W.findIn K (.ref ABook) "value_of" = some (some (.ref ABook_value_of)))
  (zp2_Book_value_of : PySem.W.isFn K (.ref ABook_value_of) = true)
  (zp3_Book_value_of : PySem.W.keepIn K (.ref ABook_value_of) = true)
  (zn_Book_entries : PySem.W.findIn K (.ref ABook) "entries" = some none)
  (za_Thing : PySem.W.nsIn K mainGlobals "Thing" = some (some (.ref AThing)))
  (zc1_Thing : PySem.W.plainGet K AThing Str.empty = true)
  (zc2_Thing : PySem.W.hasDictIn K AThing = true)
  (zc3_Thing : PySem.W.plainOver K AThing = true)
  (zc4_Thing : PySem.W.findIn K (.ref AThing) "__setattr__" = some (some (.builtin "object.__setattr__")))
  (zk_Thing : PySem.W.keepIn K (.ref AThing) = true)
  (ze1_Thing : PySem.W.mroIn K AThing (.type "object") = some true)
  (ze2_Thing : PySem.W.findIn K (.ref AThing) "__eq__" = some (some (.builtin "object.__eq__")))
  (zt_Thing : PySem.W.typeIn K (.ref AThing) = some (.type "type"))
  (zp1_Thing_shape : PySem.W.findIn K (.ref AThing) "shape" = some (some (.ref AThing_shape_p)))
  (zp2_Thing_shape : PySem.W.specialIn K (.ref AThing_shape_p) "__get__" = some (some (.builtin "property.__get__")))
  (zp3_Thing_shape : PySem.W.takesIn K (.ref AThing_shape_p) = some true)
  (zp4_Thing_shape : PySem.W.recIn K AThing_shape_p "property" = some (.ref AThing_shape :: rest_Thing_shape))
  (zp1_Thing_children : PySem.W.findIn K (.ref AThing) "children" = some (some (.ref AThing_children)))
  (zp2_Thing_children : PySem.W.isFn K (.ref AThing_children) = true)
  (zp3_Thing_children : PySem.W.keepIn K (.ref AThing_children) = true)
  (zm1_Thing : PySem.W.makesIn K AThing = true)
  (zm2_Thing : PySem.W.findIn K (.ref AThing) "__init__" = some (some (.ref AThing___init__)))
  (zm3_Thing : PySem.W.isFn K (.ref AThing___init__) = true)
  (zp1_Thing_brand : PySem.W.findIn K (.ref AThing) "brand" = some (some (.ref AThing_brand_p)))
  (zp2_Thing_brand : PySem.W.specialIn K (.ref AThing_brand_p) "__get__" = some (some (.builtin "property.__get__")))
  (zp3_Thing_brand : PySem.W.takesIn K (.ref AThing_brand_p) = some true)
  (zp4_Thing_brand : PySem.W.recIn K AThing_brand_p "property" = some (.ref AThing_brand :: rest_Thing_brand))
  (zp1_Thing_fields : PySem.W.findIn K (.ref AThing) "fields" = some (some (.ref AThing_fields_p)))
  (zp2_Thing_fields : PySem.W.specialIn K (.ref AThing_fields_p) "__get__" = some (some (.builtin "property.__get__")))
  (zp3_Thing_fields : PySem.W.takesIn K (.ref AThing_fields_p) = some true)
  (zp4_Thing_fields : PySem.W.recIn K AThing_fields_p "property" = some (.ref AThing_fields :: rest_Thing_fields))
  (zp1_Thing_set_field : PySem.W.findIn K (.ref AThing) "set_field" = some (some (.ref AThing_set_field)))
  (zp2_Thing_set_field : PySem.W.isFn K (.ref AThing_set_field) = true)
  (zp3_Thing_set_field : PySem.W.keepIn K (.ref AThing_set_field) = true)
  (zp1_Thing_field : PySem.W.findIn K (.ref AThing) "field" = some (some (.ref AThing_field)))
  (zp2_Thing_field : PySem.W.isFn K (.ref AThing_field) = true)
  (zp3_Thing_field : PySem.W.keepIn K (.ref AThing_field) = true)
  (zn_Thing_called : PySem.W.findIn K (.ref AThing) "called" = some none)
  (zn_Thing_settings : PySem.W.findIn K (.ref AThing) "settings" = some none)
  (za_Fields : PySem.W.nsIn K mainGlobals "Fields" = some (some (.ref AFields)))
  (zc1_Fields : PySem.W.plainGet K AFields Str.empty = true)
  (zc2_Fields : PySem.W.hasDictIn K AFields = true)
  (zc3_Fields : PySem.W.plainOver K AFields = true)
  (zc4_Fields : PySem.W.findIn K (.ref AFields) "__setattr__" = some (some (.builtin "object.__setattr__")))
  (zk_Fields : PySem.W.keepIn K (.ref AFields) = true)
  (ze1_Fields : PySem.W.mroIn K AFields (.type "object") = some true)
  (ze2_Fields : PySem.W.findIn K (.ref AFields) "__eq__" = some (some (.builtin "object.__eq__")))
  (zt_Fields : PySem.W.typeIn K (.ref AFields) = some (.type "type"))
  (zm1_Fields : PySem.W.makesIn K AFields = true)
  (zm2_Fields : PySem.W.findIn K (.ref AFields) "__init__" = some (some (.ref AFields___init__)))
  (zm3_Fields : PySem.W.isFn K (.ref AFields___init__) = true)
  (zp1_Fields___call__ : PySem.W.findIn K (.ref AFields) "__call__" = some (some (.ref AFields___call__)))
  (zp2_Fields___call__ : PySem.W.isFn K (.ref AFields___call__) = true)
  (zp3_Fields___call__ : PySem.W.keepIn K (.ref AFields___call__) = true)
  (zn_Fields_new_brand : PySem.W.findIn K (.ref AFields) "new_brand" = some none)
  (zn_Fields_label_row : PySem.W.findIn K (.ref AFields) "label_row" = some none)
  (za_Single : PySem.W.nsIn K mainGlobals "Single" = some (some (.ref ASingle)))
  (zc1_Single : PySem.W.plainGet K ASingle Str.empty = true)
  (zc2_Single : PySem.W.hasDictIn K ASingle = true)
  (zc3_Single : PySem.W.plainOver K ASingle = true)
  (zc4_Single : PySem.W.findIn K (.ref ASingle) "__setattr__" = some (some (.builtin "object.__setattr__")))
  (zk_Single : PySem.W.keepIn K (.ref ASingle) = true)
  (ze1_Single : PySem.W.mroIn K ASingle (.type "object") = some true)
  (ze2_Single : PySem.W.findIn K (.ref ASingle) "__eq__" = some (some (.builtin "object.__eq__")))
  (zt_Single : PySem.W.typeIn K (.ref ASingle) = some (.type "type"))
  (zm1_Single : PySem.W.makesIn K ASingle = true)
  (zm2_Single : PySem.W.findIn K (.ref ASingle) "__init__" = some (some (.ref ASingle___init__)))
  (zm3_Single : PySem.W.isFn K (.ref ASingle___init__) = true)
  (zp1_Single___call__ : PySem.W.findIn K (.ref ASingle) "__call__" = some (some (.ref ASingle___call__)))
  (zp2_Single___call__ : PySem.W.isFn K (.ref ASingle___call__) = true)
  (zp3_Single___call__ : PySem.W.keepIn K (.ref ASingle___call__) = true)
  (zn_Single_only_thing : PySem.W.findIn K (.ref ASingle) "only_thing" = some none)
  (za_Parts : PySem.W.nsIn K mainGlobals "Parts" = some (some (.ref AParts)))
  (zc1_Parts : PySem.W.plainGet K AParts Str.empty = true)
  (zc2_Parts : PySem.W.hasDictIn K AParts = true)
  (zc3_Parts : PySem.W.plainOver K AParts = true)
  (zc4_Parts : PySem.W.findIn K (.ref AParts) "__setattr__" = some (some (.builtin "object.__setattr__")))
  (zk_Parts : PySem.W.keepIn K (.ref AParts) = true)
  (ze1_Parts : PySem.W.mroIn K AParts (.type "object") = some true)
  (ze2_Parts : PySem.W.findIn K (.ref AParts) "__eq__" = some (some (.builtin "object.__eq__")))
  (zt_Parts : PySem.W.typeIn K (.ref AParts) = some (.type "type"))
  (zm1_Parts : PySem.W.makesIn K AParts = true)
  (zm2_Parts : PySem.W.findIn K (.ref AParts) "__init__" = some (some (.ref AParts___init__)))
  (zm3_Parts : PySem.W.isFn K (.ref AParts___init__) = true)
  (zp1_Parts___call__ : PySem.W.findIn K (.ref AParts) "__call__" = some (some (.ref AParts___call__)))
  (zp2_Parts___call__ : PySem.W.isFn K (.ref AParts___call__) = true)
  (zp3_Parts___call__ : PySem.W.keepIn K (.ref AParts___call__) = true)
  (zn_Parts_label_row : PySem.W.findIn K (.ref AParts) "label_row" = some none)
  (za_Whole : PySem.W.nsIn K mainGlobals "Whole" = some (some (.ref AWhole)))
  (zc1_Whole : PySem.W.plainGet K AWhole Str.empty = true)
  (zc2_Whole : PySem.W.hasDictIn K AWhole = true)
  (zc3_Whole : PySem.W.plainOver K AWhole = true)
  (zc4_Whole : PySem.W.findIn K (.ref AWhole) "__setattr__" = some (some (.builtin "object.__setattr__")))
  (zk_Whole : PySem.W.keepIn K (.ref AWhole) = true)
  (ze1_Whole : PySem.W.mroIn K AWhole (.type "object") = some true)
  (ze2_Whole : PySem.W.findIn K (.ref AWhole) "__eq__" = some (some (.builtin "object.__eq__")))
  (zt_Whole : PySem.W.typeIn K (.ref AWhole) = some (.type "type"))
  (zp1_Whole___call__ : PySem.W.findIn K (.ref AWhole) "__call__" = some (some (.ref AWhole___call__)))
  (zp2_Whole___call__ : PySem.W.isFn K (.ref AWhole___call__) = true)
  (zp3_Whole___call__ : PySem.W.keepIn K (.ref AWhole___call__) = true)
  (za_Refill : PySem.W.nsIn K mainGlobals "Refill" = some (some (.ref ARefill)))
  (zc1_Refill : PySem.W.plainGet K ARefill Str.empty = true)
  (zc2_Refill : PySem.W.hasDictIn K ARefill = true)
  (zc3_Refill : PySem.W.plainOver K ARefill = true)
  (zc4_Refill : PySem.W.findIn K (.ref ARefill) "__setattr__" = some (some (.builtin "object.__setattr__")))
  (zk_Refill : PySem.W.keepIn K (.ref ARefill) = true)
  (ze1_Refill : PySem.W.mroIn K ARefill (.type "object") = some true)
  (ze2_Refill : PySem.W.findIn K (.ref ARefill) "__eq__" = some (some (.builtin "object.__eq__")))
  (zt_Refill : PySem.W.typeIn K (.ref ARefill) = some (.type "type"))
  (zp1_Refill___call__ : PySem.W.findIn K (.ref ARefill) "__call__" = some (some (.ref ARefill___call__)))
  (zp2_Refill___call__ : PySem.W.isFn K (.ref ARefill___call__) = true)
  (zp3_Refill___call__ : PySem.W.keepIn K (.ref ARefill___call__) = true)
  (zb_all : PySem.W.nsIn K mainGlobals "all" = some none)
  (zb_bool : PySem.W.nsIn K mainGlobals "bool" = some none)
  (zb_classmethod : PySem.W.nsIn K mainGlobals "classmethod" = some none)
  (zb_int : PySem.W.nsIn K mainGlobals "int" = some none)
  (zb_isinstance : PySem.W.nsIn K mainGlobals "isinstance" = some none)
  (zb_len : PySem.W.nsIn K mainGlobals "len" = some none)
  (zb_list : PySem.W.nsIn K mainGlobals "list" = some none)
  (zb_min : PySem.W.nsIn K mainGlobals "min" = some none)
  (zb_property : PySem.W.nsIn K mainGlobals "property" = some none)
  (zb_range : PySem.W.nsIn K mainGlobals "range" = some none)
  (zb_repr : PySem.W.nsIn K mainGlobals "repr" = some none)
  (zb_str : PySem.W.nsIn K mainGlobals "str" = some none)
  (zb_tuple : PySem.W.nsIn K mainGlobals "tuple" = some none)
  (zb_zip : PySem.W.nsIn K mainGlobals "zip" = some none)
  (zb_super : PySem.W.nsIn K mainGlobals "super" = some none)
  (zc_MOST_INTEGER : PySem.W.nsIn K mainGlobals "MOST_INTEGER" = some (some (.int (1000000000000000000000000000000000000000000000000000000000000000000000000000000000000000000000000000000000000000000000000000000000000000000000000000000000000000000000000000000000000000000000000000000000000000000000000000000000000000000000000000000000000000000000000000000000000000000000000000000000000) t_MOST_INTEGER)))
  (zc_MOST_CHARACTERS : PySem.W.nsIn K mainGlobals "MOST_CHARACTERS" = some (some (.int (2000) t_MOST_CHARACTERS)))
  (zc_MOST_NUMBERS : PySem.W.nsIn K mainGlobals "MOST_NUMBERS" = some (some (.int (2000) t_MOST_NUMBERS)))
  (zc_MOST_BRAND : PySem.W.nsIn K mainGlobals "MOST_BRAND" = some (some (.int (40) t_MOST_BRAND)))
  (zc_BAG : PySem.W.nsIn K mainGlobals "BAG" = some (some (.str "bag" t_BAG)))
  (zc_LETTERS : PySem.W.nsIn K mainGlobals "LETTERS" = some (some (.str "abcdefghijklmnopqrstuvwxyzABCDEFGHIJKLMNOPQRSTUVWXYZ" t_LETTERS)))
  (zc_OTHERS : PySem.W.nsIn K mainGlobals "OTHERS" = some (some (.str "._0123456789" t_OTHERS)))
  (za__wall : PySem.W.nsIn K mainGlobals "_wall" = some (some (.ref A_wall)))
  (zl__wall : K.lookup A_wall = some ⟨oc__wall, od__wall, .func (PySem.W.fnOf "_wall" "_wall" (defArgs s__wall) (defBody s__wall) (defScope s__wall) .none kV__wall dc__wall pm__wall an__wall cd__wall ct__wall), sl__wall⟩)
  (zd__wall : PySem.W.codeIn K cd__wall "_wall" = true)
  (zk__wall : PySem.W.keepIn K (.ref A_wall) = true)
  (za_is_integer : PySem.W.nsIn K mainGlobals "is_integer" = some (some (.ref Ais_integer)))
  (zl_is_integer : K.lookup Ais_integer = some ⟨oc_is_integer, od_is_integer, .func (PySem.W.fnOf "is_integer" "is_integer" (defArgs s_is_integer) (defBody s_is_integer) (defScope s_is_integer) .none kV_is_integer dc_is_integer pm_is_integer an_is_integer cd_is_integer ct_is_integer), sl_is_integer⟩)
  (zd_is_integer : PySem.W.codeIn K cd_is_integer "is_integer" = true)
  (zk_is_integer : PySem.W.keepIn K (.ref Ais_integer) = true)
  (za_is_whole_atom : PySem.W.nsIn K mainGlobals "is_whole_atom" = some (some (.ref Ais_whole_atom)))
  (zl_is_whole_atom : K.lookup Ais_whole_atom = some ⟨oc_is_whole_atom, od_is_whole_atom, .func (PySem.W.fnOf "is_whole_atom" "is_whole_atom" (defArgs s_is_whole_atom) (defBody s_is_whole_atom) (defScope s_is_whole_atom) .none kV_is_whole_atom dc_is_whole_atom pm_is_whole_atom an_is_whole_atom cd_is_whole_atom ct_is_whole_atom), sl_is_whole_atom⟩)
  (zd_is_whole_atom : PySem.W.codeIn K cd_is_whole_atom "is_whole_atom" = true)
  (zk_is_whole_atom : PySem.W.keepIn K (.ref Ais_whole_atom) = true)
  (za_is_text : PySem.W.nsIn K mainGlobals "is_text" = some (some (.ref Ais_text)))
  (zl_is_text : K.lookup Ais_text = some ⟨oc_is_text, od_is_text, .func (PySem.W.fnOf "is_text" "is_text" (defArgs s_is_text) (defBody s_is_text) (defScope s_is_text) .none kV_is_text dc_is_text pm_is_text an_is_text cd_is_text ct_is_text), sl_is_text⟩)
  (zd_is_text : PySem.W.codeIn K cd_is_text "is_text" = true)
  (zk_is_text : PySem.W.keepIn K (.ref Ais_text) = true)
  (za_is_key : PySem.W.nsIn K mainGlobals "is_key" = some (some (.ref Ais_key)))
  (zl_is_key : K.lookup Ais_key = some ⟨oc_is_key, od_is_key, .func (PySem.W.fnOf "is_key" "is_key" (defArgs s_is_key) (defBody s_is_key) (defScope s_is_key) .none kV_is_key dc_is_key pm_is_key an_is_key cd_is_key ct_is_key), sl_is_key⟩)
  (zd_is_key : PySem.W.codeIn K cd_is_key "is_key" = true)
  (zk_is_key : PySem.W.keepIn K (.ref Ais_key) = true)
  (za_is_atom : PySem.W.nsIn K mainGlobals "is_atom" = some (some (.ref Ais_atom)))
  (zl_is_atom : K.lookup Ais_atom = some ⟨oc_is_atom, od_is_atom, .func (PySem.W.fnOf "is_atom" "is_atom" (defArgs s_is_atom) (defBody s_is_atom) (defScope s_is_atom) .none kV_is_atom dc_is_atom pm_is_atom an_is_atom cd_is_atom ct_is_atom), sl_is_atom⟩)
  (zd_is_atom : PySem.W.codeIn K cd_is_atom "is_atom" = true)
  (zk_is_atom : PySem.W.keepIn K (.ref Ais_atom) = true)
  (za_is_brand : PySem.W.nsIn K mainGlobals "is_brand" = some (some (.ref Ais_brand)))
  (zl_is_brand : K.lookup Ais_brand = some ⟨oc_is_brand, od_is_brand, .func (PySem.W.fnOf "is_brand" "is_brand" (defArgs s_is_brand) (defBody s_is_brand) (defScope s_is_brand) .none kV_is_brand dc_is_brand pm_is_brand an_is_brand cd_is_brand ct_is_brand), sl_is_brand⟩)
  (zd_is_brand : PySem.W.codeIn K cd_is_brand "is_brand" = true)
  (zk_is_brand : PySem.W.keepIn K (.ref Ais_brand) = true)
  (za_holds_value : PySem.W.nsIn K mainGlobals "holds_value" = some (some (.ref Aholds_value)))
  (zl_holds_value : K.lookup Aholds_value = some ⟨oc_holds_value, od_holds_value, .func (PySem.W.fnOf "holds_value" "holds_value" (defArgs s_holds_value) (defBody s_holds_value) (defScope s_holds_value) .none kV_holds_value dc_holds_value pm_holds_value an_holds_value cd_holds_value ct_holds_value), sl_holds_value⟩)
  (zd_holds_value : PySem.W.codeIn K cd_holds_value "holds_value" = true)
  (zk_holds_value : PySem.W.keepIn K (.ref Aholds_value) = true)
  (za_check_value : PySem.W.nsIn K mainGlobals "check_value" = some (some (.ref Acheck_value)))
  (zl_check_value : K.lookup Acheck_value = some ⟨oc_check_value, od_check_value, .func (PySem.W.fnOf "check_value" "check_value" (defArgs s_check_value) (defBody s_check_value) (defScope s_check_value) .none kV_check_value dc_check_value pm_check_value an_check_value cd_check_value ct_check_value), sl_check_value⟩)
  (zd_check_value : PySem.W.codeIn K cd_check_value "check_value" = true)
  (zk_check_value : PySem.W.keepIn K (.ref Acheck_value) = true)
  (za_check_key : PySem.W.nsIn K mainGlobals "check_key" = some (some (.ref Acheck_key)))
  (zl_check_key : K.lookup Acheck_key = some ⟨oc_check_key, od_check_key, .func (PySem.W.fnOf "check_key" "check_key" (defArgs s_check_key) (defBody s_check_key) (defScope s_check_key) .none kV_check_key dc_check_key pm_check_key an_check_key cd_check_key ct_check_key), sl_check_key⟩)
  (zd_check_key : PySem.W.codeIn K cd_check_key "check_key" = true)
  (zk_check_key : PySem.W.keepIn K (.ref Acheck_key) = true)
  (za_check_label : PySem.W.nsIn K mainGlobals "check_label" = some (some (.ref Acheck_label)))
  (zl_check_label : K.lookup Acheck_label = some ⟨oc_check_label, od_check_label, .func (PySem.W.fnOf "check_label" "check_label" (defArgs s_check_label) (defBody s_check_label) (defScope s_check_label) .none kV_check_label dc_check_label pm_check_label an_check_label cd_check_label ct_check_label), sl_check_label⟩)
  (zd_check_label : PySem.W.codeIn K cd_check_label "check_label" = true)
  (zk_check_label : PySem.W.keepIn K (.ref Acheck_label) = true)
  (zl_Node_shape : K.lookup ANode_shape = some ⟨oc_Node_shape, od_Node_shape, .func (PySem.W.fnOf "shape" "Node.shape" (defArgs s_Node_shape) (defBody s_Node_shape) (defScope s_Node_shape) .none kV_Node_shape dc_Node_shape pm_Node_shape an_Node_shape cd_Node_shape ct_Node_shape), sl_Node_shape⟩)
  (zd_Node_shape : PySem.W.codeIn K cd_Node_shape "Node.shape" = true)
  (zk_Node_shape : PySem.W.keepIn K (.ref ANode_shape) = true)
  (zl_Node_children : K.lookup ANode_children = some ⟨oc_Node_children, od_Node_children, .func (PySem.W.fnOf "children" "Node.children" (defArgs s_Node_children) (defBody s_Node_children) (defScope s_Node_children) .none kV_Node_children dc_Node_children pm_Node_children an_Node_children cd_Node_children ct_Node_children), sl_Node_children⟩)
  (zd_Node_children : PySem.W.codeIn K cd_Node_children "Node.children" = true)
  (zk_Node_children : PySem.W.keepIn K (.ref ANode_children) = true)
  (zl_Sequence___init__ : K.lookup ASequence___init__ = some ⟨oc_Sequence___init__, od_Sequence___init__, .func (PySem.W.fnOf "__init__" "Sequence.__init__" (defArgs s_Sequence___init__) (defBody s_Sequence___init__) (defScope s_Sequence___init__) .none kV_Sequence___init__ dc_Sequence___init__ pm_Sequence___init__ an_Sequence___init__ cd_Sequence___init__ ct_Sequence___init__), sl_Sequence___init__⟩)
  (zd_Sequence___init__ : PySem.W.codeIn K cd_Sequence___init__ "Sequence.__init__" = true)
  (zk_Sequence___init__ : PySem.W.keepIn K (.ref ASequence___init__) = true)
  (zl_Sequence_parts : K.lookup ASequence_parts = some ⟨oc_Sequence_parts, od_Sequence_parts, .func (PySem.W.fnOf "parts" "Sequence.parts" (defArgs s_Sequence_parts) (defBody s_Sequence_parts) (defScope s_Sequence_parts) .none kV_Sequence_parts dc_Sequence_parts pm_Sequence_parts an_Sequence_parts cd_Sequence_parts ct_Sequence_parts), sl_Sequence_parts⟩)
  (zd_Sequence_parts : PySem.W.codeIn K cd_Sequence_parts "Sequence.parts" = true)
  (zk_Sequence_parts : PySem.W.keepIn K (.ref ASequence_parts) = true)
  (zl_Sequence_children : K.lookup ASequence_children = some ⟨oc_Sequence_children, od_Sequence_children, .func (PySem.W.fnOf "children" "Sequence.children" (defArgs s_Sequence_children) (defBody s_Sequence_children) (defScope s_Sequence_children) .none kV_Sequence_children dc_Sequence_children pm_Sequence_children an_Sequence_children cd_Sequence_children ct_Sequence_children), sl_Sequence_children⟩)
  (zd_Sequence_children : PySem.W.codeIn K cd_Sequence_children "Sequence.children" = true)
  (zk_Sequence_children : PySem.W.keepIn K (.ref ASequence_children) = true)
  (zl_Row_of : K.lookup ARow_of = some ⟨oc_Row_of, od_Row_of, .func (PySem.W.fnOf "of" "Row.of" (defArgs s_Row_of) (defBody s_Row_of) (defScope s_Row_of) .none kV_Row_of dc_Row_of pm_Row_of an_Row_of cd_Row_of ct_Row_of), sl_Row_of⟩)
  (zd_Row_of : PySem.W.codeIn K cd_Row_of "Row.of" = true)
  (zk_Row_of : PySem.W.keepIn K (.ref ARow_of) = true)
  (zl_Row_shape : K.lookup ARow_shape = some ⟨oc_Row_shape, od_Row_shape, .func (PySem.W.fnOf "shape" "Row.shape" (defArgs s_Row_shape) (defBody s_Row_shape) (defScope s_Row_shape) .none kV_Row_shape dc_Row_shape pm_Row_shape an_Row_shape cd_Row_shape ct_Row_shape), sl_Row_shape⟩)
  (zd_Row_shape : PySem.W.codeIn K cd_Row_shape "Row.shape" = true)
  (zk_Row_shape : PySem.W.keepIn K (.ref ARow_shape) = true)
  (zl_Row_put_last : K.lookup ARow_put_last = some ⟨oc_Row_put_last, od_Row_put_last, .func (PySem.W.fnOf "put_last" "Row.put_last" (defArgs s_Row_put_last) (defBody s_Row_put_last) (defScope s_Row_put_last) .none kV_Row_put_last dc_Row_put_last pm_Row_put_last an_Row_put_last cd_Row_put_last ct_Row_put_last), sl_Row_put_last⟩)
  (zd_Row_put_last : PySem.W.codeIn K cd_Row_put_last "Row.put_last" = true)
  (zk_Row_put_last : PySem.W.keepIn K (.ref ARow_put_last) = true)
  (zl_Row_put_at : K.lookup ARow_put_at = some ⟨oc_Row_put_at, od_Row_put_at, .func (PySem.W.fnOf "put_at" "Row.put_at" (defArgs s_Row_put_at) (defBody s_Row_put_at) (defScope s_Row_put_at) .none kV_Row_put_at dc_Row_put_at pm_Row_put_at an_Row_put_at cd_Row_put_at ct_Row_put_at), sl_Row_put_at⟩)
  (zd_Row_put_at : PySem.W.codeIn K cd_Row_put_at "Row.put_at" = true)
  (zk_Row_put_at : PySem.W.keepIn K (.ref ARow_put_at) = true)
  (zl_Book___init__ : K.lookup ABook___init__ = some ⟨oc_Book___init__, od_Book___init__, .func (PySem.W.fnOf "__init__" "Book.__init__" (defArgs s_Book___init__) (defBody s_Book___init__) (defScope s_Book___init__) .none kV_Book___init__ dc_Book___init__ pm_Book___init__ an_Book___init__ cd_Book___init__ ct_Book___init__), sl_Book___init__⟩)
  (zd_Book___init__ : PySem.W.codeIn K cd_Book___init__ "Book.__init__" = true)
  (zk_Book___init__ : PySem.W.keepIn K (.ref ABook___init__) = true)
  (zl_Book_of : K.lookup ABook_of = some ⟨oc_Book_of, od_Book_of, .func (PySem.W.fnOf "of" "Book.of" (defArgs s_Book_of) (defBody s_Book_of) (defScope s_Book_of) .none kV_Book_of dc_Book_of pm_Book_of an_Book_of cd_Book_of ct_Book_of), sl_Book_of⟩)
  (zd_Book_of : PySem.W.codeIn K cd_Book_of "Book.of" = true)
  (zk_Book_of : PySem.W.keepIn K (.ref ABook_of) = true)
  (zl_Book_shape : K.lookup ABook_shape = some ⟨oc_Book_shape, od_Book_shape, .func (PySem.W.fnOf "shape" "Book.shape" (defArgs s_Book_shape) (defBody s_Book_shape) (defScope s_Book_shape) .none kV_Book_shape dc_Book_shape pm_Book_shape an_Book_shape cd_Book_shape ct_Book_shape), sl_Book_shape⟩)
  (zd_Book_shape : PySem.W.codeIn K cd_Book_shape "Book.shape" = true)
  (zk_Book_shape : PySem.W.keepIn K (.ref ABook_shape) = true)
  (zl_Book_pairs : K.lookup ABook_pairs = some ⟨oc_Book_pairs, od_Book_pairs, .func (PySem.W.fnOf "pairs" "Book.pairs" (defArgs s_Book_pairs) (defBody s_Book_pairs) (defScope s_Book_pairs) .none kV_Book_pairs dc_Book_pairs pm_Book_pairs an_Book_pairs cd_Book_pairs ct_Book_pairs), sl_Book_pairs⟩)
  (zd_Book_pairs : PySem.W.codeIn K cd_Book_pairs "Book.pairs" = true)
  (zk_Book_pairs : PySem.W.keepIn K (.ref ABook_pairs) = true)
  (zl_Book_children : K.lookup ABook_children = some ⟨oc_Book_children, od_Book_children, .func (PySem.W.fnOf "children" "Book.children" (defArgs s_Book_children) (defBody s_Book_children) (defScope s_Book_children) .none kV_Book_children dc_Book_children pm_Book_children an_Book_children cd_Book_children ct_Book_children), sl_Book_children⟩)
  (zd_Book_children : PySem.W.codeIn K cd_Book_children "Book.children" = true)
  (zk_Book_children : PySem.W.keepIn K (.ref ABook_children) = true)
  (zl_Book_enter : K.lookup ABook_enter = some ⟨oc_Book_enter, od_Book_enter, .func (PySem.W.fnOf "enter" "Book.enter" (defArgs s_Book_enter) (defBody s_Book_enter) (defScope s_Book_enter) .none kV_Book_enter dc_Book_enter pm_Book_enter an_Book_enter cd_Book_enter ct_Book_enter), sl_Book_enter⟩)
  (zd_Book_enter : PySem.W.codeIn K cd_Book_enter "Book.enter" = true)
  (zk_Book_enter : PySem.W.keepIn K (.ref ABook_enter) = true)
  (zl_Book_check_entry : K.lookup ABook_check_entry = some ⟨oc_Book_check_entry, od_Book_check_entry, .func (PySem.W.fnOf "check_entry" "Book.check_entry" (defArgs s_Book_check_entry) (defBody s_Book_check_entry) (defScope s_Book_check_entry) .none kV_Book_check_entry dc_Book_check_entry pm_Book_check_entry an_Book_check_entry cd_Book_check_entry ct_Book_check_entry), sl_Book_check_entry⟩)
  (zd_Book_check_entry : PySem.W.codeIn K cd_Book_check_entry "Book.check_entry" = true)
  (zk_Book_check_entry : PySem.W.keepIn K (.ref ABook_check_entry) = true)
  (zl_Book_change : K.lookup ABook_change = some ⟨oc_Book_change, od_Book_change, .func (PySem.W.fnOf "change" "Book.change" (defArgs s_Book_change) (defBody s_Book_change) (defScope s_Book_change) .none kV_Book_change dc_Book_change pm_Book_change an_Book_change cd_Book_change ct_Book_change), sl_Book_change⟩)
  (zd_Book_change : PySem.W.codeIn K cd_Book_change "Book.change" = true)
  (zk_Book_change : PySem.W.keepIn K (.ref ABook_change) = true)
  (zl_Book_value_of : K.lookup ABook_value_of = some ⟨oc_Book_value_of, od_Book_value_of, .func (PySem.W.fnOf "value_of" "Book.value_of" (defArgs s_Book_value_of) (defBody s_Book_value_of) (defScope s_Book_value_of) .none kV_Book_value_of dc_Book_value_of pm_Book_value_of an_Book_value_of cd_Book_value_of ct_Book_value_of), sl_Book_value_of⟩)
  (zd_Book_value_of : PySem.W.codeIn K cd_Book_value_of "Book.value_of" = true)
  (zk_Book_value_of : PySem.W.keepIn K (.ref ABook_value_of) = true)
  (zl_Thing___init__ : K.lookup AThing___init__ = some ⟨oc_Thing___init__, od_Thing___init__, .func (PySem.W.fnOf "__init__" "Thing.__init__" (defArgs s_Thing___init__) (defBody s_Thing___init__) (defScope s_Thing___init__) .none kV_Thing___init__ dc_Thing___init__ pm_Thing___init__ an_Thing___init__ cd_Thing___init__ ct_Thing___init__), sl_Thing___init__⟩)
  (zd_Thing___init__ : PySem.W.codeIn K cd_Thing___init__ "Thing.__init__" = true)
  (zk_Thing___init__ : PySem.W.keepIn K (.ref AThing___init__) = true)
  (zl_Thing_shape : K.lookup AThing_shape = some ⟨oc_Thing_shape, od_Thing_shape, .func (PySem.W.fnOf "shape" "Thing.shape" (defArgs s_Thing_shape) (defBody s_Thing_shape) (defScope s_Thing_shape) .none kV_Thing_shape dc_Thing_shape pm_Thing_shape an_Thing_shape cd_Thing_shape ct_Thing_shape), sl_Thing_shape⟩)
  (zd_Thing_shape : PySem.W.codeIn K cd_Thing_shape "Thing.shape" = true)
  (zk_Thing_shape : PySem.W.keepIn K (.ref AThing_shape) = true)
  (zl_Thing_brand : K.lookup AThing_brand = some ⟨oc_Thing_brand, od_Thing_brand, .func (PySem.W.fnOf "brand" "Thing.brand" (defArgs s_Thing_brand) (defBody s_Thing_brand) (defScope s_Thing_brand) .none kV_Thing_brand dc_Thing_brand pm_Thing_brand an_Thing_brand cd_Thing_brand ct_Thing_brand), sl_Thing_brand⟩)
  (zd_Thing_brand : PySem.W.codeIn K cd_Thing_brand "Thing.brand" = true)
  (zk_Thing_brand : PySem.W.keepIn K (.ref AThing_brand) = true)
  (zl_Thing_fields : K.lookup AThing_fields = some ⟨oc_Thing_fields, od_Thing_fields, .func (PySem.W.fnOf "fields" "Thing.fields" (defArgs s_Thing_fields) (defBody s_Thing_fields) (defScope s_Thing_fields) .none kV_Thing_fields dc_Thing_fields pm_Thing_fields an_Thing_fields cd_Thing_fields ct_Thing_fields), sl_Thing_fields⟩)
  (zd_Thing_fields : PySem.W.codeIn K cd_Thing_fields "Thing.fields" = true)
  (zk_Thing_fields : PySem.W.keepIn K (.ref AThing_fields) = true)
  (zl_Thing_children : K.lookup AThing_children = some ⟨oc_Thing_children, od_Thing_children, .func (PySem.W.fnOf "children" "Thing.children" (defArgs s_Thing_children) (defBody s_Thing_children) (defScope s_Thing_children) .none kV_Thing_children dc_Thing_children pm_Thing_children an_Thing_children cd_Thing_children ct_Thing_children), sl_Thing_children⟩)
  (zd_Thing_children : PySem.W.codeIn K cd_Thing_children "Thing.children" = true)
  (zk_Thing_children : PySem.W.keepIn K (.ref AThing_children) = true)
  (zl_Thing_set_field : K.lookup AThing_set_field = some ⟨oc_Thing_set_field, od_Thing_set_field, .func (PySem.W.fnOf "set_field" "Thing.set_field" (defArgs s_Thing_set_field) (defBody s_Thing_set_field) (defScope s_Thing_set_field) .none kV_Thing_set_field dc_Thing_set_field pm_Thing_set_field an_Thing_set_field cd_Thing_set_field ct_Thing_set_field), sl_Thing_set_field⟩)
  (zd_Thing_set_field : PySem.W.codeIn K cd_Thing_set_field "Thing.set_field" = true)
  (zk_Thing_set_field : PySem.W.keepIn K (.ref AThing_set_field) = true)
  (zl_Thing_field : K.lookup AThing_field = some ⟨oc_Thing_field, od_Thing_field, .func (PySem.W.fnOf "field" "Thing.field" (defArgs s_Thing_field) (defBody s_Thing_field) (defScope s_Thing_field) .none kV_Thing_field dc_Thing_field pm_Thing_field an_Thing_field cd_Thing_field ct_Thing_field), sl_Thing_field⟩)
  (zd_Thing_field : PySem.W.codeIn K cd_Thing_field "Thing.field" = true)
  (zk_Thing_field : PySem.W.keepIn K (.ref AThing_field) = true)
  (za_check_labels : PySem.W.nsIn K mainGlobals "check_labels" = some (some (.ref Acheck_labels)))
  (zl_check_labels : K.lookup Acheck_labels = some ⟨oc_check_labels, od_check_labels, .func (PySem.W.fnOf "check_labels" "check_labels" (defArgs s_check_labels) (defBody s_check_labels) (defScope s_check_labels) .none kV_check_labels dc_check_labels pm_check_labels an_check_labels cd_check_labels ct_check_labels), sl_check_labels⟩)
  (zd_check_labels : PySem.W.codeIn K cd_check_labels "check_labels" = true)
  (zk_check_labels : PySem.W.keepIn K (.ref Acheck_labels) = true)
  (zl_Fields___init__ : K.lookup AFields___init__ = some ⟨oc_Fields___init__, od_Fields___init__, .func (PySem.W.fnOf "__init__" "Fields.__init__" (defArgs s_Fields___init__) (defBody s_Fields___init__) (defScope s_Fields___init__) .none kV_Fields___init__ dc_Fields___init__ pm_Fields___init__ an_Fields___init__ cd_Fields___init__ ct_Fields___init__), sl_Fields___init__⟩)
  (zd_Fields___init__ : PySem.W.codeIn K cd_Fields___init__ "Fields.__init__" = true)
  (zk_Fields___init__ : PySem.W.keepIn K (.ref AFields___init__) = true)
  (zl_Fields___call__ : K.lookup AFields___call__ = some ⟨oc_Fields___call__, od_Fields___call__, .func (PySem.W.fnOf "__call__" "Fields.__call__" (defArgs s_Fields___call__) (defBody s_Fields___call__) (defScope s_Fields___call__) .none kV_Fields___call__ dc_Fields___call__ pm_Fields___call__ an_Fields___call__ cd_Fields___call__ ct_Fields___call__), sl_Fields___call__⟩)
  (zd_Fields___call__ : PySem.W.codeIn K cd_Fields___call__ "Fields.__call__" = true)
  (zk_Fields___call__ : PySem.W.keepIn K (.ref AFields___call__) = true)
  (zl_Single___init__ : K.lookup ASingle___init__ = some ⟨oc_Single___init__, od_Single___init__, .func (PySem.W.fnOf "__init__" "Single.__init__" (defArgs s_Single___init__) (defBody s_Single___init__) (defScope s_Single___init__) .none kV_Single___init__ dc_Single___init__ pm_Single___init__ an_Single___init__ cd_Single___init__ ct_Single___init__), sl_Single___init__⟩)
  (zd_Single___init__ : PySem.W.codeIn K cd_Single___init__ "Single.__init__" = true)
  (zk_Single___init__ : PySem.W.keepIn K (.ref ASingle___init__) = true)
  (zl_Single___call__ : K.lookup ASingle___call__ = some ⟨oc_Single___call__, od_Single___call__, .func (PySem.W.fnOf "__call__" "Single.__call__" (defArgs s_Single___call__) (defBody s_Single___call__) (defScope s_Single___call__) .none kV_Single___call__ dc_Single___call__ pm_Single___call__ an_Single___call__ cd_Single___call__ ct_Single___call__), sl_Single___call__⟩)
  (zd_Single___call__ : PySem.W.codeIn K cd_Single___call__ "Single.__call__" = true)
  (zk_Single___call__ : PySem.W.keepIn K (.ref ASingle___call__) = true)
  (zl_Parts___init__ : K.lookup AParts___init__ = some ⟨oc_Parts___init__, od_Parts___init__, .func (PySem.W.fnOf "__init__" "Parts.__init__" (defArgs s_Parts___init__) (defBody s_Parts___init__) (defScope s_Parts___init__) .none kV_Parts___init__ dc_Parts___init__ pm_Parts___init__ an_Parts___init__ cd_Parts___init__ ct_Parts___init__), sl_Parts___init__⟩)
  (zd_Parts___init__ : PySem.W.codeIn K cd_Parts___init__ "Parts.__init__" = true)
  (zk_Parts___init__ : PySem.W.keepIn K (.ref AParts___init__) = true)
  (zl_Parts___call__ : K.lookup AParts___call__ = some ⟨oc_Parts___call__, od_Parts___call__, .func (PySem.W.fnOf "__call__" "Parts.__call__" (defArgs s_Parts___call__) (defBody s_Parts___call__) (defScope s_Parts___call__) .none kV_Parts___call__ dc_Parts___call__ pm_Parts___call__ an_Parts___call__ cd_Parts___call__ ct_Parts___call__), sl_Parts___call__⟩)
  (zd_Parts___call__ : PySem.W.codeIn K cd_Parts___call__ "Parts.__call__" = true)
  (zk_Parts___call__ : PySem.W.keepIn K (.ref AParts___call__) = true)
  (zl_Whole___call__ : K.lookup AWhole___call__ = some ⟨oc_Whole___call__, od_Whole___call__, .func (PySem.W.fnOf "__call__" "Whole.__call__" (defArgs s_Whole___call__) (defBody s_Whole___call__) (defScope s_Whole___call__) .none kV_Whole___call__ dc_Whole___call__ pm_Whole___call__ an_Whole___call__ cd_Whole___call__ ct_Whole___call__), sl_Whole___call__⟩)
  (zd_Whole___call__ : PySem.W.codeIn K cd_Whole___call__ "Whole.__call__" = true)
  (zk_Whole___call__ : PySem.W.keepIn K (.ref AWhole___call__) = true)
  (zl_Refill___call__ : K.lookup ARefill___call__ = some ⟨oc_Refill___call__, od_Refill___call__, .func (PySem.W.fnOf "__call__" "Refill.__call__" (defArgs s_Refill___call__) (defBody s_Refill___call__) (defScope s_Refill___call__) .none kV_Refill___call__ dc_Refill___call__ pm_Refill___call__ an_Refill___call__ cd_Refill___call__ ct_Refill___call__), sl_Refill___call__⟩)
  (zd_Refill___call__ : PySem.W.codeIn K cd_Refill___call__ "Refill.__call__" = true)
  (zk_Refill___call__ : PySem.W.keepIn K (.ref ARefill___call__) = true)
  (za__law_begin : PySem.W.nsIn K mainGlobals "_law_begin" = some (some (.ref A_law_begin)))
  (zl__law_begin : K.lookup A_law_begin = some ⟨oc__law_begin, od__law_begin, .func (PySem.W.fnOf "_law_begin" "_law_begin" (defArgs s__law_begin) (defBody s__law_begin) (defScope s__law_begin) .none kV__law_begin dc__law_begin pm__law_begin an__law_begin cd__law_begin ct__law_begin), sl__law_begin⟩)
  (zd__law_begin : PySem.W.codeIn K cd__law_begin "_law_begin" = true)
  (zk__law_begin : PySem.W.keepIn K (.ref A_law_begin) = true)
  (za__law_mixed : PySem.W.nsIn K mainGlobals "_law_mixed" = some (some (.ref A_law_mixed)))
  (zl__law_mixed : K.lookup A_law_mixed = some ⟨oc__law_mixed, od__law_mixed, .func (PySem.W.fnOf "_law_mixed" "_law_mixed" (defArgs s__law_mixed) (defBody s__law_mixed) (defScope s__law_mixed) .none kV__law_mixed dc__law_mixed pm__law_mixed an__law_mixed cd__law_mixed ct__law_mixed), sl__law_mixed⟩)
  (zd__law_mixed : PySem.W.codeIn K cd__law_mixed "_law_mixed" = true)
  (zk__law_mixed : PySem.W.keepIn K (.ref A_law_mixed) = true)
  (za__law_next : PySem.W.nsIn K mainGlobals "_law_next" = some (some (.ref A_law_next)))
  (zl__law_next : K.lookup A_law_next = some ⟨oc__law_next, od__law_next, .func (PySem.W.fnOf "_law_next" "_law_next" (defArgs s__law_next) (defBody s__law_next) (defScope s__law_next) .none kV__law_next dc__law_next pm__law_next an__law_next cd__law_next ct__law_next), sl__law_next⟩)
  (zd__law_next : PySem.W.codeIn K cd__law_next "_law_next" = true)
  (zk__law_next : PySem.W.keepIn K (.ref A_law_next) = true)
  (za__law_atom : PySem.W.nsIn K mainGlobals "_law_atom" = some (some (.ref A_law_atom)))
  (zl__law_atom : K.lookup A_law_atom = some ⟨oc__law_atom, od__law_atom, .func (PySem.W.fnOf "_law_atom" "_law_atom" (defArgs s__law_atom) (defBody s__law_atom) (defScope s__law_atom) .none kV__law_atom dc__law_atom pm__law_atom an__law_atom cd__law_atom ct__law_atom), sl__law_atom⟩)
  (zd__law_atom : PySem.W.codeIn K cd__law_atom "_law_atom" = true)
  (zk__law_atom : PySem.W.keepIn K (.ref A_law_atom) = true)
  (za__law_labels : PySem.W.nsIn K mainGlobals "_law_labels" = some (some (.ref A_law_labels)))
  (zl__law_labels : K.lookup A_law_labels = some ⟨oc__law_labels, od__law_labels, .func (PySem.W.fnOf "_law_labels" "_law_labels" (defArgs s__law_labels) (defBody s__law_labels) (defScope s__law_labels) .none kV__law_labels dc__law_labels pm__law_labels an__law_labels cd__law_labels ct__law_labels), sl__law_labels⟩)
  (zd__law_labels : PySem.W.codeIn K cd__law_labels "_law_labels" = true)
  (zk__law_labels : PySem.W.keepIn K (.ref A_law_labels) = true)
  (za__law_thing : PySem.W.nsIn K mainGlobals "_law_thing" = some (some (.ref A_law_thing)))
  (zl__law_thing : K.lookup A_law_thing = some ⟨oc__law_thing, od__law_thing, .func (PySem.W.fnOf "_law_thing" "_law_thing" (defArgs s__law_thing) (defBody s__law_thing) (defScope s__law_thing) .none kV__law_thing dc__law_thing pm__law_thing an__law_thing cd__law_thing ct__law_thing), sl__law_thing⟩)
  (zd__law_thing : PySem.W.codeIn K cd__law_thing "_law_thing" = true)
  (zk__law_thing : PySem.W.keepIn K (.ref A_law_thing) = true)
  (za__law_like : PySem.W.nsIn K mainGlobals "_law_like" = some (some (.ref A_law_like)))
  (zl__law_like : K.lookup A_law_like = some ⟨oc__law_like, od__law_like, .func (PySem.W.fnOf "_law_like" "_law_like" (defArgs s__law_like) (defBody s__law_like) (defScope s__law_like) .none kV__law_like dc__law_like pm__law_like an__law_like cd__law_like ct__law_like), sl__law_like⟩)
  (zd__law_like : PySem.W.codeIn K cd__law_like "_law_like" = true)
  (zk__law_like : PySem.W.keepIn K (.ref A_law_like) = true)
  (za__law_fields_right : PySem.W.nsIn K mainGlobals "_law_fields_right" = some (some (.ref A_law_fields_right)))
  (zl__law_fields_right : K.lookup A_law_fields_right = some ⟨oc__law_fields_right, od__law_fields_right, .func (PySem.W.fnOf "_law_fields_right" "_law_fields_right" (defArgs s__law_fields_right) (defBody s__law_fields_right) (defScope s__law_fields_right) .none kV__law_fields_right dc__law_fields_right pm__law_fields_right an__law_fields_right cd__law_fields_right ct__law_fields_right), sl__law_fields_right⟩)
  (zd__law_fields_right : PySem.W.codeIn K cd__law_fields_right "_law_fields_right" = true)
  (zk__law_fields_right : PySem.W.keepIn K (.ref A_law_fields_right) = true)
  (za__law_taken_right : PySem.W.nsIn K mainGlobals "_law_taken_right" = some (some (.ref A_law_taken_right)))
  (zl__law_taken_right : K.lookup A_law_taken_right = some ⟨oc__law_taken_right, od__law_taken_right, .func (PySem.W.fnOf "_law_taken_right" "_law_taken_right" (defArgs s__law_taken_right) (defBody s__law_taken_right) (defScope s__law_taken_right) .none kV__law_taken_right dc__law_taken_right pm__law_taken_right an__law_taken_right cd__law_taken_right ct__law_taken_right), sl__law_taken_right⟩)
  (zd__law_taken_right : PySem.W.codeIn K cd__law_taken_right "_law_taken_right" = true)
  (zk__law_taken_right : PySem.W.keepIn K (.ref A_law_taken_right) = true)
  (za__law_refilled_right : PySem.W.nsIn K mainGlobals "_law_refilled_right" = some (some (.ref A_law_refilled_right)))
  (zl__law_refilled_right : K.lookup A_law_refilled_right = some ⟨oc__law_refilled_right, od__law_refilled_right, .func (PySem.W.fnOf "_law_refilled_right" "_law_refilled_right" (defArgs s__law_refilled_right) (defBody s__law_refilled_right) (defScope s__law_refilled_right) .none kV__law_refilled_right dc__law_refilled_right pm__law_refilled_right an__law_refilled_right cd__law_refilled_right ct__law_refilled_right), sl__law_refilled_right⟩)
  (zd__law_refilled_right : PySem.W.codeIn K cd__law_refilled_right "_law_refilled_right" = true)
  (zk__law_refilled_right : PySem.W.keepIn K (.ref A_law_refilled_right) = true)
  (za_law : PySem.W.nsIn K mainGlobals "law" = some (some (.ref Alaw)))
  (zl_law : K.lookup Alaw = some ⟨oc_law, od_law, .func (PySem.W.fnOf "law" "law" (defArgs s_law) (defBody s_law) (defScope s_law) .none kV_law dc_law pm_law an_law cd_law ct_law), sl_law⟩)
  (zd_law : PySem.W.codeIn K cd_law "law" = true)
  (zk_law : PySem.W.keepIn K (.ref Alaw) = true)
  (za_JarError : PySem.W.nsIn K mainGlobals "JarError" = some (some (.ref AJarError)))
  (zt_JarError : PySem.W.typeIn K (.ref AJarError) = some (.type "type"))
  (zx_JarError : PySem.W.subIn K (.ref AJarError) (.type "BaseException") = some true)
  (zh_JarError : PySem.W.hasDictIn K AJarError = true)
  (za_InvalidValue : PySem.W.nsIn K mainGlobals "InvalidValue" = some (some (.ref AInvalidValue)))
  (zt_InvalidValue : PySem.W.typeIn K (.ref AInvalidValue) = some (.type "type"))
  (zx_InvalidValue : PySem.W.subIn K (.ref AInvalidValue) (.type "BaseException") = some true)
  (zh_InvalidValue : PySem.W.hasDictIn K AInvalidValue = true)
  (zi_InvalidValue : PySem.W.excInitIn K AInvalidValue [.type "ValueError", .type "Exception", .type "BaseException", .type "object"] "ValueError.__new__" = true)
  (zo_InvalidValue : PySem.W.excOver K AInvalidValue [.type "ValueError", .type "Exception", .type "BaseException", .type "object"] = true)
  (zI_InvalidValue : PySem.W.findIn K (.ref AInvalidValue) "__init__" = some (some (.ref AInvalidValue_i)))
  (zf_InvalidValue : PySem.W.isFn K (.ref AInvalidValue_i) = true)
  (zl_InvalidValue : K.lookup AInvalidValue_i = some ⟨oc_InvalidValue, od_InvalidValue, .func (PySem.W.ksFn "__init__" "InvalidValue.__init__" (eiA ((["value"] : List Str).zip [⟨9, 23, 9, 28⟩]) ⟨9, 17, 9, 21⟩) (eiSup "not a value" ⟨10, 8, 10, 13⟩ ⟨10, 8, 10, 15⟩ ⟨10, 8, 10, 24⟩ ⟨10, 25, 10, 38⟩ ⟨10, 8, 10, 39⟩ :: setsB [("value", ⟨11, 8, 11, 12⟩, ⟨11, 8, 11, 18⟩, ⟨11, 21, 11, 26⟩, ⟨11, 8, 11, 26⟩)]) (eiS ["value"]) .none kV_InvalidValue dc_InvalidValue pm_InvalidValue an_InvalidValue (.ref AInvalidValue_d) ct_InvalidValue AInvalidValue_c), sl_InvalidValue⟩)
  (zq_InvalidValue : PySem.W.codeIn K (.ref AInvalidValue_d) "InvalidValue.__init__" = true)
  (zs_InvalidValue : PySem.W.ks_superIn K AInvalidValue AInvalidValue "__init__" = some (some (.builtin "ValueError.__init__")))
  (zB_InvalidValue : PySem.W.subIn K (.ref AInvalidValue) (.type "ValueError") = some true)
  (zST_InvalidValue : PySem.W.nsIn K PySem.cStatics "thirdparty.any" = some none)
  (zA_InvalidValue : PySem.W.findIn K (.ref AInvalidValue) "__setattr__" = some (some (.builtin "object.__setattr__")))
  (zT_InvalidValue_value : PySem.W.takerIn K AInvalidValue "value" = some none)
  (zn_InvalidValue_value : PySem.W.findIn K (.ref AInvalidValue) "value" = some none)
  (zC_InvalidValue : K.lookup AInvalidValue_c = some ⟨cl_InvalidValue, cld_InvalidValue, .cell (some (.ref AInvalidValue)), csl_InvalidValue⟩)
  (zD_InvalidValue : K.lookup AInvalidValue_d = some ⟨ccl_InvalidValue, cdd_InvalidValue, .fields vs_InvalidValue, ccs_InvalidValue⟩)
  (zE_InvalidValue : vs_InvalidValue[2]? = some (.str P.main.file tf_InvalidValue))
  (zM_InvalidValue : PySem.W.mroIn K AInvalidValue (.ref AInvalidValue) = some true)
  (zN_InvalidValue : (PySem.W.clsIn K AInvalidValue).isSome = true)
  (zP_InvalidValue : (P.main.scope.names.lookup ("super" : Str)).isSome = false)
  (zk_InvalidValue : PySem.W.keepIn K (.ref AInvalidValue) = true)
  (zga_InvalidValue : PySem.W.findIn K (.ref AInvalidValue) "__getattribute__" = some (some (.builtin "BaseException.__getattribute__")))
  (zgg_InvalidValue : PySem.W.findIn K (.ref AInvalidValue) "__getattr__" = some none)
  (zcc_InvalidValue : PySem.W.findIn K (.ref AInvalidValue) "__class__" = some (some (.builtin "object.__class__")))
  (zcg_InvalidValue : PySem.W.specialIn K (.builtin "object.__class__") "__get__" = some (some (.builtin "getset_descriptor.__get__")))
  (zct_InvalidValue : PySem.W.takesIn K (.builtin "object.__class__") = some true)
  (zmo_InvalidValue : PySem.W.mroIn K AInvalidValue (.type "object") = some true)
  (za_InvalidKey : PySem.W.nsIn K mainGlobals "InvalidKey" = some (some (.ref AInvalidKey)))
  (zt_InvalidKey : PySem.W.typeIn K (.ref AInvalidKey) = some (.type "type"))
  (zx_InvalidKey : PySem.W.subIn K (.ref AInvalidKey) (.type "BaseException") = some true)
  (zh_InvalidKey : PySem.W.hasDictIn K AInvalidKey = true)
  (zi_InvalidKey : PySem.W.excInitIn K AInvalidKey [.type "ValueError", .type "Exception", .type "BaseException", .type "object"] "ValueError.__new__" = true)
  (zo_InvalidKey : PySem.W.excOver K AInvalidKey [.type "ValueError", .type "Exception", .type "BaseException", .type "object"] = true)
  (zI_InvalidKey : PySem.W.findIn K (.ref AInvalidKey) "__init__" = some (some (.ref AInvalidKey_i)))
  (zf_InvalidKey : PySem.W.isFn K (.ref AInvalidKey_i) = true)
  (zl_InvalidKey : K.lookup AInvalidKey_i = some ⟨oc_InvalidKey, od_InvalidKey, .func (PySem.W.ksFn "__init__" "InvalidKey.__init__" (eiA ((["key"] : List Str).zip [⟨19, 23, 19, 26⟩]) ⟨19, 17, 19, 21⟩) (eiSup "invalid key" ⟨20, 8, 20, 13⟩ ⟨20, 8, 20, 15⟩ ⟨20, 8, 20, 24⟩ ⟨20, 25, 20, 38⟩ ⟨20, 8, 20, 39⟩ :: setsB [("key", ⟨21, 8, 21, 12⟩, ⟨21, 8, 21, 16⟩, ⟨21, 19, 21, 22⟩, ⟨21, 8, 21, 22⟩)]) (eiS ["key"]) .none kV_InvalidKey dc_InvalidKey pm_InvalidKey an_InvalidKey (.ref AInvalidKey_d) ct_InvalidKey AInvalidKey_c), sl_InvalidKey⟩)
  (zq_InvalidKey : PySem.W.codeIn K (.ref AInvalidKey_d) "InvalidKey.__init__" = true)
  (zs_InvalidKey : PySem.W.ks_superIn K AInvalidKey AInvalidKey "__init__" = some (some (.builtin "ValueError.__init__")))
  (zB_InvalidKey : PySem.W.subIn K (.ref AInvalidKey) (.type "ValueError") = some true)
  (zST_InvalidKey : PySem.W.nsIn K PySem.cStatics "thirdparty.any" = some none)
  (zA_InvalidKey : PySem.W.findIn K (.ref AInvalidKey) "__setattr__" = some (some (.builtin "object.__setattr__")))
  (zT_InvalidKey_key : PySem.W.takerIn K AInvalidKey "key" = some none)
  (zn_InvalidKey_key : PySem.W.findIn K (.ref AInvalidKey) "key" = some none)
  (zC_InvalidKey : K.lookup AInvalidKey_c = some ⟨cl_InvalidKey, cld_InvalidKey, .cell (some (.ref AInvalidKey)), csl_InvalidKey⟩)
  (zD_InvalidKey : K.lookup AInvalidKey_d = some ⟨ccl_InvalidKey, cdd_InvalidKey, .fields vs_InvalidKey, ccs_InvalidKey⟩)
  (zE_InvalidKey : vs_InvalidKey[2]? = some (.str P.main.file tf_InvalidKey))
  (zM_InvalidKey : PySem.W.mroIn K AInvalidKey (.ref AInvalidKey) = some true)
  (zN_InvalidKey : (PySem.W.clsIn K AInvalidKey).isSome = true)
  (zP_InvalidKey : (P.main.scope.names.lookup ("super" : Str)).isSome = false)
  (zk_InvalidKey : PySem.W.keepIn K (.ref AInvalidKey) = true)
  (zga_InvalidKey : PySem.W.findIn K (.ref AInvalidKey) "__getattribute__" = some (some (.builtin "BaseException.__getattribute__")))
  (zgg_InvalidKey : PySem.W.findIn K (.ref AInvalidKey) "__getattr__" = some none)
  (zcc_InvalidKey : PySem.W.findIn K (.ref AInvalidKey) "__class__" = some (some (.builtin "object.__class__")))
  (zcg_InvalidKey : PySem.W.specialIn K (.builtin "object.__class__") "__get__" = some (some (.builtin "getset_descriptor.__get__")))
  (zct_InvalidKey : PySem.W.takesIn K (.builtin "object.__class__") = some true)
  (zmo_InvalidKey : PySem.W.mroIn K AInvalidKey (.type "object") = some true)
  (za_InvalidBrand : PySem.W.nsIn K mainGlobals "InvalidBrand" = some (some (.ref AInvalidBrand)))
  (zt_InvalidBrand : PySem.W.typeIn K (.ref AInvalidBrand) = some (.type "type"))
  (zx_InvalidBrand : PySem.W.subIn K (.ref AInvalidBrand) (.type "BaseException") = some true)
  (zh_InvalidBrand : PySem.W.hasDictIn K AInvalidBrand = true)
  (zi_InvalidBrand : PySem.W.excInitIn K AInvalidBrand [.type "ValueError", .type "Exception", .type "BaseException", .type "object"] "ValueError.__new__" = true)
  (zo_InvalidBrand : PySem.W.excOver K AInvalidBrand [.type "ValueError", .type "Exception", .type "BaseException", .type "object"] = true)
  (zI_InvalidBrand : PySem.W.findIn K (.ref AInvalidBrand) "__init__" = some (some (.ref AInvalidBrand_i)))
  (zf_InvalidBrand : PySem.W.isFn K (.ref AInvalidBrand_i) = true)
  (zl_InvalidBrand : K.lookup AInvalidBrand_i = some ⟨oc_InvalidBrand, od_InvalidBrand, .func (PySem.W.ksFn "__init__" "InvalidBrand.__init__" (eiA ((["given"] : List Str).zip [⟨24, 23, 24, 28⟩]) ⟨24, 17, 24, 21⟩) (eiSup "invalid brand" ⟨25, 8, 25, 13⟩ ⟨25, 8, 25, 15⟩ ⟨25, 8, 25, 24⟩ ⟨25, 25, 25, 40⟩ ⟨25, 8, 25, 41⟩ :: setsB [("given", ⟨26, 8, 26, 12⟩, ⟨26, 8, 26, 18⟩, ⟨26, 21, 26, 26⟩, ⟨26, 8, 26, 26⟩)]) (eiS ["given"]) .none kV_InvalidBrand dc_InvalidBrand pm_InvalidBrand an_InvalidBrand (.ref AInvalidBrand_d) ct_InvalidBrand AInvalidBrand_c), sl_InvalidBrand⟩)
  (zq_InvalidBrand : PySem.W.codeIn K (.ref AInvalidBrand_d) "InvalidBrand.__init__" = true)
  (zs_InvalidBrand : PySem.W.ks_superIn K AInvalidBrand AInvalidBrand "__init__" = some (some (.builtin "ValueError.__init__")))
  (zB_InvalidBrand : PySem.W.subIn K (.ref AInvalidBrand) (.type "ValueError") = some true)
  (zST_InvalidBrand : PySem.W.nsIn K PySem.cStatics "thirdparty.any" = some none)
  (zA_InvalidBrand : PySem.W.findIn K (.ref AInvalidBrand) "__setattr__" = some (some (.builtin "object.__setattr__")))
  (zT_InvalidBrand_given : PySem.W.takerIn K AInvalidBrand "given" = some none)
  (zn_InvalidBrand_given : PySem.W.findIn K (.ref AInvalidBrand) "given" = some none)
  (zC_InvalidBrand : K.lookup AInvalidBrand_c = some ⟨cl_InvalidBrand, cld_InvalidBrand, .cell (some (.ref AInvalidBrand)), csl_InvalidBrand⟩)
  (zD_InvalidBrand : K.lookup AInvalidBrand_d = some ⟨ccl_InvalidBrand, cdd_InvalidBrand, .fields vs_InvalidBrand, ccs_InvalidBrand⟩)
  (zE_InvalidBrand : vs_InvalidBrand[2]? = some (.str P.main.file tf_InvalidBrand))
  (zM_InvalidBrand : PySem.W.mroIn K AInvalidBrand (.ref AInvalidBrand) = some true)
  (zN_InvalidBrand : (PySem.W.clsIn K AInvalidBrand).isSome = true)
  (zP_InvalidBrand : (P.main.scope.names.lookup ("super" : Str)).isSome = false)
  (zk_InvalidBrand : PySem.W.keepIn K (.ref AInvalidBrand) = true)
  (zga_InvalidBrand : PySem.W.findIn K (.ref AInvalidBrand) "__getattribute__" = some (some (.builtin "BaseException.__getattribute__")))
  (zgg_InvalidBrand : PySem.W.findIn K (.ref AInvalidBrand) "__getattr__" = some none)
  (zcc_InvalidBrand : PySem.W.findIn K (.ref AInvalidBrand) "__class__" = some (some (.builtin "object.__class__")))
  (zcg_InvalidBrand : PySem.W.specialIn K (.builtin "object.__class__") "__get__" = some (some (.builtin "getset_descriptor.__get__")))
  (zct_InvalidBrand : PySem.W.takesIn K (.builtin "object.__class__") = some true)
  (zmo_InvalidBrand : PySem.W.mroIn K AInvalidBrand (.type "object") = some true)
  (za_StateError : PySem.W.nsIn K mainGlobals "StateError" = some (some (.ref AStateError)))
  (zt_StateError : PySem.W.typeIn K (.ref AStateError) = some (.type "type"))
  (zx_StateError : PySem.W.subIn K (.ref AStateError) (.type "BaseException") = some true)
  (zh_StateError : PySem.W.hasDictIn K AStateError = true)
  (za_KeyTaken : PySem.W.nsIn K mainGlobals "KeyTaken" = some (some (.ref AKeyTaken)))
  (zt_KeyTaken : PySem.W.typeIn K (.ref AKeyTaken) = some (.type "type"))
  (zx_KeyTaken : PySem.W.subIn K (.ref AKeyTaken) (.type "BaseException") = some true)
  (zh_KeyTaken : PySem.W.hasDictIn K AKeyTaken = true)
  (zi_KeyTaken : PySem.W.excInitIn K AKeyTaken [.type "RuntimeError", .type "Exception", .type "BaseException", .type "object"] "RuntimeError.__new__" = true)
  (zo_KeyTaken : PySem.W.excOver K AKeyTaken [.type "RuntimeError", .type "Exception", .type "BaseException", .type "object"] = true)
  (zI_KeyTaken : PySem.W.findIn K (.ref AKeyTaken) "__init__" = some (some (.ref AKeyTaken_i)))
  (zf_KeyTaken : PySem.W.isFn K (.ref AKeyTaken_i) = true)
  (zl_KeyTaken : K.lookup AKeyTaken_i = some ⟨oc_KeyTaken, od_KeyTaken, .func (PySem.W.ksFn "__init__" "KeyTaken.__init__" (eiA ((["key"] : List Str).zip [⟨31, 23, 31, 26⟩]) ⟨31, 17, 31, 21⟩) (eiSup "the key is there already" ⟨32, 8, 32, 13⟩ ⟨32, 8, 32, 15⟩ ⟨32, 8, 32, 24⟩ ⟨32, 25, 32, 51⟩ ⟨32, 8, 32, 52⟩ :: setsB [("key", ⟨33, 8, 33, 12⟩, ⟨33, 8, 33, 16⟩, ⟨33, 19, 33, 22⟩, ⟨33, 8, 33, 22⟩)]) (eiS ["key"]) .none kV_KeyTaken dc_KeyTaken pm_KeyTaken an_KeyTaken (.ref AKeyTaken_d) ct_KeyTaken AKeyTaken_c), sl_KeyTaken⟩)
  (zq_KeyTaken : PySem.W.codeIn K (.ref AKeyTaken_d) "KeyTaken.__init__" = true)
  (zs_KeyTaken : PySem.W.ks_superIn K AKeyTaken AKeyTaken "__init__" = some (some (.builtin "RuntimeError.__init__")))
  (zB_KeyTaken : PySem.W.subIn K (.ref AKeyTaken) (.type "RuntimeError") = some true)
  (zST_KeyTaken : PySem.W.nsIn K PySem.cStatics "thirdparty.any" = some none)
  (zA_KeyTaken : PySem.W.findIn K (.ref AKeyTaken) "__setattr__" = some (some (.builtin "object.__setattr__")))
  (zT_KeyTaken_key : PySem.W.takerIn K AKeyTaken "key" = some none)
  (zn_KeyTaken_key : PySem.W.findIn K (.ref AKeyTaken) "key" = some none)
  (zC_KeyTaken : K.lookup AKeyTaken_c = some ⟨cl_KeyTaken, cld_KeyTaken, .cell (some (.ref AKeyTaken)), csl_KeyTaken⟩)
  (zD_KeyTaken : K.lookup AKeyTaken_d = some ⟨ccl_KeyTaken, cdd_KeyTaken, .fields vs_KeyTaken, ccs_KeyTaken⟩)
  (zE_KeyTaken : vs_KeyTaken[2]? = some (.str P.main.file tf_KeyTaken))
  (zM_KeyTaken : PySem.W.mroIn K AKeyTaken (.ref AKeyTaken) = some true)
  (zN_KeyTaken : (PySem.W.clsIn K AKeyTaken).isSome = true)
  (zP_KeyTaken : (P.main.scope.names.lookup ("super" : Str)).isSome = false)
  (zk_KeyTaken : PySem.W.keepIn K (.ref AKeyTaken) = true)
  (zga_KeyTaken : PySem.W.findIn K (.ref AKeyTaken) "__getattribute__" = some (some (.builtin "BaseException.__getattribute__")))
  (zgg_KeyTaken : PySem.W.findIn K (.ref AKeyTaken) "__getattr__" = some none)
  (zcc_KeyTaken : PySem.W.findIn K (.ref AKeyTaken) "__class__" = some (some (.builtin "object.__class__")))
  (zcg_KeyTaken : PySem.W.specialIn K (.builtin "object.__class__") "__get__" = some (some (.builtin "getset_descriptor.__get__")))
  (zct_KeyTaken : PySem.W.takesIn K (.builtin "object.__class__") = some true)
  (zmo_KeyTaken : PySem.W.mroIn K AKeyTaken (.type "object") = some true)
  (za_MissingError : PySem.W.nsIn K mainGlobals "MissingError" = some (some (.ref AMissingError)))
  (zt_MissingError : PySem.W.typeIn K (.ref AMissingError) = some (.type "type"))
  (zx_MissingError : PySem.W.subIn K (.ref AMissingError) (.type "BaseException") = some true)
  (zh_MissingError : PySem.W.hasDictIn K AMissingError = true)
  (za_NoEntry : PySem.W.nsIn K mainGlobals "NoEntry" = some (some (.ref ANoEntry)))
  (zt_NoEntry : PySem.W.typeIn K (.ref ANoEntry) = some (.type "type"))
  (zx_NoEntry : PySem.W.subIn K (.ref ANoEntry) (.type "BaseException") = some true)
  (zh_NoEntry : PySem.W.hasDictIn K ANoEntry = true)
  (zi_NoEntry : PySem.W.excInitIn K ANoEntry [.type "LookupError", .type "Exception", .type "BaseException", .type "object"] "LookupError.__new__" = true)
  (zo_NoEntry : PySem.W.excOver K ANoEntry [.type "LookupError", .type "Exception", .type "BaseException", .type "object"] = true)
  (zI_NoEntry : PySem.W.findIn K (.ref ANoEntry) "__init__" = some (some (.ref ANoEntry_i)))
  (zf_NoEntry : PySem.W.isFn K (.ref ANoEntry_i) = true)
  (zl_NoEntry : K.lookup ANoEntry_i = some ⟨oc_NoEntry, od_NoEntry, .func (PySem.W.ksFn "__init__" "NoEntry.__init__" (eiA ((["key"] : List Str).zip [⟨38, 23, 38, 26⟩]) ⟨38, 17, 38, 21⟩) (eiSup "no such entry" ⟨39, 8, 39, 13⟩ ⟨39, 8, 39, 15⟩ ⟨39, 8, 39, 24⟩ ⟨39, 25, 39, 40⟩ ⟨39, 8, 39, 41⟩ :: setsB [("key", ⟨40, 8, 40, 12⟩, ⟨40, 8, 40, 16⟩, ⟨40, 19, 40, 22⟩, ⟨40, 8, 40, 22⟩)]) (eiS ["key"]) .none kV_NoEntry dc_NoEntry pm_NoEntry an_NoEntry (.ref ANoEntry_d) ct_NoEntry ANoEntry_c), sl_NoEntry⟩)
  (zq_NoEntry : PySem.W.codeIn K (.ref ANoEntry_d) "NoEntry.__init__" = true)
  (zs_NoEntry : PySem.W.ks_superIn K ANoEntry ANoEntry "__init__" = some (some (.builtin "LookupError.__init__")))
  (zB_NoEntry : PySem.W.subIn K (.ref ANoEntry) (.type "LookupError") = some true)
  (zST_NoEntry : PySem.W.nsIn K PySem.cStatics "thirdparty.any" = some none)
  (zA_NoEntry : PySem.W.findIn K (.ref ANoEntry) "__setattr__" = some (some (.builtin "object.__setattr__")))
  (zT_NoEntry_key : PySem.W.takerIn K ANoEntry "key" = some none)
  (zn_NoEntry_key : PySem.W.findIn K (.ref ANoEntry) "key" = some none)
  (zC_NoEntry : K.lookup ANoEntry_c = some ⟨cl_NoEntry, cld_NoEntry, .cell (some (.ref ANoEntry)), csl_NoEntry⟩)
  (zD_NoEntry : K.lookup ANoEntry_d = some ⟨ccl_NoEntry, cdd_NoEntry, .fields vs_NoEntry, ccs_NoEntry⟩)
  (zE_NoEntry : vs_NoEntry[2]? = some (.str P.main.file tf_NoEntry))
  (zM_NoEntry : PySem.W.mroIn K ANoEntry (.ref ANoEntry) = some true)
  (zN_NoEntry : (PySem.W.clsIn K ANoEntry).isSome = true)
  (zP_NoEntry : (P.main.scope.names.lookup ("super" : Str)).isSome = false)
  (zk_NoEntry : PySem.W.keepIn K (.ref ANoEntry) = true)
  (zga_NoEntry : PySem.W.findIn K (.ref ANoEntry) "__getattribute__" = some (some (.builtin "BaseException.__getattribute__")))
  (zgg_NoEntry : PySem.W.findIn K (.ref ANoEntry) "__getattr__" = some none)
  (zcc_NoEntry : PySem.W.findIn K (.ref ANoEntry) "__class__" = some (some (.builtin "object.__class__")))
  (zcg_NoEntry : PySem.W.specialIn K (.builtin "object.__class__") "__get__" = some (some (.builtin "getset_descriptor.__get__")))
  (zct_NoEntry : PySem.W.takesIn K (.builtin "object.__class__") = some true)
  (zmo_NoEntry : PySem.W.mroIn K ANoEntry (.type "object") = some true)
  (zu_InvalidValue_JarError : PySem.W.kitOne K (.ref AInvalidValue) (.ref AJarError) = some true)
  (zv_InvalidValue_JarError : PySem.W.exmOne K (.ref AInvalidValue) (.ref AJarError) = some true)
  (zu_InvalidValue_StateError : PySem.W.kitOne K (.ref AInvalidValue) (.ref AStateError) = some false)
  (zv_InvalidValue_StateError : PySem.W.exmOne K (.ref AInvalidValue) (.ref AStateError) = some false)
  (zu_InvalidValue_MissingError : PySem.W.kitOne K (.ref AInvalidValue) (.ref AMissingError) = some false)
  (zv_InvalidValue_MissingError : PySem.W.exmOne K (.ref AInvalidValue) (.ref AMissingError) = some false)
  (zu_InvalidKey_JarError : PySem.W.kitOne K (.ref AInvalidKey) (.ref AJarError) = some true)
  (zv_InvalidKey_JarError : PySem.W.exmOne K (.ref AInvalidKey) (.ref AJarError) = some true)
  (zu_InvalidKey_StateError : PySem.W.kitOne K (.ref AInvalidKey) (.ref AStateError) = some false)
  (zv_InvalidKey_StateError : PySem.W.exmOne K (.ref AInvalidKey) (.ref AStateError) = some false)
  (zu_InvalidKey_MissingError : PySem.W.kitOne K (.ref AInvalidKey) (.ref AMissingError) = some false)
  (zv_InvalidKey_MissingError : PySem.W.exmOne K (.ref AInvalidKey) (.ref AMissingError) = some false)
  (zu_InvalidBrand_JarError : PySem.W.kitOne K (.ref AInvalidBrand) (.ref AJarError) = some true)
  (zv_InvalidBrand_JarError : PySem.W.exmOne K (.ref AInvalidBrand) (.ref AJarError) = some true)
  (zu_InvalidBrand_StateError : PySem.W.kitOne K (.ref AInvalidBrand) (.ref AStateError) = some false)
  (zv_InvalidBrand_StateError : PySem.W.exmOne K (.ref AInvalidBrand) (.ref AStateError) = some false)
  (zu_InvalidBrand_MissingError : PySem.W.kitOne K (.ref AInvalidBrand) (.ref AMissingError) = some false)
  (zv_InvalidBrand_MissingError : PySem.W.exmOne K (.ref AInvalidBrand) (.ref AMissingError) = some false)
  (zu_KeyTaken_JarError : PySem.W.kitOne K (.ref AKeyTaken) (.ref AJarError) = some false)
  (zv_KeyTaken_JarError : PySem.W.exmOne K (.ref AKeyTaken) (.ref AJarError) = some false)
  (zu_KeyTaken_StateError : PySem.W.kitOne K (.ref AKeyTaken) (.ref AStateError) = some true)
  (zv_KeyTaken_StateError : PySem.W.exmOne K (.ref AKeyTaken) (.ref AStateError) = some true)
  (zu_KeyTaken_MissingError : PySem.W.kitOne K (.ref AKeyTaken) (.ref AMissingError) = some false)
  (zv_KeyTaken_MissingError : PySem.W.exmOne K (.ref AKeyTaken) (.ref AMissingError) = some false)
  (zu_NoEntry_JarError : PySem.W.kitOne K (.ref ANoEntry) (.ref AJarError) = some false)
  (zv_NoEntry_JarError : PySem.W.exmOne K (.ref ANoEntry) (.ref AJarError) = some false)
  (zu_NoEntry_StateError : PySem.W.kitOne K (.ref ANoEntry) (.ref AStateError) = some false)
  (zv_NoEntry_StateError : PySem.W.exmOne K (.ref ANoEntry) (.ref AStateError) = some false)
  (zu_NoEntry_MissingError : PySem.W.kitOne K (.ref ANoEntry) (.ref AMissingError) = some true)
  (zv_NoEntry_MissingError : PySem.W.exmOne K (.ref ANoEntry) (.ref AMissingError) = some true)
  (zu_InvalidValue_InvalidValue : PySem.W.kitOne K (.ref AInvalidValue) (.ref AInvalidValue) = some true)
  (zv_InvalidValue_InvalidValue : PySem.W.exmOne K (.ref AInvalidValue) (.ref AInvalidValue) = some true)
  (zu_InvalidValue_InvalidKey : PySem.W.kitOne K (.ref AInvalidValue) (.ref AInvalidKey) = some false)
  (zv_InvalidValue_InvalidKey : PySem.W.exmOne K (.ref AInvalidValue) (.ref AInvalidKey) = some false)
  (zu_InvalidValue_InvalidBrand : PySem.W.kitOne K (.ref AInvalidValue) (.ref AInvalidBrand) = some false)
  (zv_InvalidValue_InvalidBrand : PySem.W.exmOne K (.ref AInvalidValue) (.ref AInvalidBrand) = some false)
  (zu_InvalidValue_KeyTaken : PySem.W.kitOne K (.ref AInvalidValue) (.ref AKeyTaken) = some false)
  (zv_InvalidValue_KeyTaken : PySem.W.exmOne K (.ref AInvalidValue) (.ref AKeyTaken) = some false)
  (zu_InvalidValue_NoEntry : PySem.W.kitOne K (.ref AInvalidValue) (.ref ANoEntry) = some false)
  (zv_InvalidValue_NoEntry : PySem.W.exmOne K (.ref AInvalidValue) (.ref ANoEntry) = some false)
  (zu_InvalidKey_InvalidValue : PySem.W.kitOne K (.ref AInvalidKey) (.ref AInvalidValue) = some false)
  (zv_InvalidKey_InvalidValue : PySem.W.exmOne K (.ref AInvalidKey) (.ref AInvalidValue) = some false)
  (zu_InvalidKey_InvalidKey : PySem.W.kitOne K (.ref AInvalidKey) (.ref AInvalidKey) = some true)
  (zv_InvalidKey_InvalidKey : PySem.W.exmOne K (.ref AInvalidKey) (.ref AInvalidKey) = some true)
  (zu_InvalidKey_InvalidBrand : PySem.W.kitOne K (.ref AInvalidKey) (.ref AInvalidBrand) = some false)
  (zv_InvalidKey_InvalidBrand : PySem.W.exmOne K (.ref AInvalidKey) (.ref AInvalidBrand) = some false)
  (zu_InvalidKey_KeyTaken : PySem.W.kitOne K (.ref AInvalidKey) (.ref AKeyTaken) = some false)
  (zv_InvalidKey_KeyTaken : PySem.W.exmOne K (.ref AInvalidKey) (.ref AKeyTaken) = some false)
  (zu_InvalidKey_NoEntry : PySem.W.kitOne K (.ref AInvalidKey) (.ref ANoEntry) = some false)
  (zv_InvalidKey_NoEntry : PySem.W.exmOne K (.ref AInvalidKey) (.ref ANoEntry) = some false)
  (zu_InvalidBrand_InvalidValue : PySem.W.kitOne K (.ref AInvalidBrand) (.ref AInvalidValue) = some false)
  (zv_InvalidBrand_InvalidValue : PySem.W.exmOne K (.ref AInvalidBrand) (.ref AInvalidValue) = some false)
  (zu_InvalidBrand_InvalidKey : PySem.W.kitOne K (.ref AInvalidBrand) (.ref AInvalidKey) = some false)
  (zv_InvalidBrand_InvalidKey : PySem.W.exmOne K (.ref AInvalidBrand) (.ref AInvalidKey) = some false)
  (zu_InvalidBrand_InvalidBrand : PySem.W.kitOne K (.ref AInvalidBrand) (.ref AInvalidBrand) = some true)
  (zv_InvalidBrand_InvalidBrand : PySem.W.exmOne K (.ref AInvalidBrand) (.ref AInvalidBrand) = some true)
  (zu_InvalidBrand_KeyTaken : PySem.W.kitOne K (.ref AInvalidBrand) (.ref AKeyTaken) = some false)
  (zv_InvalidBrand_KeyTaken : PySem.W.exmOne K (.ref AInvalidBrand) (.ref AKeyTaken) = some false)
  (zu_InvalidBrand_NoEntry : PySem.W.kitOne K (.ref AInvalidBrand) (.ref ANoEntry) = some false)
  (zv_InvalidBrand_NoEntry : PySem.W.exmOne K (.ref AInvalidBrand) (.ref ANoEntry) = some false)
  (zu_KeyTaken_InvalidValue : PySem.W.kitOne K (.ref AKeyTaken) (.ref AInvalidValue) = some false)
  (zv_KeyTaken_InvalidValue : PySem.W.exmOne K (.ref AKeyTaken) (.ref AInvalidValue) = some false)
  (zu_KeyTaken_InvalidKey : PySem.W.kitOne K (.ref AKeyTaken) (.ref AInvalidKey) = some false)
  (zv_KeyTaken_InvalidKey : PySem.W.exmOne K (.ref AKeyTaken) (.ref AInvalidKey) = some false)
  (zu_KeyTaken_InvalidBrand : PySem.W.kitOne K (.ref AKeyTaken) (.ref AInvalidBrand) = some false)
  (zv_KeyTaken_InvalidBrand : PySem.W.exmOne K (.ref AKeyTaken) (.ref AInvalidBrand) = some false)
  (zu_KeyTaken_KeyTaken : PySem.W.kitOne K (.ref AKeyTaken) (.ref AKeyTaken) = some true)
  (zv_KeyTaken_KeyTaken : PySem.W.exmOne K (.ref AKeyTaken) (.ref AKeyTaken) = some true)
  (zu_KeyTaken_NoEntry : PySem.W.kitOne K (.ref AKeyTaken) (.ref ANoEntry) = some false)
  (zv_KeyTaken_NoEntry : PySem.W.exmOne K (.ref AKeyTaken) (.ref ANoEntry) = some false)
  (zu_NoEntry_InvalidValue : PySem.W.kitOne K (.ref ANoEntry) (.ref AInvalidValue) = some false)
  (zv_NoEntry_InvalidValue : PySem.W.exmOne K (.ref ANoEntry) (.ref AInvalidValue) = some false)
  (zu_NoEntry_InvalidKey : PySem.W.kitOne K (.ref ANoEntry) (.ref AInvalidKey) = some false)
  (zv_NoEntry_InvalidKey : PySem.W.exmOne K (.ref ANoEntry) (.ref AInvalidKey) = some false)
  (zu_NoEntry_InvalidBrand : PySem.W.kitOne K (.ref ANoEntry) (.ref AInvalidBrand) = some false)
  (zv_NoEntry_InvalidBrand : PySem.W.exmOne K (.ref ANoEntry) (.ref AInvalidBrand) = some false)
  (zu_NoEntry_KeyTaken : PySem.W.kitOne K (.ref ANoEntry) (.ref AKeyTaken) = some false)
  (zv_NoEntry_KeyTaken : PySem.W.exmOne K (.ref ANoEntry) (.ref AKeyTaken) = some false)
  (zu_NoEntry_NoEntry : PySem.W.kitOne K (.ref ANoEntry) (.ref ANoEntry) = some true)
  (zv_NoEntry_NoEntry : PySem.W.exmOne K (.ref ANoEntry) (.ref ANoEntry) = some true)
  (zz_w_NoneType : PySem.W.kitOne K (.type "NoneType") (.ref ANode) = some false)
  (zz_w_bool : PySem.W.kitOne K (.type "bool") (.ref ANode) = some false)
  (zz_w_int : PySem.W.kitOne K (.type "int") (.ref ANode) = some false)
  (zz_w_str : PySem.W.kitOne K (.type "str") (.ref ANode) = some false)
  (zz_w_list : PySem.W.kitOne K (.type "list") (.ref ANode) = some false)
  (zz_w_tuple : PySem.W.kitOne K (.type "tuple") (.ref ANode) = some false)
  (zz_w_dict : PySem.W.kitOne K (.type "dict") (.ref ANode) = some false)
  (zz_w_Row_Node : PySem.W.kitOne K (.ref ARow) (.ref ANode) = some true)
  (zz_w_Row_int : PySem.W.kitOne K (.ref ARow) (.type "int") = some false)
  (zz_w_Row_bool : PySem.W.kitOne K (.ref ARow) (.type "bool") = some false)
  (zz_w_Row_str : PySem.W.kitOne K (.ref ARow) (.type "str") = some false)
  (zz_w_Row_tuple : PySem.W.kitOne K (.ref ARow) (.type "tuple") = some false)
  (zz_wc_Row : PySem.W.findIn K (.ref ARow) "__class__" = some (some (.builtin "object.__class__")))
  (zz_w_Book_Node : PySem.W.kitOne K (.ref ABook) (.ref ANode) = some true)
  (zz_w_Book_int : PySem.W.kitOne K (.ref ABook) (.type "int") = some false)
  (zz_w_Book_bool : PySem.W.kitOne K (.ref ABook) (.type "bool") = some false)
  (zz_w_Book_str : PySem.W.kitOne K (.ref ABook) (.type "str") = some false)
  (zz_w_Book_tuple : PySem.W.kitOne K (.ref ABook) (.type "tuple") = some false)
  (zz_wc_Book : PySem.W.findIn K (.ref ABook) "__class__" = some (some (.builtin "object.__class__")))
  (zz_w_Thing_Node : PySem.W.kitOne K (.ref AThing) (.ref ANode) = some true)
  (zz_w_Thing_int : PySem.W.kitOne K (.ref AThing) (.type "int") = some false)
  (zz_w_Thing_bool : PySem.W.kitOne K (.ref AThing) (.type "bool") = some false)
  (zz_w_Thing_str : PySem.W.kitOne K (.ref AThing) (.type "str") = some false)
  (zz_w_Thing_tuple : PySem.W.kitOne K (.ref AThing) (.type "tuple") = some false)
  (zz_wc_Thing : PySem.W.findIn K (.ref AThing) "__class__" = some (some (.builtin "object.__class__")))
  (zz_wg : PySem.W.specialIn K (.builtin "object.__class__") "__get__" = some (some (.builtin "getset_descriptor.__get__")))
  (zz_wt : PySem.W.takesIn K (.builtin "object.__class__") = some true)
  (zz_ne_Row : PySem.W.findIn K (.ref ARow) "__ne__" = some (some (.builtin "object.__ne__")))
  (zz_ne_Book : PySem.W.findIn K (.ref ABook) "__ne__" = some (some (.builtin "object.__ne__")))
  (zz_ne_Thing : PySem.W.findIn K (.ref AThing) "__ne__" = some (some (.builtin "object.__ne__")))
  (zz_w_Thing_Thing : PySem.W.kitOne K (.ref AThing) (.ref AThing) = some true)
  (zz_w_Thing_Book : PySem.W.kitOne K (.ref AThing) (.ref ABook) = some false)
  (zz_w_Book_Thing : PySem.W.kitOne K (.ref ABook) (.ref AThing) = some false)
  (zz_w_Book_Book : PySem.W.kitOne K (.ref ABook) (.ref ABook) = some true)
  (zz_ca_Fields : PySem.W.findIn K (.ref AFields) "__call__" = some (some (.ref AFields___call__)))
  (zz_cf_Fields : PySem.W.isFn K (.ref AFields___call__) = true)
  (zz_ci_Fields : PySem.W.fnIn K AFields___call__ = true)
  (zz_ca_Single : PySem.W.findIn K (.ref ASingle) "__call__" = some (some (.ref ASingle___call__)))
  (zz_cf_Single : PySem.W.isFn K (.ref ASingle___call__) = true)
  (zz_ci_Single : PySem.W.fnIn K ASingle___call__ = true)
  (zz_ca_Parts : PySem.W.findIn K (.ref AParts) "__call__" = some (some (.ref AParts___call__)))
  (zz_cf_Parts : PySem.W.isFn K (.ref AParts___call__) = true)
  (zz_ci_Parts : PySem.W.fnIn K AParts___call__ = true)
  (zz_ca_Whole : PySem.W.findIn K (.ref AWhole) "__call__" = some (some (.ref AWhole___call__)))
  (zz_cf_Whole : PySem.W.isFn K (.ref AWhole___call__) = true)
  (zz_ci_Whole : PySem.W.fnIn K AWhole___call__ = true)
  (zz_ca_Refill : PySem.W.findIn K (.ref ARefill) "__call__" = some (some (.ref ARefill___call__)))
  (zz_cf_Refill : PySem.W.isFn K (.ref ARefill___call__) = true)
  (zz_ci_Refill : PySem.W.fnIn K ARefill___call__ = true)
  (zz_m0_Whole : PySem.W.makesIn K AWhole = true)
  (zz_i0_Whole : PySem.W.findIn K (.ref AWhole) "__init__" = some (some (.builtin "object.__init__")))
  (zz_m0_Refill : PySem.W.makesIn K ARefill = true)
  (zz_i0_Refill : PySem.W.findIn K (.ref ARefill) "__init__" = some (some (.builtin "object.__init__"))) : Txt P K mg ⟨A_wall, Ais_integer, Ais_whole_atom, Ais_text, Ais_key, Ais_atom, Ais_brand, Aholds_value, Acheck_value, Acheck_key, Acheck_label, ANode_shape, ANode_children, ASequence___init__, ASequence_parts, ASequence_children, ARow_of, ARow_shape, ARow_put_last, ARow_put_at, ABook___init__, ABook_of, ABook_shape, ABook_pairs, ABook_children, ABook_enter, ABook_check_entry, ABook_change, ABook_value_of, AThing___init__, AThing_shape, AThing_brand, AThing_fields, AThing_children, AThing_set_field, AThing_field, Acheck_labels, AFields___init__, AFields___call__, ASingle___init__, ASingle___call__, AParts___init__, AParts___call__, AWhole___call__, ARefill___call__, A_law_begin, A_law_mixed, A_law_next, A_law_atom, A_law_labels, A_law_thing, A_law_like, A_law_fields_right, A_law_taken_right, A_law_refilled_right, Alaw, AJarError, AInvalidValue, AInvalidKey, AInvalidBrand, AStateError, AKeyTaken, AMissingError, ANoEntry, ANode, ASequence, ARow, ABook, AThing, AFields, ASingle, AParts, AWhole, ARefill, AInvalidValue_i, AInvalidValue_c, AInvalidValue_d, AInvalidKey_i, AInvalidKey_c, AInvalidKey_d, AInvalidBrand_i, AInvalidBrand_c, AInvalidBrand_d, AKeyTaken_i, AKeyTaken_c, AKeyTaken_d, ANoEntry_i, ANoEntry_c, ANoEntry_d, ANode_shape_p, ASequence_parts_p, ARow_of_p, ARow_shape_p, ABook_of_p, ABook_shape_p, ABook_pairs_p, AThing_shape_p, AThing_brand_p, AThing_fields_p⟩ := {
  g_Node := PySem.W.mg_of X G za_Node,
  c_Node := ⟨zc1_Node, zc2_Node, zc3_Node, zc4_Node⟩,
  k_Node := zk_Node,
  e_Node := ⟨ze1_Node, ze2_Node⟩,
  t_Node := zt_Node,
  p_Node_shape := ⟨zp1_Node_shape, zp2_Node_shape, zp3_Node_shape, ⟨_, zp4_Node_shape⟩⟩,
  p_Node_children := ⟨zp1_Node_children, zp2_Node_children, zp3_Node_children⟩,
  g_Sequence := PySem.W.mg_of X G za_Sequence,
  c_Sequence := ⟨zc1_Sequence, zc2_Sequence, zc3_Sequence, zc4_Sequence⟩,
  k_Sequence := zk_Sequence,
  e_Sequence := ⟨ze1_Sequence, ze2_Sequence⟩,
  t_Sequence := zt_Sequence,
  p_Sequence_shape := ⟨zp1_Sequence_shape, zp2_Sequence_shape, zp3_Sequence_shape, ⟨_, zp4_Sequence_shape⟩⟩,
  p_Sequence_children := ⟨zp1_Sequence_children, zp2_Sequence_children, zp3_Sequence_children⟩,
  m_Sequence := ⟨zm1_Sequence, zm2_Sequence, zm3_Sequence, zk_Sequence⟩,
  p_Sequence_parts := ⟨zp1_Sequence_parts, zp2_Sequence_parts, zp3_Sequence_parts, ⟨_, zp4_Sequence_parts⟩⟩,
  n_Sequence_kept := zn_Sequence_kept,
  g_Row := PySem.W.mg_of X G za_Row,
  c_Row := ⟨zc1_Row, zc2_Row, zc3_Row, zc4_Row⟩,
  k_Row := zk_Row,
  e_Row := ⟨ze1_Row, ze2_Row⟩,
  t_Row := zt_Row,
  r_Row := ⟨zr1_Row, zr2_Row⟩,
  p_Row_shape := ⟨zp1_Row_shape, zp2_Row_shape, zp3_Row_shape, ⟨_, zp4_Row_shape⟩⟩,
  p_Row_children := ⟨zp1_Row_children, zp2_Row_children, zp3_Row_children⟩,
  m_Row := ⟨zm1_Row, zm2_Row, zm3_Row, zk_Row⟩,
  p_Row_parts := ⟨zp1_Row_parts, zp2_Row_parts, zp3_Row_parts, ⟨_, zp4_Row_parts⟩⟩,
  p_Row_of := ⟨zp1_Row_of, ⟨_, zp2_Row_of⟩, zp3_Row_of⟩,
  p_Row_put_last := ⟨zp1_Row_put_last, zp2_Row_put_last, zp3_Row_put_last⟩,
  p_Row_put_at := ⟨zp1_Row_put_at, zp2_Row_put_at, zp3_Row_put_at⟩,
  n_Row_kept := zn_Row_kept,
  g_Book := PySem.W.mg_of X G za_Book,
  c_Book := ⟨zc1_Book, zc2_Book, zc3_Book, zc4_Book⟩,
  k_Book := zk_Book,
  e_Book := ⟨ze1_Book, ze2_Book⟩,
  t_Book := zt_Book,
  r_Book := ⟨zr1_Book, zr2_Book⟩,
  p_Book_shape := ⟨zp1_Book_shape, zp2_Book_shape, zp3_Book_shape, ⟨_, zp4_Book_shape⟩⟩,
  p_Book_children := ⟨zp1_Book_children, zp2_Book_children, zp3_Book_children⟩,
  m_Book := ⟨zm1_Book, zm2_Book, zm3_Book, zk_Book⟩,
  p_Book_of := ⟨zp1_Book_of, ⟨_, zp2_Book_of⟩, zp3_Book_of⟩,
  p_Book_pairs := ⟨zp1_Book_pairs, zp2_Book_pairs, zp3_Book_pairs, ⟨_, zp4_Book_pairs⟩⟩,
  p_Book_enter := ⟨zp1_Book_enter, zp2_Book_enter, zp3_Book_enter⟩,
  p_Book_check_entry := ⟨zp1_Book_check_entry, zp2_Book_check_entry, zp3_Book_check_entry⟩,
  p_Book_change := ⟨zp1_Book_change, zp2_Book_change, zp3_Book_change⟩,
  p_Book_value_of := ⟨zp1_Book_value_of, zp2_Book_value_of, zp3_Book_value_of⟩,
  n_Book_entries := zn_Book_entries,
  g_Thing := PySem.W.mg_of X G za_Thing,
  c_Thing := ⟨zc1_Thing, zc2_Thing, zc3_Thing, zc4_Thing⟩,
  k_Thing := zk_Thing,
  e_Thing := ⟨ze1_Thing, ze2_Thing⟩,
  t_Thing := zt_Thing,
  p_Thing_shape := ⟨zp1_Thing_shape, zp2_Thing_shape, zp3_Thing_shape, ⟨_, zp4_Thing_shape⟩⟩,
  p_Thing_children := ⟨zp1_Thing_children, zp2_Thing_children, zp3_Thing_children⟩,
  m_Thing := ⟨zm1_Thing, zm2_Thing, zm3_Thing, zk_Thing⟩,
  p_Thing_brand := ⟨zp1_Thing_brand, zp2_Thing_brand, zp3_Thing_brand, ⟨_, zp4_Thing_brand⟩⟩,
  p_Thing_fields := ⟨zp1_Thing_fields, zp2_Thing_fields, zp3_Thing_fields, ⟨_, zp4_Thing_fields⟩⟩,
  p_Thing_set_field := ⟨zp1_Thing_set_field, zp2_Thing_set_field, zp3_Thing_set_field⟩,
  p_Thing_field := ⟨zp1_Thing_field, zp2_Thing_field, zp3_Thing_field⟩,
  n_Thing_called := zn_Thing_called,
  n_Thing_settings := zn_Thing_settings,
  g_Fields := PySem.W.mg_of X G za_Fields,
  c_Fields := ⟨zc1_Fields, zc2_Fields, zc3_Fields, zc4_Fields⟩,
  k_Fields := zk_Fields,
  e_Fields := ⟨ze1_Fields, ze2_Fields⟩,
  t_Fields := zt_Fields,
  m_Fields := ⟨zm1_Fields, zm2_Fields, zm3_Fields, zk_Fields⟩,
  p_Fields___call__ := ⟨zp1_Fields___call__, zp2_Fields___call__, zp3_Fields___call__⟩,
  n_Fields_new_brand := zn_Fields_new_brand,
  n_Fields_label_row := zn_Fields_label_row,
  g_Single := PySem.W.mg_of X G za_Single,
  c_Single := ⟨zc1_Single, zc2_Single, zc3_Single, zc4_Single⟩,
  k_Single := zk_Single,
  e_Single := ⟨ze1_Single, ze2_Single⟩,
  t_Single := zt_Single,
  m_Single := ⟨zm1_Single, zm2_Single, zm3_Single, zk_Single⟩,
  p_Single___call__ := ⟨zp1_Single___call__, zp2_Single___call__, zp3_Single___call__⟩,
  n_Single_only_thing := zn_Single_only_thing,
  g_Parts := PySem.W.mg_of X G za_Parts,
  c_Parts := ⟨zc1_Parts, zc2_Parts, zc3_Parts, zc4_Parts⟩,
  k_Parts := zk_Parts,
  e_Parts := ⟨ze1_Parts, ze2_Parts⟩,
  t_Parts := zt_Parts,
  m_Parts := ⟨zm1_Parts, zm2_Parts, zm3_Parts, zk_Parts⟩,
  p_Parts___call__ := ⟨zp1_Parts___call__, zp2_Parts___call__, zp3_Parts___call__⟩,
  n_Parts_label_row := zn_Parts_label_row,
  g_Whole := PySem.W.mg_of X G za_Whole,
  c_Whole := ⟨zc1_Whole, zc2_Whole, zc3_Whole, zc4_Whole⟩,
  k_Whole := zk_Whole,
  e_Whole := ⟨ze1_Whole, ze2_Whole⟩,
  t_Whole := zt_Whole,
  p_Whole___call__ := ⟨zp1_Whole___call__, zp2_Whole___call__, zp3_Whole___call__⟩,
  g_Refill := PySem.W.mg_of X G za_Refill,
  c_Refill := ⟨zc1_Refill, zc2_Refill, zc3_Refill, zc4_Refill⟩,
  k_Refill := zk_Refill,
  e_Refill := ⟨ze1_Refill, ze2_Refill⟩,
  t_Refill := zt_Refill,
  p_Refill___call__ := ⟨zp1_Refill___call__, zp2_Refill___call__, zp3_Refill___call__⟩,
  b_all := PySem.W.mg_none_of X G zb_all,
  b_bool := PySem.W.mg_none_of X G zb_bool,
  b_classmethod := PySem.W.mg_none_of X G zb_classmethod,
  b_int := PySem.W.mg_none_of X G zb_int,
  b_isinstance := PySem.W.mg_none_of X G zb_isinstance,
  b_len := PySem.W.mg_none_of X G zb_len,
  b_list := PySem.W.mg_none_of X G zb_list,
  b_min := PySem.W.mg_none_of X G zb_min,
  b_property := PySem.W.mg_none_of X G zb_property,
  b_range := PySem.W.mg_none_of X G zb_range,
  b_repr := PySem.W.mg_none_of X G zb_repr,
  b_str := PySem.W.mg_none_of X G zb_str,
  b_tuple := PySem.W.mg_none_of X G zb_tuple,
  b_zip := PySem.W.mg_none_of X G zb_zip,
  b_super := PySem.W.mg_none_of X G zb_super,
  c_MOST_INTEGER := ⟨_, PySem.W.mg_of X G zc_MOST_INTEGER⟩,
  c_MOST_CHARACTERS := ⟨_, PySem.W.mg_of X G zc_MOST_CHARACTERS⟩,
  c_MOST_NUMBERS := ⟨_, PySem.W.mg_of X G zc_MOST_NUMBERS⟩,
  c_MOST_BRAND := ⟨_, PySem.W.mg_of X G zc_MOST_BRAND⟩,
  c_BAG := ⟨_, PySem.W.mg_of X G zc_BAG⟩,
  c_LETTERS := ⟨_, PySem.W.mg_of X G zc_LETTERS⟩,
  c_OTHERS := ⟨_, PySem.W.mg_of X G zc_OTHERS⟩,
  g__wall := PySem.W.mg_of X G za__wall,
  k__wall := zk__wall,
  d__wall := ⟨_, fun_mk (st := s__wall) zl__wall zd__wall zk__wall, (fun_mk (st := s__wall) zl__wall zd__wall zk__wall).binds (ps := ["k"]) fun _ _ _ _ _ _ us hl => match us, hl with | [_], _ => rfl⟩,
  g_is_integer := PySem.W.mg_of X G za_is_integer,
  k_is_integer := zk_is_integer,
  d_is_integer := ⟨_, fun_mk (st := s_is_integer) zl_is_integer zd_is_integer zk_is_integer, (fun_mk (st := s_is_integer) zl_is_integer zd_is_integer zk_is_integer).binds (ps := ["thing"]) fun _ _ _ _ _ _ us hl => match us, hl with | [_], _ => rfl⟩,
  g_is_whole_atom := PySem.W.mg_of X G za_is_whole_atom,
  k_is_whole_atom := zk_is_whole_atom,
  d_is_whole_atom := ⟨_, fun_mk (st := s_is_whole_atom) zl_is_whole_atom zd_is_whole_atom zk_is_whole_atom, (fun_mk (st := s_is_whole_atom) zl_is_whole_atom zd_is_whole_atom zk_is_whole_atom).binds (ps := ["thing"]) fun _ _ _ _ _ _ us hl => match us, hl with | [_], _ => rfl⟩,
  g_is_text := PySem.W.mg_of X G za_is_text,
  k_is_text := zk_is_text,
  d_is_text := ⟨_, fun_mk (st := s_is_text) zl_is_text zd_is_text zk_is_text, (fun_mk (st := s_is_text) zl_is_text zd_is_text zk_is_text).binds (ps := ["thing"]) fun _ _ _ _ _ _ us hl => match us, hl with | [_], _ => rfl⟩,
  g_is_key := PySem.W.mg_of X G za_is_key,
  k_is_key := zk_is_key,
  d_is_key := ⟨_, fun_mk (st := s_is_key) zl_is_key zd_is_key zk_is_key, (fun_mk (st := s_is_key) zl_is_key zd_is_key zk_is_key).binds (ps := ["thing"]) fun _ _ _ _ _ _ us hl => match us, hl with | [_], _ => rfl⟩,
  g_is_atom := PySem.W.mg_of X G za_is_atom,
  k_is_atom := zk_is_atom,
  d_is_atom := ⟨_, fun_mk (st := s_is_atom) zl_is_atom zd_is_atom zk_is_atom, (fun_mk (st := s_is_atom) zl_is_atom zd_is_atom zk_is_atom).binds (ps := ["thing"]) fun _ _ _ _ _ _ us hl => match us, hl with | [_], _ => rfl⟩,
  g_is_brand := PySem.W.mg_of X G za_is_brand,
  k_is_brand := zk_is_brand,
  d_is_brand := ⟨_, fun_mk (st := s_is_brand) zl_is_brand zd_is_brand zk_is_brand, (fun_mk (st := s_is_brand) zl_is_brand zd_is_brand zk_is_brand).binds (ps := ["thing"]) fun _ _ _ _ _ _ us hl => match us, hl with | [_], _ => rfl⟩,
  g_holds_value := PySem.W.mg_of X G za_holds_value,
  k_holds_value := zk_holds_value,
  d_holds_value := ⟨_, fun_mk (st := s_holds_value) zl_holds_value zd_holds_value zk_holds_value, (fun_mk (st := s_holds_value) zl_holds_value zd_holds_value zk_holds_value).binds (ps := ["thing"]) fun _ _ _ _ _ _ us hl => match us, hl with | [_], _ => rfl⟩,
  g_check_value := PySem.W.mg_of X G za_check_value,
  k_check_value := zk_check_value,
  d_check_value := ⟨_, fun_mk (st := s_check_value) zl_check_value zd_check_value zk_check_value, (fun_mk (st := s_check_value) zl_check_value zd_check_value zk_check_value).binds (ps := ["value"]) fun _ _ _ _ _ _ us hl => match us, hl with | [_], _ => rfl⟩,
  g_check_key := PySem.W.mg_of X G za_check_key,
  k_check_key := zk_check_key,
  d_check_key := ⟨_, fun_mk (st := s_check_key) zl_check_key zd_check_key zk_check_key, (fun_mk (st := s_check_key) zl_check_key zd_check_key zk_check_key).binds (ps := ["key"]) fun _ _ _ _ _ _ us hl => match us, hl with | [_], _ => rfl⟩,
  g_check_label := PySem.W.mg_of X G za_check_label,
  k_check_label := zk_check_label,
  d_check_label := ⟨_, fun_mk (st := s_check_label) zl_check_label zd_check_label zk_check_label, (fun_mk (st := s_check_label) zl_check_label zd_check_label zk_check_label).binds (ps := ["label"]) fun _ _ _ _ _ _ us hl => match us, hl with | [_], _ => rfl⟩,
  k_Node_shape := zk_Node_shape,
  d_Node_shape := ⟨_, fun_mk (st := s_Node_shape) zl_Node_shape zd_Node_shape zk_Node_shape, (fun_mk (st := s_Node_shape) zl_Node_shape zd_Node_shape zk_Node_shape).binds (ps := ["self"]) fun _ _ _ _ _ _ us hl => match us, hl with | [_], _ => rfl⟩,
  k_Node_children := zk_Node_children,
  d_Node_children := ⟨_, fun_mk (st := s_Node_children) zl_Node_children zd_Node_children zk_Node_children, (fun_mk (st := s_Node_children) zl_Node_children zd_Node_children zk_Node_children).binds (ps := ["self"]) fun _ _ _ _ _ _ us hl => match us, hl with | [_], _ => rfl⟩,
  k_Sequence___init__ := zk_Sequence___init__,
  d_Sequence___init__ := ⟨⟨_, _, _, _, _, _, _, _, _, _, zl_Sequence___init__, zd_Sequence___init__, StX.bind_star1 (B := fun l => bindArgs _ ⟨l, []⟩) (fun _ => rfl) (fun _ _ _ => rfl)⟩⟩,
  k_Sequence_parts := zk_Sequence_parts,
  d_Sequence_parts := ⟨_, fun_mk (st := s_Sequence_parts) zl_Sequence_parts zd_Sequence_parts zk_Sequence_parts, (fun_mk (st := s_Sequence_parts) zl_Sequence_parts zd_Sequence_parts zk_Sequence_parts).binds (ps := ["self"]) fun _ _ _ _ _ _ us hl => match us, hl with | [_], _ => rfl⟩,
  k_Sequence_children := zk_Sequence_children,
  d_Sequence_children := ⟨_, fun_mk (st := s_Sequence_children) zl_Sequence_children zd_Sequence_children zk_Sequence_children, (fun_mk (st := s_Sequence_children) zl_Sequence_children zd_Sequence_children zk_Sequence_children).binds (ps := ["self"]) fun _ _ _ _ _ _ us hl => match us, hl with | [_], _ => rfl⟩,
  k_Row_of := zk_Row_of,
  d_Row_of := ⟨_, fun_mk (st := s_Row_of) zl_Row_of zd_Row_of zk_Row_of, (fun_mk (st := s_Row_of) zl_Row_of zd_Row_of zk_Row_of).binds (ps := ["cls", "parts"]) fun _ _ _ _ _ _ us hl => match us, hl with | [_, _], _ => rfl⟩,
  k_Row_shape := zk_Row_shape,
  d_Row_shape := ⟨_, fun_mk (st := s_Row_shape) zl_Row_shape zd_Row_shape zk_Row_shape, (fun_mk (st := s_Row_shape) zl_Row_shape zd_Row_shape zk_Row_shape).binds (ps := ["self"]) fun _ _ _ _ _ _ us hl => match us, hl with | [_], _ => rfl⟩,
  k_Row_put_last := zk_Row_put_last,
  d_Row_put_last := ⟨_, fun_mk (st := s_Row_put_last) zl_Row_put_last zd_Row_put_last zk_Row_put_last, (fun_mk (st := s_Row_put_last) zl_Row_put_last zd_Row_put_last zk_Row_put_last).binds (ps := ["self", "value"]) fun _ _ _ _ _ _ us hl => match us, hl with | [_, _], _ => rfl⟩,
  k_Row_put_at := zk_Row_put_at,
  d_Row_put_at := ⟨_, fun_mk (st := s_Row_put_at) zl_Row_put_at zd_Row_put_at zk_Row_put_at, (fun_mk (st := s_Row_put_at) zl_Row_put_at zd_Row_put_at zk_Row_put_at).binds (ps := ["self", "index", "value"]) fun _ _ _ _ _ _ us hl => match us, hl with | [_, _, _], _ => rfl⟩,
  k_Book___init__ := zk_Book___init__,
  d_Book___init__ := ⟨_, fun_mk (st := s_Book___init__) zl_Book___init__ zd_Book___init__ zk_Book___init__, (fun_mk (st := s_Book___init__) zl_Book___init__ zd_Book___init__ zk_Book___init__).binds (ps := ["self"]) fun _ _ _ _ _ _ us hl => match us, hl with | [_], _ => rfl⟩,
  k_Book_of := zk_Book_of,
  d_Book_of := ⟨_, fun_mk (st := s_Book_of) zl_Book_of zd_Book_of zk_Book_of, (fun_mk (st := s_Book_of) zl_Book_of zd_Book_of zk_Book_of).binds (ps := ["cls", "pairs"]) fun _ _ _ _ _ _ us hl => match us, hl with | [_, _], _ => rfl⟩,
  k_Book_shape := zk_Book_shape,
  d_Book_shape := ⟨_, fun_mk (st := s_Book_shape) zl_Book_shape zd_Book_shape zk_Book_shape, (fun_mk (st := s_Book_shape) zl_Book_shape zd_Book_shape zk_Book_shape).binds (ps := ["self"]) fun _ _ _ _ _ _ us hl => match us, hl with | [_], _ => rfl⟩,
  k_Book_pairs := zk_Book_pairs,
  d_Book_pairs := ⟨_, fun_mk (st := s_Book_pairs) zl_Book_pairs zd_Book_pairs zk_Book_pairs, (fun_mk (st := s_Book_pairs) zl_Book_pairs zd_Book_pairs zk_Book_pairs).binds (ps := ["self"]) fun _ _ _ _ _ _ us hl => match us, hl with | [_], _ => rfl⟩,
  k_Book_children := zk_Book_children,
  d_Book_children := ⟨_, fun_mk (st := s_Book_children) zl_Book_children zd_Book_children zk_Book_children, (fun_mk (st := s_Book_children) zl_Book_children zd_Book_children zk_Book_children).binds (ps := ["self"]) fun _ _ _ _ _ _ us hl => match us, hl with | [_], _ => rfl⟩,
  k_Book_enter := zk_Book_enter,
  d_Book_enter := ⟨_, fun_mk (st := s_Book_enter) zl_Book_enter zd_Book_enter zk_Book_enter, (fun_mk (st := s_Book_enter) zl_Book_enter zd_Book_enter zk_Book_enter).binds (ps := ["self", "key", "value"]) fun _ _ _ _ _ _ us hl => match us, hl with | [_, _, _], _ => rfl⟩,
  k_Book_check_entry := zk_Book_check_entry,
  d_Book_check_entry := ⟨_, fun_mk (st := s_Book_check_entry) zl_Book_check_entry zd_Book_check_entry zk_Book_check_entry, (fun_mk (st := s_Book_check_entry) zl_Book_check_entry zd_Book_check_entry zk_Book_check_entry).binds (ps := ["self", "key"]) fun _ _ _ _ _ _ us hl => match us, hl with | [_, _], _ => rfl⟩,
  k_Book_change := zk_Book_change,
  d_Book_change := ⟨_, fun_mk (st := s_Book_change) zl_Book_change zd_Book_change zk_Book_change, (fun_mk (st := s_Book_change) zl_Book_change zd_Book_change zk_Book_change).binds (ps := ["self", "key", "value"]) fun _ _ _ _ _ _ us hl => match us, hl with | [_, _, _], _ => rfl⟩,
  k_Book_value_of := zk_Book_value_of,
  d_Book_value_of := ⟨_, fun_mk (st := s_Book_value_of) zl_Book_value_of zd_Book_value_of zk_Book_value_of, (fun_mk (st := s_Book_value_of) zl_Book_value_of zd_Book_value_of zk_Book_value_of).binds (ps := ["self", "key"]) fun _ _ _ _ _ _ us hl => match us, hl with | [_, _], _ => rfl⟩,
  k_Thing___init__ := zk_Thing___init__,
  d_Thing___init__ := ⟨_, fun_mk (st := s_Thing___init__) zl_Thing___init__ zd_Thing___init__ zk_Thing___init__, (fun_mk (st := s_Thing___init__) zl_Thing___init__ zd_Thing___init__ zk_Thing___init__).binds (ps := ["self", "brand"]) fun _ _ _ _ _ _ us hl => match us, hl with | [_, _], _ => rfl⟩,
  k_Thing_shape := zk_Thing_shape,
  d_Thing_shape := ⟨_, fun_mk (st := s_Thing_shape) zl_Thing_shape zd_Thing_shape zk_Thing_shape, (fun_mk (st := s_Thing_shape) zl_Thing_shape zd_Thing_shape zk_Thing_shape).binds (ps := ["self"]) fun _ _ _ _ _ _ us hl => match us, hl with | [_], _ => rfl⟩,
  k_Thing_brand := zk_Thing_brand,
  d_Thing_brand := ⟨_, fun_mk (st := s_Thing_brand) zl_Thing_brand zd_Thing_brand zk_Thing_brand, (fun_mk (st := s_Thing_brand) zl_Thing_brand zd_Thing_brand zk_Thing_brand).binds (ps := ["self"]) fun _ _ _ _ _ _ us hl => match us, hl with | [_], _ => rfl⟩,
  k_Thing_fields := zk_Thing_fields,
  d_Thing_fields := ⟨_, fun_mk (st := s_Thing_fields) zl_Thing_fields zd_Thing_fields zk_Thing_fields, (fun_mk (st := s_Thing_fields) zl_Thing_fields zd_Thing_fields zk_Thing_fields).binds (ps := ["self"]) fun _ _ _ _ _ _ us hl => match us, hl with | [_], _ => rfl⟩,
  k_Thing_children := zk_Thing_children,
  d_Thing_children := ⟨_, fun_mk (st := s_Thing_children) zl_Thing_children zd_Thing_children zk_Thing_children, (fun_mk (st := s_Thing_children) zl_Thing_children zd_Thing_children zk_Thing_children).binds (ps := ["self"]) fun _ _ _ _ _ _ us hl => match us, hl with | [_], _ => rfl⟩,
  k_Thing_set_field := zk_Thing_set_field,
  d_Thing_set_field := ⟨_, fun_mk (st := s_Thing_set_field) zl_Thing_set_field zd_Thing_set_field zk_Thing_set_field, (fun_mk (st := s_Thing_set_field) zl_Thing_set_field zd_Thing_set_field zk_Thing_set_field).binds (ps := ["self", "label", "value"]) fun _ _ _ _ _ _ us hl => match us, hl with | [_, _, _], _ => rfl⟩,
  k_Thing_field := zk_Thing_field,
  d_Thing_field := ⟨_, fun_mk (st := s_Thing_field) zl_Thing_field zd_Thing_field zk_Thing_field, (fun_mk (st := s_Thing_field) zl_Thing_field zd_Thing_field zk_Thing_field).binds (ps := ["self", "label"]) fun _ _ _ _ _ _ us hl => match us, hl with | [_, _], _ => rfl⟩,
  g_check_labels := PySem.W.mg_of X G za_check_labels,
  k_check_labels := zk_check_labels,
  d_check_labels := ⟨_, fun_mk (st := s_check_labels) zl_check_labels zd_check_labels zk_check_labels, (fun_mk (st := s_check_labels) zl_check_labels zd_check_labels zk_check_labels).binds (ps := ["labels"]) fun _ _ _ _ _ _ us hl => match us, hl with | [_], _ => rfl⟩,
  k_Fields___init__ := zk_Fields___init__,
  d_Fields___init__ := ⟨⟨_, _, _, _, _, _, _, _, _, _, zl_Fields___init__, zd_Fields___init__, fun us rest hl => match us, rest, hl with | [u0, u1], [], _ => rfl | [u0, u1], _ :: _, _ => rfl⟩⟩,
  k_Fields___call__ := zk_Fields___call__,
  d_Fields___call__ := ⟨_, fun_mk (st := s_Fields___call__) zl_Fields___call__ zd_Fields___call__ zk_Fields___call__, (fun_mk (st := s_Fields___call__) zl_Fields___call__ zd_Fields___call__ zk_Fields___call__).binds (ps := ["self", "arguments"]) fun _ _ _ _ _ _ us hl => match us, hl with | [_, _], _ => rfl⟩,
  k_Single___init__ := zk_Single___init__,
  d_Single___init__ := ⟨_, fun_mk (st := s_Single___init__) zl_Single___init__ zd_Single___init__ zk_Single___init__, (fun_mk (st := s_Single___init__) zl_Single___init__ zd_Single___init__ zk_Single___init__).binds (ps := ["self", "thing"]) fun _ _ _ _ _ _ us hl => match us, hl with | [_, _], _ => rfl⟩,
  k_Single___call__ := zk_Single___call__,
  d_Single___call__ := ⟨_, fun_mk (st := s_Single___call__) zl_Single___call__ zd_Single___call__ zk_Single___call__, (fun_mk (st := s_Single___call__) zl_Single___call__ zd_Single___call__ zk_Single___call__).binds (ps := ["self", "arguments"]) fun _ _ _ _ _ _ us hl => match us, hl with | [_, _], _ => rfl⟩,
  k_Parts___init__ := zk_Parts___init__,
  d_Parts___init__ := ⟨⟨_, _, _, _, _, _, _, _, _, _, zl_Parts___init__, zd_Parts___init__, StX.bind_star1 (B := fun l => bindArgs _ ⟨l, []⟩) (fun _ => rfl) (fun _ _ _ => rfl)⟩⟩,
  k_Parts___call__ := zk_Parts___call__,
  d_Parts___call__ := ⟨_, fun_mk (st := s_Parts___call__) zl_Parts___call__ zd_Parts___call__ zk_Parts___call__, (fun_mk (st := s_Parts___call__) zl_Parts___call__ zd_Parts___call__ zk_Parts___call__).binds (ps := ["self", "thing"]) fun _ _ _ _ _ _ us hl => match us, hl with | [_, _], _ => rfl⟩,
  k_Whole___call__ := zk_Whole___call__,
  d_Whole___call__ := ⟨_, fun_mk (st := s_Whole___call__) zl_Whole___call__ zd_Whole___call__ zk_Whole___call__, (fun_mk (st := s_Whole___call__) zl_Whole___call__ zd_Whole___call__ zk_Whole___call__).binds (ps := ["self", "thing"]) fun _ _ _ _ _ _ us hl => match us, hl with | [_, _], _ => rfl⟩,
  k_Refill___call__ := zk_Refill___call__,
  d_Refill___call__ := ⟨_, fun_mk (st := s_Refill___call__) zl_Refill___call__ zd_Refill___call__ zk_Refill___call__, (fun_mk (st := s_Refill___call__) zl_Refill___call__ zd_Refill___call__ zk_Refill___call__).binds (ps := ["self", "thing", "state"]) fun _ _ _ _ _ _ us hl => match us, hl with | [_, _, _], _ => rfl⟩,
  g__law_begin := PySem.W.mg_of X G za__law_begin,
  k__law_begin := zk__law_begin,
  d__law_begin := ⟨_, fun_mk (st := s__law_begin) zl__law_begin zd__law_begin zk__law_begin, (fun_mk (st := s__law_begin) zl__law_begin zd__law_begin zk__law_begin).binds (ps := ["script"]) fun _ _ _ _ _ _ us hl => match us, hl with | [_], _ => rfl⟩,
  g__law_mixed := PySem.W.mg_of X G za__law_mixed,
  k__law_mixed := zk__law_mixed,
  d__law_mixed := ⟨_, fun_mk (st := s__law_mixed) zl__law_mixed zd__law_mixed zk__law_mixed, (fun_mk (st := s__law_mixed) zl__law_mixed zd__law_mixed zk__law_mixed).binds (ps := ["cell", "k"]) fun _ _ _ _ _ _ us hl => match us, hl with | [_, _], _ => rfl⟩,
  g__law_next := PySem.W.mg_of X G za__law_next,
  k__law_next := zk__law_next,
  d__law_next := ⟨_, fun_mk (st := s__law_next) zl__law_next zd__law_next zk__law_next, (fun_mk (st := s__law_next) zl__law_next zd__law_next zk__law_next).binds (ps := ["draw", "bound"]) fun _ _ _ _ _ _ us hl => match us, hl with | [_, _], _ => rfl⟩,
  g__law_atom := PySem.W.mg_of X G za__law_atom,
  k__law_atom := zk__law_atom,
  d__law_atom := ⟨_, fun_mk (st := s__law_atom) zl__law_atom zd__law_atom zk__law_atom, (fun_mk (st := s__law_atom) zl__law_atom zd__law_atom zk__law_atom).binds (ps := ["draw"]) fun _ _ _ _ _ _ us hl => match us, hl with | [_], _ => rfl⟩,
  g__law_labels := PySem.W.mg_of X G za__law_labels,
  k__law_labels := zk__law_labels,
  d__law_labels := ⟨_, fun_mk (st := s__law_labels) zl__law_labels zd__law_labels zk__law_labels, (fun_mk (st := s__law_labels) zl__law_labels zd__law_labels zk__law_labels).binds (ps := ["draw", "many"]) fun _ _ _ _ _ _ us hl => match us, hl with | [_, _], _ => rfl⟩,
  g__law_thing := PySem.W.mg_of X G za__law_thing,
  k__law_thing := zk__law_thing,
  d__law_thing := ⟨_, fun_mk (st := s__law_thing) zl__law_thing zd__law_thing zk__law_thing, (fun_mk (st := s__law_thing) zl__law_thing zd__law_thing zk__law_thing).binds (ps := ["draw", "most"]) fun _ _ _ _ _ _ us hl => match us, hl with | [_, _], _ => rfl⟩,
  g__law_like := PySem.W.mg_of X G za__law_like,
  k__law_like := zk__law_like,
  d__law_like := ⟨_, fun_mk (st := s__law_like) zl__law_like zd__law_like zk__law_like, (fun_mk (st := s__law_like) zl__law_like zd__law_like zk__law_like).binds (ps := ["pairs_here", "others"]) fun _ _ _ _ _ _ us hl => match us, hl with | [_, _], _ => rfl⟩,
  g__law_fields_right := PySem.W.mg_of X G za__law_fields_right,
  k__law_fields_right := zk__law_fields_right,
  d__law_fields_right := ⟨_, fun_mk (st := s__law_fields_right) zl__law_fields_right zd__law_fields_right zk__law_fields_right, (fun_mk (st := s__law_fields_right) zl__law_fields_right zd__law_fields_right zk__law_fields_right).binds (ps := ["draw", "words", "items"]) fun _ _ _ _ _ _ us hl => match us, hl with | [_, _, _], _ => rfl⟩,
  g__law_taken_right := PySem.W.mg_of X G za__law_taken_right,
  k__law_taken_right := zk__law_taken_right,
  d__law_taken_right := ⟨_, fun_mk (st := s__law_taken_right) zl__law_taken_right zd__law_taken_right zk__law_taken_right, (fun_mk (st := s__law_taken_right) zl__law_taken_right zd__law_taken_right zk__law_taken_right).binds (ps := ["made", "pairs_here", "words"]) fun _ _ _ _ _ _ us hl => match us, hl with | [_, _, _], _ => rfl⟩,
  g__law_refilled_right := PySem.W.mg_of X G za__law_refilled_right,
  k__law_refilled_right := zk__law_refilled_right,
  d__law_refilled_right := ⟨_, fun_mk (st := s__law_refilled_right) zl__law_refilled_right zd__law_refilled_right zk__law_refilled_right, (fun_mk (st := s__law_refilled_right) zl__law_refilled_right zd__law_refilled_right zk__law_refilled_right).binds (ps := ["draw", "made", "pairs_here"]) fun _ _ _ _ _ _ us hl => match us, hl with | [_, _, _], _ => rfl⟩,
  g_law := PySem.W.mg_of X G za_law,
  k_law := zk_law,
  d_law := ⟨_, fun_mk (st := s_law) zl_law zd_law zk_law, (fun_mk (st := s_law) zl_law zd_law zk_law).binds (ps := ["script"]) fun _ _ _ _ _ _ us hl => match us, hl with | [_], _ => rfl⟩,
  g_JarError := PySem.W.mg_of X G za_JarError,
  x_JarError := zx_JarError,
  t_JarError := zt_JarError,
  h_JarError := zh_JarError,
  g_InvalidValue := PySem.W.mg_of X G za_InvalidValue,
  x_InvalidValue := zx_InvalidValue,
  t_InvalidValue := zt_InvalidValue,
  h_InvalidValue := zh_InvalidValue,
  n_InvalidValue_value := zn_InvalidValue_value,
  k_InvalidValue := zk_InvalidValue,
  e_InvalidValue := ⟨famV, PySem.W.mg_of X G za_InvalidValue, zi_InvalidValue, zo_InvalidValue, zh_InvalidValue, zI_InvalidValue, zf_InvalidValue, zs_InvalidValue, zB_InvalidValue, zST_InvalidValue, PySem.W.mg_none_of X G zb_super, zA_InvalidValue, (by intro f hf; rcases List.mem_cons.mp hf with rfl | hf; exact zT_InvalidValue_value; cases hf), ⟨_, _, _, zC_InvalidValue⟩, ⟨_, _, _, _, _, zD_InvalidValue, zE_InvalidValue⟩, zM_InvalidValue, Option.isSome_iff_exists.mp zN_InvalidValue, zP_InvalidValue⟩,
  i_InvalidValue := ⟨⟨_, _, _, _, _, _, _, _, _, ⟨9, 17, 9, 21⟩, [⟨9, 23, 9, 28⟩], _, _, _, _, _, [("value", ⟨11, 8, 11, 12⟩, ⟨11, 8, 11, 18⟩, ⟨11, 21, 11, 26⟩, ⟨11, 8, 11, 26⟩)], zl_InvalidValue, rfl, rfl, rfl⟩, zq_InvalidValue, (by decide +kernel), by decide +kernel, ⟨(fun z => nomatch z), by decide⟩, (by rintro fd ⟨oc, od, osl, h⟩ u us hl; have q := h.symm.trans zl_InvalidValue; cases q; exact match us, hl with | [_], _ => rfl)⟩,
  R_InvalidValue := ⟨zN_InvalidValue, zga_InvalidValue, zgg_InvalidValue, zx_InvalidValue, zcc_InvalidValue, zcg_InvalidValue, zct_InvalidValue, zmo_InvalidValue, zh_InvalidValue⟩,
  g_InvalidKey := PySem.W.mg_of X G za_InvalidKey,
  x_InvalidKey := zx_InvalidKey,
  t_InvalidKey := zt_InvalidKey,
  h_InvalidKey := zh_InvalidKey,
  n_InvalidKey_key := zn_InvalidKey_key,
  k_InvalidKey := zk_InvalidKey,
  e_InvalidKey := ⟨famV, PySem.W.mg_of X G za_InvalidKey, zi_InvalidKey, zo_InvalidKey, zh_InvalidKey, zI_InvalidKey, zf_InvalidKey, zs_InvalidKey, zB_InvalidKey, zST_InvalidKey, PySem.W.mg_none_of X G zb_super, zA_InvalidKey, (by intro f hf; rcases List.mem_cons.mp hf with rfl | hf; exact zT_InvalidKey_key; cases hf), ⟨_, _, _, zC_InvalidKey⟩, ⟨_, _, _, _, _, zD_InvalidKey, zE_InvalidKey⟩, zM_InvalidKey, Option.isSome_iff_exists.mp zN_InvalidKey, zP_InvalidKey⟩,
  i_InvalidKey := ⟨⟨_, _, _, _, _, _, _, _, _, ⟨19, 17, 19, 21⟩, [⟨19, 23, 19, 26⟩], _, _, _, _, _, [("key", ⟨21, 8, 21, 12⟩, ⟨21, 8, 21, 16⟩, ⟨21, 19, 21, 22⟩, ⟨21, 8, 21, 22⟩)], zl_InvalidKey, rfl, rfl, rfl⟩, zq_InvalidKey, (by decide +kernel), by decide +kernel, ⟨(fun z => nomatch z), by decide⟩, (by rintro fd ⟨oc, od, osl, h⟩ u us hl; have q := h.symm.trans zl_InvalidKey; cases q; exact match us, hl with | [_], _ => rfl)⟩,
  R_InvalidKey := ⟨zN_InvalidKey, zga_InvalidKey, zgg_InvalidKey, zx_InvalidKey, zcc_InvalidKey, zcg_InvalidKey, zct_InvalidKey, zmo_InvalidKey, zh_InvalidKey⟩,
  g_InvalidBrand := PySem.W.mg_of X G za_InvalidBrand,
  x_InvalidBrand := zx_InvalidBrand,
  t_InvalidBrand := zt_InvalidBrand,
  h_InvalidBrand := zh_InvalidBrand,
  n_InvalidBrand_given := zn_InvalidBrand_given,
  k_InvalidBrand := zk_InvalidBrand,
  e_InvalidBrand := ⟨famV, PySem.W.mg_of X G za_InvalidBrand, zi_InvalidBrand, zo_InvalidBrand, zh_InvalidBrand, zI_InvalidBrand, zf_InvalidBrand, zs_InvalidBrand, zB_InvalidBrand, zST_InvalidBrand, PySem.W.mg_none_of X G zb_super, zA_InvalidBrand, (by intro f hf; rcases List.mem_cons.mp hf with rfl | hf; exact zT_InvalidBrand_given; cases hf), ⟨_, _, _, zC_InvalidBrand⟩, ⟨_, _, _, _, _, zD_InvalidBrand, zE_InvalidBrand⟩, zM_InvalidBrand, Option.isSome_iff_exists.mp zN_InvalidBrand, zP_InvalidBrand⟩,
  i_InvalidBrand := ⟨⟨_, _, _, _, _, _, _, _, _, ⟨24, 17, 24, 21⟩, [⟨24, 23, 24, 28⟩], _, _, _, _, _, [("given", ⟨26, 8, 26, 12⟩, ⟨26, 8, 26, 18⟩, ⟨26, 21, 26, 26⟩, ⟨26, 8, 26, 26⟩)], zl_InvalidBrand, rfl, rfl, rfl⟩, zq_InvalidBrand, (by decide +kernel), by decide +kernel, ⟨(fun z => nomatch z), by decide⟩, (by rintro fd ⟨oc, od, osl, h⟩ u us hl; have q := h.symm.trans zl_InvalidBrand; cases q; exact match us, hl with | [_], _ => rfl)⟩,
  R_InvalidBrand := ⟨zN_InvalidBrand, zga_InvalidBrand, zgg_InvalidBrand, zx_InvalidBrand, zcc_InvalidBrand, zcg_InvalidBrand, zct_InvalidBrand, zmo_InvalidBrand, zh_InvalidBrand⟩,
  g_StateError := PySem.W.mg_of X G za_StateError,
  x_StateError := zx_StateError,
  t_StateError := zt_StateError,
  h_StateError := zh_StateError,
  g_KeyTaken := PySem.W.mg_of X G za_KeyTaken,
  x_KeyTaken := zx_KeyTaken,
  t_KeyTaken := zt_KeyTaken,
  h_KeyTaken := zh_KeyTaken,
  n_KeyTaken_key := zn_KeyTaken_key,
  k_KeyTaken := zk_KeyTaken,
  e_KeyTaken := ⟨famR, PySem.W.mg_of X G za_KeyTaken, zi_KeyTaken, zo_KeyTaken, zh_KeyTaken, zI_KeyTaken, zf_KeyTaken, zs_KeyTaken, zB_KeyTaken, zST_KeyTaken, PySem.W.mg_none_of X G zb_super, zA_KeyTaken, (by intro f hf; rcases List.mem_cons.mp hf with rfl | hf; exact zT_KeyTaken_key; cases hf), ⟨_, _, _, zC_KeyTaken⟩, ⟨_, _, _, _, _, zD_KeyTaken, zE_KeyTaken⟩, zM_KeyTaken, Option.isSome_iff_exists.mp zN_KeyTaken, zP_KeyTaken⟩,
  i_KeyTaken := ⟨⟨_, _, _, _, _, _, _, _, _, ⟨31, 17, 31, 21⟩, [⟨31, 23, 31, 26⟩], _, _, _, _, _, [("key", ⟨33, 8, 33, 12⟩, ⟨33, 8, 33, 16⟩, ⟨33, 19, 33, 22⟩, ⟨33, 8, 33, 22⟩)], zl_KeyTaken, rfl, rfl, rfl⟩, zq_KeyTaken, (by decide +kernel), by decide +kernel, ⟨(fun z => nomatch z), by decide⟩, (by rintro fd ⟨oc, od, osl, h⟩ u us hl; have q := h.symm.trans zl_KeyTaken; cases q; exact match us, hl with | [_], _ => rfl)⟩,
  R_KeyTaken := ⟨zN_KeyTaken, zga_KeyTaken, zgg_KeyTaken, zx_KeyTaken, zcc_KeyTaken, zcg_KeyTaken, zct_KeyTaken, zmo_KeyTaken, zh_KeyTaken⟩,
  g_MissingError := PySem.W.mg_of X G za_MissingError,
  x_MissingError := zx_MissingError,
  t_MissingError := zt_MissingError,
  h_MissingError := zh_MissingError,
  g_NoEntry := PySem.W.mg_of X G za_NoEntry,
  x_NoEntry := zx_NoEntry,
  t_NoEntry := zt_NoEntry,
  h_NoEntry := zh_NoEntry,
  n_NoEntry_key := zn_NoEntry_key,
  k_NoEntry := zk_NoEntry,
  e_NoEntry := ⟨famL, PySem.W.mg_of X G za_NoEntry, zi_NoEntry, zo_NoEntry, zh_NoEntry, zI_NoEntry, zf_NoEntry, zs_NoEntry, zB_NoEntry, zST_NoEntry, PySem.W.mg_none_of X G zb_super, zA_NoEntry, (by intro f hf; rcases List.mem_cons.mp hf with rfl | hf; exact zT_NoEntry_key; cases hf), ⟨_, _, _, zC_NoEntry⟩, ⟨_, _, _, _, _, zD_NoEntry, zE_NoEntry⟩, zM_NoEntry, Option.isSome_iff_exists.mp zN_NoEntry, zP_NoEntry⟩,
  i_NoEntry := ⟨⟨_, _, _, _, _, _, _, _, _, ⟨38, 17, 38, 21⟩, [⟨38, 23, 38, 26⟩], _, _, _, _, _, [("key", ⟨40, 8, 40, 12⟩, ⟨40, 8, 40, 16⟩, ⟨40, 19, 40, 22⟩, ⟨40, 8, 40, 22⟩)], zl_NoEntry, rfl, rfl, rfl⟩, zq_NoEntry, (by decide +kernel), by decide +kernel, ⟨(fun z => nomatch z), by decide⟩, (by rintro fd ⟨oc, od, osl, h⟩ u us hl; have q := h.symm.trans zl_NoEntry; cases q; exact match us, hl with | [_], _ => rfl)⟩,
  R_NoEntry := ⟨zN_NoEntry, zga_NoEntry, zgg_NoEntry, zx_NoEntry, zcc_NoEntry, zcg_NoEntry, zct_NoEntry, zmo_NoEntry, zh_NoEntry⟩,
  u_InvalidValue_JarError := zu_InvalidValue_JarError,
  v_InvalidValue_JarError := zv_InvalidValue_JarError,
  u_InvalidValue_StateError := zu_InvalidValue_StateError,
  v_InvalidValue_StateError := zv_InvalidValue_StateError,
  u_InvalidValue_MissingError := zu_InvalidValue_MissingError,
  v_InvalidValue_MissingError := zv_InvalidValue_MissingError,
  u_InvalidKey_JarError := zu_InvalidKey_JarError,
  v_InvalidKey_JarError := zv_InvalidKey_JarError,
  u_InvalidKey_StateError := zu_InvalidKey_StateError,
  v_InvalidKey_StateError := zv_InvalidKey_StateError,
  u_InvalidKey_MissingError := zu_InvalidKey_MissingError,
  v_InvalidKey_MissingError := zv_InvalidKey_MissingError,
  u_InvalidBrand_JarError := zu_InvalidBrand_JarError,
  v_InvalidBrand_JarError := zv_InvalidBrand_JarError,
  u_InvalidBrand_StateError := zu_InvalidBrand_StateError,
  v_InvalidBrand_StateError := zv_InvalidBrand_StateError,
  u_InvalidBrand_MissingError := zu_InvalidBrand_MissingError,
  v_InvalidBrand_MissingError := zv_InvalidBrand_MissingError,
  u_KeyTaken_JarError := zu_KeyTaken_JarError,
  v_KeyTaken_JarError := zv_KeyTaken_JarError,
  u_KeyTaken_StateError := zu_KeyTaken_StateError,
  v_KeyTaken_StateError := zv_KeyTaken_StateError,
  u_KeyTaken_MissingError := zu_KeyTaken_MissingError,
  v_KeyTaken_MissingError := zv_KeyTaken_MissingError,
  u_NoEntry_JarError := zu_NoEntry_JarError,
  v_NoEntry_JarError := zv_NoEntry_JarError,
  u_NoEntry_StateError := zu_NoEntry_StateError,
  v_NoEntry_StateError := zv_NoEntry_StateError,
  u_NoEntry_MissingError := zu_NoEntry_MissingError,
  v_NoEntry_MissingError := zv_NoEntry_MissingError,
  u_InvalidValue_InvalidValue := zu_InvalidValue_InvalidValue,
  v_InvalidValue_InvalidValue := zv_InvalidValue_InvalidValue,
  u_InvalidValue_InvalidKey := zu_InvalidValue_InvalidKey,
  v_InvalidValue_InvalidKey := zv_InvalidValue_InvalidKey,
  u_InvalidValue_InvalidBrand := zu_InvalidValue_InvalidBrand,
  v_InvalidValue_InvalidBrand := zv_InvalidValue_InvalidBrand,
  u_InvalidValue_KeyTaken := zu_InvalidValue_KeyTaken,
  v_InvalidValue_KeyTaken := zv_InvalidValue_KeyTaken,
  u_InvalidValue_NoEntry := zu_InvalidValue_NoEntry,
  v_InvalidValue_NoEntry := zv_InvalidValue_NoEntry,
  u_InvalidKey_InvalidValue := zu_InvalidKey_InvalidValue,
  v_InvalidKey_InvalidValue := zv_InvalidKey_InvalidValue,
  u_InvalidKey_InvalidKey := zu_InvalidKey_InvalidKey,
  v_InvalidKey_InvalidKey := zv_InvalidKey_InvalidKey,
  u_InvalidKey_InvalidBrand := zu_InvalidKey_InvalidBrand,
  v_InvalidKey_InvalidBrand := zv_InvalidKey_InvalidBrand,
  u_InvalidKey_KeyTaken := zu_InvalidKey_KeyTaken,
  v_InvalidKey_KeyTaken := zv_InvalidKey_KeyTaken,
  u_InvalidKey_NoEntry := zu_InvalidKey_NoEntry,
  v_InvalidKey_NoEntry := zv_InvalidKey_NoEntry,
  u_InvalidBrand_InvalidValue := zu_InvalidBrand_InvalidValue,
  v_InvalidBrand_InvalidValue := zv_InvalidBrand_InvalidValue,
  u_InvalidBrand_InvalidKey := zu_InvalidBrand_InvalidKey,
  v_InvalidBrand_InvalidKey := zv_InvalidBrand_InvalidKey,
  u_InvalidBrand_InvalidBrand := zu_InvalidBrand_InvalidBrand,
  v_InvalidBrand_InvalidBrand := zv_InvalidBrand_InvalidBrand,
  u_InvalidBrand_KeyTaken := zu_InvalidBrand_KeyTaken,
  v_InvalidBrand_KeyTaken := zv_InvalidBrand_KeyTaken,
  u_InvalidBrand_NoEntry := zu_InvalidBrand_NoEntry,
  v_InvalidBrand_NoEntry := zv_InvalidBrand_NoEntry,
  u_KeyTaken_InvalidValue := zu_KeyTaken_InvalidValue,
  v_KeyTaken_InvalidValue := zv_KeyTaken_InvalidValue,
  u_KeyTaken_InvalidKey := zu_KeyTaken_InvalidKey,
  v_KeyTaken_InvalidKey := zv_KeyTaken_InvalidKey,
  u_KeyTaken_InvalidBrand := zu_KeyTaken_InvalidBrand,
  v_KeyTaken_InvalidBrand := zv_KeyTaken_InvalidBrand,
  u_KeyTaken_KeyTaken := zu_KeyTaken_KeyTaken,
  v_KeyTaken_KeyTaken := zv_KeyTaken_KeyTaken,
  u_KeyTaken_NoEntry := zu_KeyTaken_NoEntry,
  v_KeyTaken_NoEntry := zv_KeyTaken_NoEntry,
  u_NoEntry_InvalidValue := zu_NoEntry_InvalidValue,
  v_NoEntry_InvalidValue := zv_NoEntry_InvalidValue,
  u_NoEntry_InvalidKey := zu_NoEntry_InvalidKey,
  v_NoEntry_InvalidKey := zv_NoEntry_InvalidKey,
  u_NoEntry_InvalidBrand := zu_NoEntry_InvalidBrand,
  v_NoEntry_InvalidBrand := zv_NoEntry_InvalidBrand,
  u_NoEntry_KeyTaken := zu_NoEntry_KeyTaken,
  v_NoEntry_KeyTaken := zv_NoEntry_KeyTaken,
  u_NoEntry_NoEntry := zu_NoEntry_NoEntry,
  v_NoEntry_NoEntry := zv_NoEntry_NoEntry,
  w_NoneType := zz_w_NoneType,
  w_bool := zz_w_bool,
  w_int := zz_w_int,
  w_str := zz_w_str,
  w_list := zz_w_list,
  w_tuple := zz_w_tuple,
  w_dict := zz_w_dict,
  w_Row_Node := zz_w_Row_Node,
  w_Row_int := zz_w_Row_int,
  w_Row_bool := zz_w_Row_bool,
  w_Row_str := zz_w_Row_str,
  w_Row_tuple := zz_w_Row_tuple,
  wc_Row := zz_wc_Row,
  w_Book_Node := zz_w_Book_Node,
  w_Book_int := zz_w_Book_int,
  w_Book_bool := zz_w_Book_bool,
  w_Book_str := zz_w_Book_str,
  w_Book_tuple := zz_w_Book_tuple,
  wc_Book := zz_wc_Book,
  w_Thing_Node := zz_w_Thing_Node,
  w_Thing_int := zz_w_Thing_int,
  w_Thing_bool := zz_w_Thing_bool,
  w_Thing_str := zz_w_Thing_str,
  w_Thing_tuple := zz_w_Thing_tuple,
  wc_Thing := zz_wc_Thing,
  wg := zz_wg,
  wt := zz_wt,
  ne_Row := zz_ne_Row,
  ne_Book := zz_ne_Book,
  ne_Thing := zz_ne_Thing,
  w_Thing_Thing := zz_w_Thing_Thing,
  w_Thing_Book := zz_w_Thing_Book,
  w_Book_Thing := zz_w_Book_Thing,
  w_Book_Book := zz_w_Book_Book,
  ca_Fields := zz_ca_Fields,
  cf_Fields := zz_cf_Fields,
  ci_Fields := zz_ci_Fields,
  ca_Single := zz_ca_Single,
  cf_Single := zz_cf_Single,
  ci_Single := zz_ci_Single,
  ca_Parts := zz_ca_Parts,
  cf_Parts := zz_cf_Parts,
  ci_Parts := zz_ci_Parts,
  ca_Whole := zz_ca_Whole,
  cf_Whole := zz_cf_Whole,
  ci_Whole := zz_ci_Whole,
  ca_Refill := zz_ca_Refill,
  cf_Refill := zz_cf_Refill,
  ci_Refill := zz_ci_Refill,
  m0_Whole := zz_m0_Whole,
  i0_Whole := zz_i0_Whole,
  m0_Refill := zz_m0_Refill,
  i0_Refill := zz_i0_Refill }
end BJL
open PySem PySem.W PyProof.Rows
namespace BJL
open PySem PySem.W PySem.Calls PyProof.Rows HandSHeadRun
local macro_rules | `(tactic| o_headL $H) => `(tactic| (have hH := $H; contradiction))
set_option maxHeartbeats 0 in
theorem mk0 : False → PySem.Challenge.rw_brinejar_k14_ready_hooks.Holds := by
  intro hF; w_on; o_law; k_headL
abbrev R0 : OpenRow := OpenLaw.row PySem.Challenge.rw_brinejar_k14_ready_hooks
def q0 : Program := view R0.prog [63]
def names0 : List PySem.Str := ["_wall", "__name__", "JarError", "InvalidValue", "InvalidNumbers", "InvalidKey", "InvalidBrand", "StateError", "KeyTaken", "MissingError", "NoEntry", "MOST_INTEGER", "MOST_CHARACTERS", "MOST_NUMBERS", "MOST_BRAND", "BAG", "LETTERS", "OTHERS", "is_integer", "is_whole_atom", "is_text", "is_key", "is_atom", "is_brand", "is_octet", "holds_value", "check_value", "check_key", "check_label", "Node"]
def names1 : List PySem.Str := ["Octets", "Sequence", "Pack", "Row", "Book", "ascending", "Bag", "Thing", "check_labels", "Fields", "Single", "Parts", "Whole", "Refill", "_law_begin", "_law_mixed", "_law_next", "_law_atom", "_law_keys", "_law_labels", "_law_item", "_law_plan", "_law_picked", "_law_begun", "_law_built", "_law_thing", "_law_like", "_law_fields_right", "_law_taken_right", "_law_refilled_right"]
def names0s : List PySem.Str := names0 ++ names1
noncomputable def as0 : List Addr := (mk0.heap_39 BJ.anyP).map (·.1)
set_option maxHeartbeats 0 in
theorem run1 : BJ.Run1 R0 9000 := by intro w os; kernel_rfl
set_option maxHeartbeats 0 in
theorem run2 : BJ.Run2 R0 9000 q0 names0s := by intro w os; kernel_rfl
set_option maxHeartbeats 0 in
theorem run3 : BJ.Run3 R0 9000 as0 mk0.heap_39 := by intro w os; kernel_rfl
set_option maxHeartbeats 0 in
theorem as0_eq : ∀ P, as0 = (mk0.heap_39 P).map (·.1) := fun P => by kernel_rfl
end BJL
local macro_rules | `(tactic| walk_at "fact") => `(tactic| first | k_is | ks_is | (first | rfl | kernel_rfl | decide +kernel))
set_option maxHeartbeats 0 in
theorem BJL.facts0 (w : World) (mg : Str → Option Value) (h : Heap) (KX : (BJL.mk0.heap_39 w.params).In h) (G : h.Ns mainGlobals mg) : ∃ a : BJL.Adr, BJL.Txt PySem.Challenge.rw_brinejar_k14_ready_hooks.prog (BJL.mk0.heap_39 w.params) mg a := by
    refine ⟨?adr, ?txt⟩
    case txt =>
    refine' BJL.all_mk KX G ?za_Node ?zc1_Node ?zc2_Node ?zc3_Node ?zc4_Node ?zk_Node ?ze1_Node ?ze2_Node ?zt_Node ?zp1_Node_shape ?zp2_Node_shape ?zp3_Node_shape ?zp4_Node_shape ?zp1_Node_children ?zp2_Node_children ?zp3_Node_children ?za_Sequence ?zc1_Sequence ?zc2_Sequence ?zc3_Sequence ?zc4_Sequence ?zk_Sequence ?ze1_Sequence ?ze2_Sequence ?zt_Sequence ?zp1_Sequence_shape ?zp2_Sequence_shape ?zp3_Sequence_shape ?zp4_Sequence_shape ?zp1_Sequence_children ?zp2_Sequence_children ?zp3_Sequence_children ?zm1_Sequence ?zm2_Sequence ?zm3_Sequence ?zp1_Sequence_parts ?zp2_Sequence_parts ?zp3_Sequence_parts ?zp4_Sequence_parts ?zn_Sequence_kept ?za_Row ?zc1_Row ?zc2_Row ?zc3_Row ?zc4_Row ?zk_Row ?ze1_Row ?ze2_Row ?zt_Row ?zr1_Row ?zr2_Row ?zp1_Row_shape ?zp2_Row_shape ?zp3_Row_shape ?zp4_Row_shape ?zp1_Row_children ?zp2_Row_children ?zp3_Row_children ?zm1_Row ?zm2_Row ?zm3_Row ?zp1_Row_parts ?zp2_Row_parts ?zp3_Row_parts ?zp4_Row_parts ?zp1_Row_of ?zp2_Row_of ?zp3_Row_of ?zp1_Row_put_last ?zp2_Row_put_last ?zp3_Row_put_last ?zp1_Row_put_at ?zp2_Row_put_at ?zp3_Row_put_at ?zn_Row_kept ?za_Book ?zc1_Book ?zc2_Book ?zc3_Book ?zc4_Book ?zk_Book ?ze1_Book ?ze2_Book ?zt_Book ?zr1_Book ?zr2_Book ?zp1_Book_shape ?zp2_Book_shape ?zp3_Book_shape ?zp4_Book_shape ?zp1_Book_children ?zp2_Book_children ?zp3_Book_children ?zm1_Book ?zm2_Book ?zm3_Book ?zp1_Book_of ?zp2_Book_of ?zp3_Book_of ?zp1_Book_pairs ?zp2_Book_pairs ?zp3_Book_pairs ?zp4_Book_pairs ?zp1_Book_enter ?zp2_Book_enter ?zp3_Book_enter ?zp1_Book_check_entry ?zp2_Book_check_entry ?zp3_Book_check_entry ?zp1_Book_change ?zp2_Book_change ?zp3_Book_change ?zp1_Book_value_of ?zp2_Book_value_of ?zp3_Book_value_of ?zn_Book_entries ?za_Thing ?zc1_Thing ?zc2_Thing ?zc3_Thing ?zc4_Thing ?zk_Thing ?ze1_Thing ?ze2_Thing ?zt_Thing ?zp1_Thing_shape ?zp2_Thing_shape ?zp3_Thing_shape ?zp4_Thing_shape ?zp1_Thing_children ?zp2_Thing_children ?zp3_Thing_children ?zm1_Thing ?zm2_Thing ?zm3_Thing ?zp1_Thing_brand ?zp2_Thing_brand ?zp3_Thing_brand ?zp4_Thing_brand ?zp1_Thing_fields ?zp2_Thing_fields ?zp3_Thing_fields ?zp4_Thing_fields ?zp1_Thing_set_field ?zp2_Thing_set_field ?zp3_Thing_set_field ?zp1_Thing_field ?zp2_Thing_field ?zp3_Thing_field ?zn_Thing_called ?zn_Thing_settings ?za_Fields ?zc1_Fields ?zc2_Fields ?zc3_Fields ?zc4_Fields ?zk_Fields ?ze1_Fields ?ze2_Fields ?zt_Fields ?zm1_Fields ?zm2_Fields ?zm3_Fields ?zp1_Fields___call__ ?zp2_Fields___call__ ?zp3_Fields___call__ ?zn_Fields_new_brand ?zn_Fields_label_row ?za_Single ?zc1_Single ?zc2_Single ?zc3_Single ?zc4_Single ?zk_Single ?ze1_Single ?ze2_Single ?zt_Single ?zm1_Single ?zm2_Single ?zm3_Single ?zp1_Single___call__ ?zp2_Single___call__ ?zp3_Single___call__ ?zn_Single_only_thing ?za_Parts ?zc1_Parts ?zc2_Parts ?zc3_Parts ?zc4_Parts ?zk_Parts ?ze1_Parts ?ze2_Parts ?zt_Parts ?zm1_Parts ?zm2_Parts ?zm3_Parts ?zp1_Parts___call__ ?zp2_Parts___call__ ?zp3_Parts___call__ ?zn_Parts_label_row ?za_Whole ?zc1_Whole ?zc2_Whole ?zc3_Whole ?zc4_Whole ?zk_Whole ?ze1_Whole ?ze2_Whole ?zt_Whole ?zp1_Whole___call__ ?zp2_Whole___call__ ?zp3_Whole___call__ ?za_Refill ?zc1_Refill ?zc2_Refill ?zc3_Refill ?zc4_Refill ?zk_Refill ?ze1_Refill ?ze2_Refill ?zt_Refill ?zp1_Refill___call__ ?zp2_Refill___call__ ?zp3_Refill___call__ ?zb_all ?zb_bool ?zb_classmethod ?zb_int ?zb_isinstance ?zb_len ?zb_list ?zb_min ?zb_property ?zb_range ?zb_repr ?zb_str ?zb_tuple ?zb_zip ?zb_super ?zc_MOST_INTEGER ?zc_MOST_CHARACTERS ?zc_MOST_NUMBERS ?zc_MOST_BRAND ?zc_BAG ?zc_LETTERS ?zc_OTHERS ?za__wall ?zl__wall ?zd__wall ?zk__wall ?za_is_integer ?zl_is_integer ?zd_is_integer ?zk_is_integer ?za_is_whole_atom ?zl_is_whole_atom ?zd_is_whole_atom ?zk_is_whole_atom ?za_is_text ?zl_is_text ?zd_is_text ?zk_is_text ?za_is_key ?zl_is_key ?zd_is_key ?zk_is_key ?za_is_atom ?zl_is_atom ?zd_is_atom ?zk_is_atom ?za_is_brand ?zl_is_brand ?zd_is_brand ?zk_is_brand ?za_holds_value ?zl_holds_value ?zd_holds_value ?zk_holds_value ?za_check_value ?zl_check_value ?zd_check_value ?zk_check_value ?za_check_key ?zl_check_key ?zd_check_key ?zk_check_key ?za_check_label ?zl_check_label ?zd_check_label ?zk_check_label ?zl_Node_shape ?zd_Node_shape ?zk_Node_shape ?zl_Node_children ?zd_Node_children ?zk_Node_children ?zl_Sequence___init__ ?zd_Sequence___init__ ?zk_Sequence___init__ ?zl_Sequence_parts ?zd_Sequence_parts ?zk_Sequence_parts ?zl_Sequence_children ?zd_Sequence_children ?zk_Sequence_children ?zl_Row_of ?zd_Row_of ?zk_Row_of ?zl_Row_shape ?zd_Row_shape ?zk_Row_shape ?zl_Row_put_last ?zd_Row_put_last ?zk_Row_put_last ?zl_Row_put_at ?zd_Row_put_at ?zk_Row_put_at ?zl_Book___init__ ?zd_Book___init__ ?zk_Book___init__ ?zl_Book_of ?zd_Book_of ?zk_Book_of ?zl_Book_shape ?zd_Book_shape ?zk_Book_shape ?zl_Book_pairs ?zd_Book_pairs ?zk_Book_pairs ?zl_Book_children ?zd_Book_children ?zk_Book_children ?zl_Book_enter ?zd_Book_enter ?zk_Book_enter ?zl_Book_check_entry ?zd_Book_check_entry ?zk_Book_check_entry ?zl_Book_change ?zd_Book_change ?zk_Book_change ?zl_Book_value_of ?zd_Book_value_of ?zk_Book_value_of ?zl_Thing___init__ ?zd_Thing___init__ ?zk_Thing___init__ ?zl_Thing_shape ?zd_Thing_shape ?zk_Thing_shape ?zl_Thing_brand ?zd_Thing_brand ?zk_Thing_brand ?zl_Thing_fields ?zd_Thing_fields ?zk_Thing_fields ?zl_Thing_children ?zd_Thing_children ?zk_Thing_children ?zl_Thing_set_field ?zd_Thing_set_field ?zk_Thing_set_field ?zl_Thing_field ?zd_Thing_field ?zk_Thing_field ?za_check_labels ?zl_check_labels ?zd_check_labels ?zk_check_labels ?zl_Fields___init__ ?zd_Fields___init__ ?zk_Fields___init__ ?zl_Fields___call__ ?zd_Fields___call__ ?zk_Fields___call__ ?zl_Single___init__ ?zd_Single___init__ ?zk_Single___init__ ?zl_Single___call__ ?zd_Single___call__ ?zk_Single___call__ ?zl_Parts___init__ ?zd_Parts___init__ ?zk_Parts___init__ ?zl_Parts___call__ ?zd_Parts___call__ ?zk_Parts___call__ ?zl_Whole___call__ ?zd_Whole___call__ ?zk_Whole___call__ ?zl_Refill___call__ ?zd_Refill___call__ ?zk_Refill___call__ ?za__law_begin ?zl__law_begin ?zd__law_begin ?zk__law_begin ?za__law_mixed ?zl__law_mixed ?zd__law_mixed ?zk__law_mixed ?za__law_next ?zl__law_next ?zd__law_next ?zk__law_next ?za__law_atom ?zl__law_atom ?zd__law_atom ?zk__law_atom ?za__law_labels ?zl__law_labels ?zd__law_labels ?zk__law_labels ?za__law_thing ?zl__law_thing ?zd__law_thing ?zk__law_thing ?za__law_like ?zl__law_like ?zd__law_like ?zk__law_like ?za__law_fields_right ?zl__law_fields_right ?zd__law_fields_right ?zk__law_fields_right ?za__law_taken_right ?zl__law_taken_right ?zd__law_taken_right ?zk__law_taken_right ?za__law_refilled_right ?zl__law_refilled_right ?zd__law_refilled_right ?zk__law_refilled_right ?za_law ?zl_law ?zd_law ?zk_law ?za_JarError ?zt_JarError ?zx_JarError ?zh_JarError ?za_InvalidValue ?zt_InvalidValue ?zx_InvalidValue ?zh_InvalidValue ?zi_InvalidValue ?zo_InvalidValue ?zI_InvalidValue ?zf_InvalidValue ?zl_InvalidValue ?zq_InvalidValue ?zs_InvalidValue ?zB_InvalidValue ?zST_InvalidValue ?zA_InvalidValue ?zT_InvalidValue_value ?zn_InvalidValue_value ?zC_InvalidValue ?zD_InvalidValue ?zE_InvalidValue ?zM_InvalidValue ?zN_InvalidValue ?zP_InvalidValue ?zk_InvalidValue ?zga_InvalidValue ?zgg_InvalidValue ?zcc_InvalidValue ?zcg_InvalidValue ?zct_InvalidValue ?zmo_InvalidValue ?za_InvalidKey ?zt_InvalidKey ?zx_InvalidKey ?zh_InvalidKey ?zi_InvalidKey ?zo_InvalidKey ?zI_InvalidKey ?zf_InvalidKey ?zl_InvalidKey ?zq_InvalidKey ?zs_InvalidKey ?zB_InvalidKey ?zST_InvalidKey ?zA_InvalidKey ?zT_InvalidKey_key ?zn_InvalidKey_key ?zC_InvalidKey ?zD_InvalidKey ?zE_InvalidKey ?zM_InvalidKey ?zN_InvalidKey ?zP_InvalidKey ?zk_InvalidKey ?zga_InvalidKey ?zgg_InvalidKey ?zcc_InvalidKey ?zcg_InvalidKey ?zct_InvalidKey ?zmo_InvalidKey ?za_InvalidBrand ?zt_InvalidBrand ?zx_InvalidBrand ?zh_InvalidBrand ?zi_InvalidBrand ?zo_InvalidBrand ?zI_InvalidBrand ?zf_InvalidBrand ?zl_InvalidBrand ?zq_InvalidBrand ?zs_InvalidBrand ?zB_InvalidBrand ?zST_InvalidBrand ?zA_InvalidBrand ?zT_InvalidBrand_given ?zn_InvalidBrand_given ?zC_InvalidBrand ?zD_InvalidBrand ?zE_InvalidBrand ?zM_InvalidBrand ?zN_InvalidBrand ?zP_InvalidBrand ?zk_InvalidBrand ?zga_InvalidBrand ?zgg_InvalidBrand ?zcc_InvalidBrand ?zcg_InvalidBrand ?zct_InvalidBrand ?zmo_InvalidBrand ?za_StateError ?zt_StateError ?zx_StateError ?zh_StateError ?za_KeyTaken ?zt_KeyTaken ?zx_KeyTaken ?zh_KeyTaken ?zi_KeyTaken ?zo_KeyTaken ?zI_KeyTaken ?zf_KeyTaken ?zl_KeyTaken ?zq_KeyTaken ?zs_KeyTaken ?zB_KeyTaken ?zST_KeyTaken ?zA_KeyTaken ?zT_KeyTaken_key ?zn_KeyTaken_key ?zC_KeyTaken ?zD_KeyTaken ?zE_KeyTaken ?zM_KeyTaken ?zN_KeyTaken ?zP_KeyTaken ?zk_KeyTaken ?zga_KeyTaken ?zgg_KeyTaken ?zcc_KeyTaken ?zcg_KeyTaken ?zct_KeyTaken ?zmo_KeyTaken ?za_MissingError ?zt_MissingError ?zx_MissingError ?zh_MissingError ?za_NoEntry ?zt_NoEntry ?zx_NoEntry ?zh_NoEntry ?zi_NoEntry ?zo_NoEntry ?zI_NoEntry ?zf_NoEntry ?zl_NoEntry ?zq_NoEntry ?zs_NoEntry ?zB_NoEntry ?zST_NoEntry ?zA_NoEntry ?zT_NoEntry_key ?zn_NoEntry_key ?zC_NoEntry ?zD_NoEntry ?zE_NoEntry ?zM_NoEntry ?zN_NoEntry ?zP_NoEntry ?zk_NoEntry ?zga_NoEntry ?zgg_NoEntry ?zcc_NoEntry ?zcg_NoEntry ?zct_NoEntry ?zmo_NoEntry ?zu_InvalidValue_JarError ?zv_InvalidValue_JarError ?zu_InvalidValue_StateError ?zv_InvalidValue_StateError ?zu_InvalidValue_MissingError ?zv_InvalidValue_MissingError ?zu_InvalidKey_JarError ?zv_InvalidKey_JarError ?zu_InvalidKey_StateError ?zv_InvalidKey_StateError ?zu_InvalidKey_MissingError ?zv_InvalidKey_MissingError ?zu_InvalidBrand_JarError ?zv_InvalidBrand_JarError ?zu_InvalidBrand_StateError ?zv_InvalidBrand_StateError ?zu_InvalidBrand_MissingError ?zv_InvalidBrand_MissingError ?zu_KeyTaken_JarError ?zv_KeyTaken_JarError ?zu_KeyTaken_StateError ?zv_KeyTaken_StateError ?zu_KeyTaken_MissingError ?zv_KeyTaken_MissingError ?zu_NoEntry_JarError ?zv_NoEntry_JarError ?zu_NoEntry_StateError ?zv_NoEntry_StateError ?zu_NoEntry_MissingError ?zv_NoEntry_MissingError ?zu_InvalidValue_InvalidValue ?zv_InvalidValue_InvalidValue ?zu_InvalidValue_InvalidKey ?zv_InvalidValue_InvalidKey ?zu_InvalidValue_InvalidBrand ?zv_InvalidValue_InvalidBrand ?zu_InvalidValue_KeyTaken ?zv_InvalidValue_KeyTaken ?zu_InvalidValue_NoEntry ?zv_InvalidValue_NoEntry ?zu_InvalidKey_InvalidValue ?zv_InvalidKey_InvalidValue ?zu_InvalidKey_InvalidKey ?zv_InvalidKey_InvalidKey ?zu_InvalidKey_InvalidBrand ?zv_InvalidKey_InvalidBrand ?zu_InvalidKey_KeyTaken ?zv_InvalidKey_KeyTaken ?zu_InvalidKey_NoEntry ?zv_InvalidKey_NoEntry ?zu_InvalidBrand_InvalidValue ?zv_InvalidBrand_InvalidValue ?zu_InvalidBrand_InvalidKey ?zv_InvalidBrand_InvalidKey ?zu_InvalidBrand_InvalidBrand ?zv_InvalidBrand_InvalidBrand ?zu_InvalidBrand_KeyTaken ?zv_InvalidBrand_KeyTaken ?zu_InvalidBrand_NoEntry ?zv_InvalidBrand_NoEntry ?zu_KeyTaken_InvalidValue ?zv_KeyTaken_InvalidValue ?zu_KeyTaken_InvalidKey ?zv_KeyTaken_InvalidKey ?zu_KeyTaken_InvalidBrand ?zv_KeyTaken_InvalidBrand ?zu_KeyTaken_KeyTaken ?zv_KeyTaken_KeyTaken ?zu_KeyTaken_NoEntry ?zv_KeyTaken_NoEntry ?zu_NoEntry_InvalidValue ?zv_NoEntry_InvalidValue ?zu_NoEntry_InvalidKey ?zv_NoEntry_InvalidKey ?zu_NoEntry_InvalidBrand ?zv_NoEntry_InvalidBrand ?zu_NoEntry_KeyTaken ?zv_NoEntry_KeyTaken ?zu_NoEntry_NoEntry ?zv_NoEntry_NoEntry ?zz_w_NoneType ?zz_w_bool ?zz_w_int ?zz_w_str ?zz_w_list ?zz_w_tuple ?zz_w_dict ?zz_w_Row_Node ?zz_w_Row_int ?zz_w_Row_bool ?zz_w_Row_str ?zz_w_Row_tuple ?zz_wc_Row ?zz_w_Book_Node ?zz_w_Book_int ?zz_w_Book_bool ?zz_w_Book_str ?zz_w_Book_tuple ?zz_wc_Book ?zz_w_Thing_Node ?zz_w_Thing_int ?zz_w_Thing_bool ?zz_w_Thing_str ?zz_w_Thing_tuple ?zz_wc_Thing ?zz_wg ?zz_wt ?zz_ne_Row ?zz_ne_Book ?zz_ne_Thing ?zz_w_Thing_Thing ?zz_w_Thing_Book ?zz_w_Book_Thing ?zz_w_Book_Book ?zz_ca_Fields ?zz_cf_Fields ?zz_ci_Fields ?zz_ca_Single ?zz_cf_Single ?zz_ci_Single ?zz_ca_Parts ?zz_cf_Parts ?zz_ci_Parts ?zz_ca_Whole ?zz_cf_Whole ?zz_ci_Whole ?zz_ca_Refill ?zz_cf_Refill ?zz_ci_Refill ?zz_m0_Whole ?zz_i0_Whole ?zz_m0_Refill ?zz_i0_Refill
    (case za_Node => walk_at "fact")
    (case zc1_Node => walk_at "fact")
    (case zc2_Node => walk_at "fact")
    (case zc3_Node => walk_at "fact")
    (case zc4_Node => walk_at "fact")
    (case zk_Node => walk_at "fact")
    (case ze1_Node => walk_at "fact")
    (case ze2_Node => walk_at "fact")
    (case zt_Node => walk_at "fact")
    (case zp1_Node_shape => walk_at "fact")
    (case zp2_Node_shape => walk_at "fact")
    (case zp3_Node_shape => walk_at "fact")
    (case zp4_Node_shape => walk_at "fact")
    (case zp1_Node_children => walk_at "fact")
    (case zp2_Node_children => walk_at "fact")
    (case zp3_Node_children => walk_at "fact")
    (case za_Sequence => walk_at "fact")
    (case zc1_Sequence => walk_at "fact")
    (case zc2_Sequence => walk_at "fact")
    (case zc3_Sequence => walk_at "fact")
    (case zc4_Sequence => walk_at "fact")
    (case zk_Sequence => walk_at "fact")
    (case ze1_Sequence => walk_at "fact")
    (case ze2_Sequence => walk_at "fact")
    (case zt_Sequence => walk_at "fact")
    (case zp1_Sequence_shape => walk_at "fact")
    (case zp2_Sequence_shape => walk_at "fact")
    (case zp3_Sequence_shape => walk_at "fact")
    (case zp4_Sequence_shape => walk_at "fact")
    (case zp1_Sequence_children => walk_at "fact")
    (case zp2_Sequence_children => walk_at "fact")
    (case zp3_Sequence_children => walk_at "fact")
    (case zm1_Sequence => walk_at "fact")
    (case zm2_Sequence => walk_at "fact")
    (case zm3_Sequence => walk_at "fact")
    (case zp1_Sequence_parts => walk_at "fact")
    (case zp2_Sequence_parts => walk_at "fact")
    (case zp3_Sequence_parts => walk_at "fact")
    (case zp4_Sequence_parts => walk_at "fact")
    (case zn_Sequence_kept => walk_at "fact")
    (case za_Row => walk_at "fact")
    (case zc1_Row => walk_at "fact")
    (case zc2_Row => walk_at "fact")
    (case zc3_Row => walk_at "fact")
    (case zc4_Row => walk_at "fact")
    (case zk_Row => walk_at "fact")
    (case ze1_Row => walk_at "fact")
    (case ze2_Row => walk_at "fact")
    (case zt_Row => walk_at "fact")
    (case zr1_Row => walk_at "fact")
    (case zr2_Row => walk_at "fact")
    (case zp1_Row_shape => walk_at "fact")
    (case zp2_Row_shape => walk_at "fact")
    (case zp3_Row_shape => walk_at "fact")
    (case zp4_Row_shape => walk_at "fact")
    (case zp1_Row_children => walk_at "fact")
    (case zp2_Row_children => walk_at "fact")
    (case zp3_Row_children => walk_at "fact")
    (case zm1_Row => walk_at "fact")
    (case zm2_Row => walk_at "fact")
    (case zm3_Row => walk_at "fact")
    (case zp1_Row_parts => walk_at "fact")
    (case zp2_Row_parts => walk_at "fact")
    (case zp3_Row_parts => walk_at "fact")
    (case zp4_Row_parts => walk_at "fact")
    (case zp1_Row_of => walk_at "fact")
    (case zp2_Row_of => walk_at "fact")
    (case zp3_Row_of => walk_at "fact")
    (case zp1_Row_put_last => walk_at "fact")
    (case zp2_Row_put_last => walk_at "fact")
    (case zp3_Row_put_last => walk_at "fact")
    (case zp1_Row_put_at => walk_at "fact")
    (case zp2_Row_put_at => walk_at "fact")
    (case zp3_Row_put_at => walk_at "fact")
    (case zn_Row_kept => walk_at "fact")
    (case za_Book => walk_at "fact")
    (case zc1_Book => walk_at "fact")
    (case zc2_Book => walk_at "fact")
    (case zc3_Book => walk_at "fact")
    (case zc4_Book => walk_at "fact")
    (case zk_Book => walk_at "fact")
    (case ze1_Book => walk_at "fact")
    (case ze2_Book => walk_at "fact")
    (case zt_Book => walk_at "fact")
    (case zr1_Book => walk_at "fact")
    (case zr2_Book => walk_at "fact")
    (case zp1_Book_shape => walk_at "fact")
    (case zp2_Book_shape => walk_at "fact")
    (case zp3_Book_shape => walk_at "fact")
    (case zp4_Book_shape => walk_at "fact")
    (case zp1_Book_children => walk_at "fact")
    (case zp2_Book_children => walk_at "fact")
    (case zp3_Book_children => walk_at "fact")
    (case zm1_Book => walk_at "fact")
    (case zm2_Book => walk_at "fact")
    (case zm3_Book => walk_at "fact")
    (case zp1_Book_of => walk_at "fact")
    (case zp2_Book_of => walk_at "fact")
    (case zp3_Book_of => walk_at "fact")
    (case zp1_Book_pairs => walk_at "fact")
    (case zp2_Book_pairs => walk_at "fact")
    (case zp3_Book_pairs => walk_at "fact")
    (case zp4_Book_pairs => walk_at "fact")
    (case zp1_Book_enter => walk_at "fact")
    (case zp2_Book_enter => walk_at "fact")
    (case zp3_Book_enter => walk_at "fact")
    (case zp1_Book_check_entry => walk_at "fact")
    (case zp2_Book_check_entry => walk_at "fact")
    (case zp3_Book_check_entry => walk_at "fact")
    (case zp1_Book_change => walk_at "fact")
    (case zp2_Book_change => walk_at "fact")
    (case zp3_Book_change => walk_at "fact")
    (case zp1_Book_value_of => walk_at "fact")
    (case zp2_Book_value_of => walk_at "fact")
    (case zp3_Book_value_of => walk_at "fact")
    (case zn_Book_entries => walk_at "fact")
    (case za_Thing => walk_at "fact")
    (case zc1_Thing => walk_at "fact")
    (case zc2_Thing => walk_at "fact")
    (case zc3_Thing => walk_at "fact")
    (case zc4_Thing => walk_at "fact")
    (case zk_Thing => walk_at "fact")
    (case ze1_Thing => walk_at "fact")
    (case ze2_Thing => walk_at "fact")
    (case zt_Thing => walk_at "fact")
    (case zp1_Thing_shape => walk_at "fact")
    (case zp2_Thing_shape => walk_at "fact")
    (case zp3_Thing_shape => walk_at "fact")
    (case zp4_Thing_shape => walk_at "fact")
    (case zp1_Thing_children => walk_at "fact")
    (case zp2_Thing_children => walk_at "fact")
    (case zp3_Thing_children => walk_at "fact")
    (case zm1_Thing => walk_at "fact")
    (case zm2_Thing => walk_at "fact")
    (case zm3_Thing => walk_at "fact")
    (case zp1_Thing_brand => walk_at "fact")
    (case zp2_Thing_brand => walk_at "fact")
    (case zp3_Thing_brand => walk_at "fact")
    (case zp4_Thing_brand => walk_at "fact")
    (case zp1_Thing_fields => walk_at "fact")
    (case zp2_Thing_fields => walk_at "fact")
    (case zp3_Thing_fields => walk_at "fact")
    (case zp4_Thing_fields => walk_at "fact")
    (case zp1_Thing_set_field => walk_at "fact")
    (case zp2_Thing_set_field => walk_at "fact")
    (case zp3_Thing_set_field => walk_at "fact")
    (case zp1_Thing_field => walk_at "fact")
    (case zp2_Thing_field => walk_at "fact")
    (case zp3_Thing_field => walk_at "fact")
    (case zn_Thing_called => walk_at "fact")
    (case zn_Thing_settings => walk_at "fact")
    (case za_Fields => walk_at "fact")
    (case zc1_Fields => walk_at "fact")
    (case zc2_Fields => walk_at "fact")
    (case zc3_Fields => walk_at "fact")
    (case zc4_Fields => walk_at "fact")
    (case zk_Fields => walk_at "fact")
    (case ze1_Fields => walk_at "fact")
    (case ze2_Fields => walk_at "fact")
    (case zt_Fields => walk_at "fact")
    (case zm1_Fields => walk_at "fact")
    (case zm2_Fields => walk_at "fact")
    (case zm3_Fields => walk_at "fact")
    (case zp1_Fields___call__ => walk_at "fact")
    (case zp2_Fields___call__ => walk_at "fact")
    (case zp3_Fields___call__ => walk_at "fact")
    (case zn_Fields_new_brand => walk_at "fact")
    (case zn_Fields_label_row => walk_at "fact")
    (case za_Single => walk_at "fact")
    (case zc1_Single => walk_at "fact")
    (case zc2_Single => walk_at "fact")
    (case zc3_Single => walk_at "fact")
    (case zc4_Single => walk_at "fact")
    (case zk_Single => walk_at "fact")
    (case ze1_Single => walk_at "fact")
    (case ze2_Single => walk_at "fact")
    (case zt_Single => walk_at "fact")
    (case zm1_Single => walk_at "fact")
    (case zm2_Single => walk_at "fact")
    (case zm3_Single => walk_at "fact")
    (case zp1_Single___call__ => walk_at "fact")
    (case zp2_Single___call__ => walk_at "fact")
    (case zp3_Single___call__ => walk_at "fact")
    (case zn_Single_only_thing => walk_at "fact")
    (case za_Parts => walk_at "fact")
    (case zc1_Parts => walk_at "fact")
    (case zc2_Parts => walk_at "fact")
    (case zc3_Parts => walk_at "fact")
    (case zc4_Parts => walk_at "fact")
    (case zk_Parts => walk_at "fact")
    (case ze1_Parts => walk_at "fact")
    (case ze2_Parts => walk_at "fact")
    (case zt_Parts => walk_at "fact")
    (case zm1_Parts => walk_at "fact")
    (case zm2_Parts => walk_at "fact")
    (case zm3_Parts => walk_at "fact")
    (case zp1_Parts___call__ => walk_at "fact")
    (case zp2_Parts___call__ => walk_at "fact")
    (case zp3_Parts___call__ => walk_at "fact")
    (case zn_Parts_label_row => walk_at "fact")
    (case za_Whole => walk_at "fact")
    (case zc1_Whole => walk_at "fact")
    (case zc2_Whole => walk_at "fact")
    (case zc3_Whole => walk_at "fact")
    (case zc4_Whole => walk_at "fact")
    (case zk_Whole => walk_at "fact")
    (case ze1_Whole => walk_at "fact")
    (case ze2_Whole => walk_at "fact")
    (case zt_Whole => walk_at "fact")
    (case zp1_Whole___call__ => walk_at "fact")
    (case zp2_Whole___call__ => walk_at "fact")
    (case zp3_Whole___call__ => walk_at "fact")
    (case za_Refill => walk_at "fact")
    (case zc1_Refill => walk_at "fact")
    (case zc2_Refill => walk_at "fact")
    (case zc3_Refill => walk_at "fact")
    (case zc4_Refill => walk_at "fact")
    (case zk_Refill => walk_at "fact")
    (case ze1_Refill => walk_at "fact")
    (case ze2_Refill => walk_at "fact")
    (case zt_Refill => walk_at "fact")
    (case zp1_Refill___call__ => walk_at "fact")
    (case zp2_Refill___call__ => walk_at "fact")
    (case zp3_Refill___call__ => walk_at "fact")
    (case zb_all => walk_at "fact")
    (case zb_bool => walk_at "fact")
    (case zb_classmethod => walk_at "fact")
    (case zb_int => walk_at "fact")
    (case zb_isinstance => walk_at "fact")
    (case zb_len => walk_at "fact")
    (case zb_list => walk_at "fact")
    (case zb_min => walk_at "fact")
    (case zb_property => walk_at "fact")
    (case zb_range => walk_at "fact")
    (case zb_repr => walk_at "fact")
    (case zb_str => walk_at "fact")
    (case zb_tuple => walk_at "fact")
    (case zb_zip => walk_at "fact")
    (case zb_super => walk_at "fact")
    (case zc_MOST_INTEGER => walk_at "fact")
    (case zc_MOST_CHARACTERS => walk_at "fact")
    (case zc_MOST_NUMBERS => walk_at "fact")
    (case zc_MOST_BRAND => walk_at "fact")
    (case zc_BAG => walk_at "fact")
    (case zc_LETTERS => walk_at "fact")
    (case zc_OTHERS => walk_at "fact")
    (case za__wall => walk_at "fact")
    (case zl__wall => walk_at "fact")
    (case zd__wall => walk_at "fact")
    (case zk__wall => walk_at "fact")
    (case za_is_integer => walk_at "fact")
    (case zl_is_integer => walk_at "fact")
    (case zd_is_integer => walk_at "fact")
    (case zk_is_integer => walk_at "fact")
    (case za_is_whole_atom => walk_at "fact")
    (case zl_is_whole_atom => walk_at "fact")
    (case zd_is_whole_atom => walk_at "fact")
    (case zk_is_whole_atom => walk_at "fact")
    (case za_is_text => walk_at "fact")
    (case zl_is_text => walk_at "fact")
    (case zd_is_text => walk_at "fact")
    (case zk_is_text => walk_at "fact")
    (case za_is_key => walk_at "fact")
    (case zl_is_key => walk_at "fact")
    (case zd_is_key => walk_at "fact")
    (case zk_is_key => walk_at "fact")
    (case za_is_atom => walk_at "fact")
    (case zl_is_atom => walk_at "fact")
    (case zd_is_atom => walk_at "fact")
    (case zk_is_atom => walk_at "fact")
    (case za_is_brand => walk_at "fact")
    (case zl_is_brand => walk_at "fact")
    (case zd_is_brand => walk_at "fact")
    (case zk_is_brand => walk_at "fact")
    (case za_holds_value => walk_at "fact")
    (case zl_holds_value => walk_at "fact")
    (case zd_holds_value => walk_at "fact")
    (case zk_holds_value => walk_at "fact")
    (case za_check_value => walk_at "fact")
    (case zl_check_value => walk_at "fact")
    (case zd_check_value => walk_at "fact")
    (case zk_check_value => walk_at "fact")
    (case za_check_key => walk_at "fact")
    (case zl_check_key => walk_at "fact")
    (case zd_check_key => walk_at "fact")
    (case zk_check_key => walk_at "fact")
    (case za_check_label => walk_at "fact")
    (case zl_check_label => walk_at "fact")
    (case zd_check_label => walk_at "fact")
    (case zk_check_label => walk_at "fact")
    (case zl_Node_shape => walk_at "fact")
    (case zd_Node_shape => walk_at "fact")
    (case zk_Node_shape => walk_at "fact")
    (case zl_Node_children => walk_at "fact")
    (case zd_Node_children => walk_at "fact")
    (case zk_Node_children => walk_at "fact")
    (case zl_Sequence___init__ => walk_at "fact")
    (case zd_Sequence___init__ => walk_at "fact")
    (case zk_Sequence___init__ => walk_at "fact")
    (case zl_Sequence_parts => walk_at "fact")
    (case zd_Sequence_parts => walk_at "fact")
    (case zk_Sequence_parts => walk_at "fact")
    (case zl_Sequence_children => walk_at "fact")
    (case zd_Sequence_children => walk_at "fact")
    (case zk_Sequence_children => walk_at "fact")
    (case zl_Row_of => walk_at "fact")
    (case zd_Row_of => walk_at "fact")
    (case zk_Row_of => walk_at "fact")
    (case zl_Row_shape => walk_at "fact")
    (case zd_Row_shape => walk_at "fact")
    (case zk_Row_shape => walk_at "fact")
    (case zl_Row_put_last => walk_at "fact")
    (case zd_Row_put_last => walk_at "fact")
    (case zk_Row_put_last => walk_at "fact")
    (case zl_Row_put_at => walk_at "fact")
    (case zd_Row_put_at => walk_at "fact")
    (case zk_Row_put_at => walk_at "fact")
    (case zl_Book___init__ => walk_at "fact")
    (case zd_Book___init__ => walk_at "fact")
    (case zk_Book___init__ => walk_at "fact")
    (case zl_Book_of => walk_at "fact")
    (case zd_Book_of => walk_at "fact")
    (case zk_Book_of => walk_at "fact")
    (case zl_Book_shape => walk_at "fact")
    (case zd_Book_shape => walk_at "fact")
    (case zk_Book_shape => walk_at "fact")
    (case zl_Book_pairs => walk_at "fact")
    (case zd_Book_pairs => walk_at "fact")
    (case zk_Book_pairs => walk_at "fact")
    (case zl_Book_children => walk_at "fact")
    (case zd_Book_children => walk_at "fact")
    (case zk_Book_children => walk_at "fact")
    (case zl_Book_enter => walk_at "fact")
    (case zd_Book_enter => walk_at "fact")
    (case zk_Book_enter => walk_at "fact")
    (case zl_Book_check_entry => walk_at "fact")
    (case zd_Book_check_entry => walk_at "fact")
    (case zk_Book_check_entry => walk_at "fact")
    (case zl_Book_change => walk_at "fact")
    (case zd_Book_change => walk_at "fact")
    (case zk_Book_change => walk_at "fact")
    (case zl_Book_value_of => walk_at "fact")
    (case zd_Book_value_of => walk_at "fact")
    (case zk_Book_value_of => walk_at "fact")
    (case zl_Thing___init__ => walk_at "fact")
    (case zd_Thing___init__ => walk_at "fact")
    (case zk_Thing___init__ => walk_at "fact")
    (case zl_Thing_shape => walk_at "fact")
    (case zd_Thing_shape => walk_at "fact")
    (case zk_Thing_shape => walk_at "fact")
    (case zl_Thing_brand => walk_at "fact")
    (case zd_Thing_brand => walk_at "fact")
    (case zk_Thing_brand => walk_at "fact")
    (case zl_Thing_fields => walk_at "fact")
    (case zd_Thing_fields => walk_at "fact")
    (case zk_Thing_fields => walk_at "fact")
    (case zl_Thing_children => walk_at "fact")
    (case zd_Thing_children => walk_at "fact")
    (case zk_Thing_children => walk_at "fact")
    (case zl_Thing_set_field => walk_at "fact")
    (case zd_Thing_set_field => walk_at "fact")
    (case zk_Thing_set_field => walk_at "fact")
    (case zl_Thing_field => walk_at "fact")
    (case zd_Thing_field => walk_at "fact")
    (case zk_Thing_field => walk_at "fact")
    (case za_check_labels => walk_at "fact")
    (case zl_check_labels => walk_at "fact")
    (case zd_check_labels => walk_at "fact")
    (case zk_check_labels => walk_at "fact")
    (case zl_Fields___init__ => walk_at "fact")
    (case zd_Fields___init__ => walk_at "fact")
    (case zk_Fields___init__ => walk_at "fact")
    (case zl_Fields___call__ => walk_at "fact")
    (case zd_Fields___call__ => walk_at "fact")
    (case zk_Fields___call__ => walk_at "fact")
    (case zl_Single___init__ => walk_at "fact")
    (case zd_Single___init__ => walk_at "fact")
    (case zk_Single___init__ => walk_at "fact")
    (case zl_Single___call__ => walk_at "fact")
    (case zd_Single___call__ => walk_at "fact")
    (case zk_Single___call__ => walk_at "fact")
    (case zl_Parts___init__ => walk_at "fact")
    (case zd_Parts___init__ => walk_at "fact")
    (case zk_Parts___init__ => walk_at "fact")
    (case zl_Parts___call__ => walk_at "fact")
    (case zd_Parts___call__ => walk_at "fact")
    (case zk_Parts___call__ => walk_at "fact")
    (case zl_Whole___call__ => walk_at "fact")
    (case zd_Whole___call__ => walk_at "fact")
    (case zk_Whole___call__ => walk_at "fact")
    (case zl_Refill___call__ => walk_at "fact")
    (case zd_Refill___call__ => walk_at "fact")
    (case zk_Refill___call__ => walk_at "fact")
    (case za__law_begin => walk_at "fact")
    (case zl__law_begin => walk_at "fact")
    (case zd__law_begin => walk_at "fact")
    (case zk__law_begin => walk_at "fact")
    (case za__law_mixed => walk_at "fact")
    (case zl__law_mixed => walk_at "fact")
    (case zd__law_mixed => walk_at "fact")
    (case zk__law_mixed => walk_at "fact")
    (case za__law_next => walk_at "fact")
    (case zl__law_next => walk_at "fact")
    (case zd__law_next => walk_at "fact")
    (case zk__law_next => walk_at "fact")
    (case za__law_atom => walk_at "fact")
    (case zl__law_atom => walk_at "fact")
    (case zd__law_atom => walk_at "fact")
    (case zk__law_atom => walk_at "fact")
    (case za__law_labels => walk_at "fact")
    (case zl__law_labels => walk_at "fact")
    (case zd__law_labels => walk_at "fact")
    (case zk__law_labels => walk_at "fact")
    (case za__law_thing => walk_at "fact")
    (case zl__law_thing => walk_at "fact")
    (case zd__law_thing => walk_at "fact")
    (case zk__law_thing => walk_at "fact")
    (case za__law_like => walk_at "fact")
    (case zl__law_like => walk_at "fact")
    (case zd__law_like => walk_at "fact")
    (case zk__law_like => walk_at "fact")
    (case za__law_fields_right => walk_at "fact")
    (case zl__law_fields_right => walk_at "fact")
    (case zd__law_fields_right => walk_at "fact")
    (case zk__law_fields_right => walk_at "fact")
    (case za__law_taken_right => walk_at "fact")
    (case zl__law_taken_right => walk_at "fact")
    (case zd__law_taken_right => walk_at "fact")
    (case zk__law_taken_right => walk_at "fact")
    (case za__law_refilled_right => walk_at "fact")
    (case zl__law_refilled_right => walk_at "fact")
    (case zd__law_refilled_right => walk_at "fact")
    (case zk__law_refilled_right => walk_at "fact")
    (case za_law => walk_at "fact")
    (case zl_law => walk_at "fact")
    (case zd_law => walk_at "fact")
    (case zk_law => walk_at "fact")
    (case za_JarError => walk_at "fact")
    (case zt_JarError => walk_at "fact")
    (case zx_JarError => walk_at "fact")
    (case zh_JarError => walk_at "fact")
    (case za_InvalidValue => walk_at "fact")
    (case zt_InvalidValue => walk_at "fact")
    (case zx_InvalidValue => walk_at "fact")
    (case zh_InvalidValue => walk_at "fact")
    (case zi_InvalidValue => walk_at "fact")
    (case zo_InvalidValue => walk_at "fact")
    (case zI_InvalidValue => walk_at "fact")
    (case zf_InvalidValue => walk_at "fact")
    (case zl_InvalidValue => walk_at "fact")
    (case zq_InvalidValue => walk_at "fact")
    (case zs_InvalidValue => walk_at "fact")
    (case zB_InvalidValue => walk_at "fact")
    (case zST_InvalidValue => walk_at "fact")
    (case zA_InvalidValue => walk_at "fact")
    (case zT_InvalidValue_value => walk_at "fact")
    (case zn_InvalidValue_value => walk_at "fact")
    (case zC_InvalidValue => walk_at "fact")
    (case zD_InvalidValue => walk_at "fact")
    (case zE_InvalidValue => walk_at "fact")
    (case zM_InvalidValue => walk_at "fact")
    (case zN_InvalidValue => walk_at "fact")
    (case zP_InvalidValue => walk_at "fact")
    (case zk_InvalidValue => walk_at "fact")
    (case zga_InvalidValue => walk_at "fact")
    (case zgg_InvalidValue => walk_at "fact")
    (case zcc_InvalidValue => walk_at "fact")
    (case zcg_InvalidValue => walk_at "fact")
    (case zct_InvalidValue => walk_at "fact")
    (case zmo_InvalidValue => walk_at "fact")
    (case za_InvalidKey => walk_at "fact")
    (case zt_InvalidKey => walk_at "fact")
    (case zx_InvalidKey => walk_at "fact")
    (case zh_InvalidKey => walk_at "fact")
    (case zi_InvalidKey => walk_at "fact")
    (case zo_InvalidKey => walk_at "fact")
    (case zI_InvalidKey => walk_at "fact")
    (case zf_InvalidKey => walk_at "fact")
    (case zl_InvalidKey => walk_at "fact")
    (case zq_InvalidKey => walk_at "fact")
    (case zs_InvalidKey => walk_at "fact")
    (case zB_InvalidKey => walk_at "fact")
    (case zST_InvalidKey => walk_at "fact")
    (case zA_InvalidKey => walk_at "fact")
    (case zT_InvalidKey_key => walk_at "fact")
    (case zn_InvalidKey_key => walk_at "fact")
    (case zC_InvalidKey => walk_at "fact")
    (case zD_InvalidKey => walk_at "fact")
    (case zE_InvalidKey => walk_at "fact")
    (case zM_InvalidKey => walk_at "fact")
    (case zN_InvalidKey => walk_at "fact")
    (case zP_InvalidKey => walk_at "fact")
    (case zk_InvalidKey => walk_at "fact")
    (case zga_InvalidKey => walk_at "fact")
    (case zgg_InvalidKey => walk_at "fact")
    (case zcc_InvalidKey => walk_at "fact")
    (case zcg_InvalidKey => walk_at "fact")
    (case zct_InvalidKey => walk_at "fact")
    (case zmo_InvalidKey => walk_at "fact")
    (case za_InvalidBrand => walk_at "fact")
    (case zt_InvalidBrand => walk_at "fact")
    (case zx_InvalidBrand => walk_at "fact")
    (case zh_InvalidBrand => walk_at "fact")
    (case zi_InvalidBrand => walk_at "fact")
    (case zo_InvalidBrand => walk_at "fact")
    (case zI_InvalidBrand => walk_at "fact")
    (case zf_InvalidBrand => walk_at "fact")
    (case zl_InvalidBrand => walk_at "fact")
    (case zq_InvalidBrand => walk_at "fact")
    (case zs_InvalidBrand => walk_at "fact")
    (case zB_InvalidBrand => walk_at "fact")
    (case zST_InvalidBrand => walk_at "fact")
    (case zA_InvalidBrand => walk_at "fact")
    (case zT_InvalidBrand_given => walk_at "fact")
    (case zn_InvalidBrand_given => walk_at "fact")
    (case zC_InvalidBrand => walk_at "fact")
    (case zD_InvalidBrand => walk_at "fact")
    (case zE_InvalidBrand => walk_at "fact")
    (case zM_InvalidBrand => walk_at "fact")
    (case zN_InvalidBrand => walk_at "fact")
    (case zP_InvalidBrand => walk_at "fact")
    (case zk_InvalidBrand => walk_at "fact")
    (case zga_InvalidBrand => walk_at "fact")
    (case zgg_InvalidBrand => walk_at "fact")
    (case zcc_InvalidBrand => walk_at "fact")
    (case zcg_InvalidBrand => walk_at "fact")
    (case zct_InvalidBrand => walk_at "fact")
    (case zmo_InvalidBrand => walk_at "fact")
    (case za_StateError => walk_at "fact")
    (case zt_StateError => walk_at "fact")
    (case zx_StateError => walk_at "fact")
    (case zh_StateError => walk_at "fact")
    (case za_KeyTaken => walk_at "fact")
    (case zt_KeyTaken => walk_at "fact")
    (case zx_KeyTaken => walk_at "fact")
    (case zh_KeyTaken => walk_at "fact")
    (case zi_KeyTaken => walk_at "fact")
    (case zo_KeyTaken => walk_at "fact")
    (case zI_KeyTaken => walk_at "fact")
    (case zf_KeyTaken => walk_at "fact")
    (case zl_KeyTaken => walk_at "fact")
    (case zq_KeyTaken => walk_at "fact")
    (case zs_KeyTaken => walk_at "fact")
    (case zB_KeyTaken => walk_at "fact")
    (case zST_KeyTaken => walk_at "fact")
    (case zA_KeyTaken => walk_at "fact")
    (case zT_KeyTaken_key => walk_at "fact")
    (case zn_KeyTaken_key => walk_at "fact")
    (case zC_KeyTaken => walk_at "fact")
    (case zD_KeyTaken => walk_at "fact")
    (case zE_KeyTaken => walk_at "fact")
    (case zM_KeyTaken => walk_at "fact")
    (case zN_KeyTaken => walk_at "fact")
    (case zP_KeyTaken => walk_at "fact")
    (case zk_KeyTaken => walk_at "fact")
    (case zga_KeyTaken => walk_at "fact")
    (case zgg_KeyTaken => walk_at "fact")
    (case zcc_KeyTaken => walk_at "fact")
    (case zcg_KeyTaken => walk_at "fact")
    (case zct_KeyTaken => walk_at "fact")
    (case zmo_KeyTaken => walk_at "fact")
    (case za_MissingError => walk_at "fact")
    (case zt_MissingError => walk_at "fact")
    (case zx_MissingError => walk_at "fact")
    (case zh_MissingError => walk_at "fact")
    (case za_NoEntry => walk_at "fact")
    (case zt_NoEntry => walk_at "fact")
    (case zx_NoEntry => walk_at "fact")
    (case zh_NoEntry => walk_at "fact")
    (case zi_NoEntry => walk_at "fact")
    (case zo_NoEntry => walk_at "fact")
    (case zI_NoEntry => walk_at "fact")
    (case zf_NoEntry => walk_at "fact")
    (case zl_NoEntry => walk_at "fact")
    (case zq_NoEntry => walk_at "fact")
    (case zs_NoEntry => walk_at "fact")
    (case zB_NoEntry => walk_at "fact")
    (case zST_NoEntry => walk_at "fact")
    (case zA_NoEntry => walk_at "fact")
    (case zT_NoEntry_key => walk_at "fact")
    (case zn_NoEntry_key => walk_at "fact")
    (case zC_NoEntry => walk_at "fact")
    (case zD_NoEntry => walk_at "fact")
    (case zE_NoEntry => walk_at "fact")
    (case zM_NoEntry => walk_at "fact")
    (case zN_NoEntry => walk_at "fact")
    (case zP_NoEntry => walk_at "fact")
    (case zk_NoEntry => walk_at "fact")
    (case zga_NoEntry => walk_at "fact")
    (case zgg_NoEntry => walk_at "fact")
    (case zcc_NoEntry => walk_at "fact")
    (case zcg_NoEntry => walk_at "fact")
    (case zct_NoEntry => walk_at "fact")
    (case zmo_NoEntry => walk_at "fact")
    (case zu_InvalidValue_JarError => walk_at "fact")
    (case zv_InvalidValue_JarError => walk_at "fact")
    (case zu_InvalidValue_StateError => walk_at "fact")
    (case zv_InvalidValue_StateError => walk_at "fact")
    (case zu_InvalidValue_MissingError => walk_at "fact")
    (case zv_InvalidValue_MissingError => walk_at "fact")
    (case zu_InvalidKey_JarError => walk_at "fact")
    (case zv_InvalidKey_JarError => walk_at "fact")
    (case zu_InvalidKey_StateError => walk_at "fact")
    (case zv_InvalidKey_StateError => walk_at "fact")
    (case zu_InvalidKey_MissingError => walk_at "fact")
    (case zv_InvalidKey_MissingError => walk_at "fact")
    (case zu_InvalidBrand_JarError => walk_at "fact")
    (case zv_InvalidBrand_JarError => walk_at "fact")
    (case zu_InvalidBrand_StateError => walk_at "fact")
    (case zv_InvalidBrand_StateError => walk_at "fact")
    (case zu_InvalidBrand_MissingError => walk_at "fact")
    (case zv_InvalidBrand_MissingError => walk_at "fact")
    (case zu_KeyTaken_JarError => walk_at "fact")
    (case zv_KeyTaken_JarError => walk_at "fact")
    (case zu_KeyTaken_StateError => walk_at "fact")
    (case zv_KeyTaken_StateError => walk_at "fact")
    (case zu_KeyTaken_MissingError => walk_at "fact")
    (case zv_KeyTaken_MissingError => walk_at "fact")
    (case zu_NoEntry_JarError => walk_at "fact")
    (case zv_NoEntry_JarError => walk_at "fact")
    (case zu_NoEntry_StateError => walk_at "fact")
    (case zv_NoEntry_StateError => walk_at "fact")
    (case zu_NoEntry_MissingError => walk_at "fact")
    (case zv_NoEntry_MissingError => walk_at "fact")
    (case zu_InvalidValue_InvalidValue => walk_at "fact")
    (case zv_InvalidValue_InvalidValue => walk_at "fact")
    (case zu_InvalidValue_InvalidKey => walk_at "fact")
    (case zv_InvalidValue_InvalidKey => walk_at "fact")
    (case zu_InvalidValue_InvalidBrand => walk_at "fact")
    (case zv_InvalidValue_InvalidBrand => walk_at "fact")
    (case zu_InvalidValue_KeyTaken => walk_at "fact")
    (case zv_InvalidValue_KeyTaken => walk_at "fact")
    (case zu_InvalidValue_NoEntry => walk_at "fact")
    (case zv_InvalidValue_NoEntry => walk_at "fact")
    (case zu_InvalidKey_InvalidValue => walk_at "fact")
    (case zv_InvalidKey_InvalidValue => walk_at "fact")
    (case zu_InvalidKey_InvalidKey => walk_at "fact")
    (case zv_InvalidKey_InvalidKey => walk_at "fact")
    (case zu_InvalidKey_InvalidBrand => walk_at "fact")
    (case zv_InvalidKey_InvalidBrand => walk_at "fact")
    (case zu_InvalidKey_KeyTaken => walk_at "fact")
    (case zv_InvalidKey_KeyTaken => walk_at "fact")
    (case zu_InvalidKey_NoEntry => walk_at "fact")
    (case zv_InvalidKey_NoEntry => walk_at "fact")
    (case zu_InvalidBrand_InvalidValue => walk_at "fact")
    (case zv_InvalidBrand_InvalidValue => walk_at "fact")
    (case zu_InvalidBrand_InvalidKey => walk_at "fact")
    (case zv_InvalidBrand_InvalidKey => walk_at "fact")
    (case zu_InvalidBrand_InvalidBrand => walk_at "fact")
    (case zv_InvalidBrand_InvalidBrand => walk_at "fact")
    (case zu_InvalidBrand_KeyTaken => walk_at "fact")
    (case zv_InvalidBrand_KeyTaken => walk_at "fact")
    (case zu_InvalidBrand_NoEntry => walk_at "fact")
    (case zv_InvalidBrand_NoEntry => walk_at "fact")
    (case zu_KeyTaken_InvalidValue => walk_at "fact")
    (case zv_KeyTaken_InvalidValue => walk_at "fact")
    (case zu_KeyTaken_InvalidKey => walk_at "fact")
    (case zv_KeyTaken_InvalidKey => walk_at "fact")
    (case zu_KeyTaken_InvalidBrand => walk_at "fact")
    (case zv_KeyTaken_InvalidBrand => walk_at "fact")
    (case zu_KeyTaken_KeyTaken => walk_at "fact")
    (case zv_KeyTaken_KeyTaken => walk_at "fact")
    (case zu_KeyTaken_NoEntry => walk_at "fact")
    (case zv_KeyTaken_NoEntry => walk_at "fact")
    (case zu_NoEntry_InvalidValue => walk_at "fact")
    (case zv_NoEntry_InvalidValue => walk_at "fact")
    (case zu_NoEntry_InvalidKey => walk_at "fact")
    (case zv_NoEntry_InvalidKey => walk_at "fact")
    (case zu_NoEntry_InvalidBrand => walk_at "fact")
    (case zv_NoEntry_InvalidBrand => walk_at "fact")
    (case zu_NoEntry_KeyTaken => walk_at "fact")
    (case zv_NoEntry_KeyTaken => walk_at "fact")
    (case zu_NoEntry_NoEntry => walk_at "fact")
    (case zv_NoEntry_NoEntry => walk_at "fact")
    (case zz_w_NoneType => walk_at "fact")
    (case zz_w_bool => walk_at "fact")
    (case zz_w_int => walk_at "fact")
    (case zz_w_str => walk_at "fact")
    (case zz_w_list => walk_at "fact")
    (case zz_w_tuple => walk_at "fact")
    (case zz_w_dict => walk_at "fact")
    (case zz_w_Row_Node => walk_at "fact")
    (case zz_w_Row_int => walk_at "fact")
    (case zz_w_Row_bool => walk_at "fact")
    (case zz_w_Row_str => walk_at "fact")
    (case zz_w_Row_tuple => walk_at "fact")
    (case zz_wc_Row => walk_at "fact")
    (case zz_w_Book_Node => walk_at "fact")
    (case zz_w_Book_int => walk_at "fact")
    (case zz_w_Book_bool => walk_at "fact")
    (case zz_w_Book_str => walk_at "fact")
    (case zz_w_Book_tuple => walk_at "fact")
    (case zz_wc_Book => walk_at "fact")
    (case zz_w_Thing_Node => walk_at "fact")
    (case zz_w_Thing_int => walk_at "fact")
    (case zz_w_Thing_bool => walk_at "fact")
    (case zz_w_Thing_str => walk_at "fact")
    (case zz_w_Thing_tuple => walk_at "fact")
    (case zz_wc_Thing => walk_at "fact")
    (case zz_wg => walk_at "fact")
    (case zz_wt => walk_at "fact")
    (case zz_ne_Row => walk_at "fact")
    (case zz_ne_Book => walk_at "fact")
    (case zz_ne_Thing => walk_at "fact")
    (case zz_w_Thing_Thing => walk_at "fact")
    (case zz_w_Thing_Book => walk_at "fact")
    (case zz_w_Book_Thing => walk_at "fact")
    (case zz_w_Book_Book => walk_at "fact")
    (case zz_ca_Fields => walk_at "fact")
    (case zz_cf_Fields => walk_at "fact")
    (case zz_ci_Fields => walk_at "fact")
    (case zz_ca_Single => walk_at "fact")
    (case zz_cf_Single => walk_at "fact")
    (case zz_ci_Single => walk_at "fact")
    (case zz_ca_Parts => walk_at "fact")
    (case zz_cf_Parts => walk_at "fact")
    (case zz_ci_Parts => walk_at "fact")
    (case zz_ca_Whole => walk_at "fact")
    (case zz_cf_Whole => walk_at "fact")
    (case zz_ci_Whole => walk_at "fact")
    (case zz_ca_Refill => walk_at "fact")
    (case zz_cf_Refill => walk_at "fact")
    (case zz_ci_Refill => walk_at "fact")
    (case zz_m0_Whole => walk_at "fact")
    (case zz_i0_Whole => walk_at "fact")
    (case zz_m0_Refill => walk_at "fact")
    (case zz_i0_Refill => walk_at "fact")
set_option maxHeartbeats 0 in
theorem PySem.Challenge.cw_brinejar_k14_ready_hooks_holds : PySem.Challenge.rw_brinejar_k14_ready_hooks.Holds := by
  w_on; o_law
  refine BJ.head_k (r := OpenLaw.row PySem.Challenge.rw_brinejar_k14_ready_hooks) (q := BJL.q0) (loose := BJL.names0s) (K := BJL.mk0.heap_39) (as := BJL.as0) (M := 9000) (kwd := []) BJL.as0_eq (by kernel_rfl) (fun s => by kernel_rfl) BJL.run1 BJL.run2 BJL.run3 (by rfl) (by rfl) (by rfl) (by rfl) (by first | assumption | decide +kernel) (by decide +kernel) ⟨rfl, rfl, rfl, rfl, rfl, by decide +kernel⟩ ?hw ?hc
  case hw => w_witness2
  case hc =>
  refine BJ.walkG2 (l := PySem.Challenge.rw_brinejar_k14_ready_hooks) (n := 63) (k := 30) (sp := fun w => BJL.sp_law _) rfl (by decide) rfl ⟨rfl, by decide, by decide⟩ (fun w h Y => Y) (by decide +kernel) (fun w => by first | rfl | kernel_rfl | decide +kernel) ?F BJL.law_start
  case F =>
    intro w mg fa h KX G hmg base KB GB
    obtain ⟨a, T⟩ := BJL.facts0 w mg h KX G
    exact BJL.law_use (a := a) T hmg

