import PyProof.Rows.All
import Wide.All
import OpenK.AllK
import Wide.FinOn
import HandS.ForMost
import HandS.Exc
import HandS.ExcOwn
import KE.KExcSuper
import HandS.ExcInit
import KE.KTryMore
import KE.KExcHand
import HandS.TryOnly
import KE.KExcIs
import HandS.IsInst
import PyProof.ReprRoads
import PyProof.CallFns
import HandS.TupMul
import KE.GoesMore
import KE.GoesEnum
import HandS.AnyAll
import HandS.EndBits
import HandS.Evl
import HandS.Walk
import HandS.Zip
import PyProof.ReprBulk
import HandS.Replace
import HandS.ExcValue
import HandS.SetFor
import HandS.Style
import HandS.Lambda
import HandS.EndTab
import HandS.WordsExc
import HandS.WrittenGet
import HandS.ReplaceLit
import HandS.ReplaceDef
import HandS.Conv
import HandS.Star
import HandS.ClsMeth
import HandS.Property
import HandS.Defaults
import HandS.MethStar
import HandS.GenList
import HandS.GenYield
import HandS.OwnEq
import HandS.SortInts
import HandS.TupAny
import PySem.Challenge.RW_brinejar_k02_octets_and_bags
set_option Elab.async false
set_option linter.all false
set_option maxRecDepth 100000
set_option maxHeartbeats 4000000
/-! calls whose Around has no guards (no repr is running): promises, the rule for a def, the rules for calls -/
namespace BJ
open PySem PySem.Spec PyProof.Rows L2

/-- the promise of a def, for callers that no repr surrounds -/
structure FnG (P : Program) (w : World) (K : PySem.W.Frag) (mg : Str → Option Value) (base : Heap)
    (k : Nat) (f : Addr) (fd : FuncData) (ps : List Str) (sp : Sp) : Prop where
  len : ∀ vs H Q E, sp vs H Q E → vs.length = ps.length
  run : ∀ (A : Around) (outer : List Env) (s : Shared) (H : Hp) (args : Args) (us : List Value) (vs : List V) (Q : VK) (E : XK),
    Room k A → A.guards = some [] → Env0 P w K mg base A outer s H → BindsTo s fd args (ps.zip us) → Vals vs us →
    sp vs H Q E → codeAny (model P w) A (.call (.ref f) args) (CR (L2.CX P w) outer P w H s Q E) s

section
variable {P : Program} {w : World} {K : PySem.W.Frag} {mg : Str → Option Value} {base : Heap}
theorem FnG.mono {j k : Nat} {f : Addr} {fd : FuncData} {ps : List Str} {sp : Sp}
    (F : FnG P w K mg base j f fd ps sp) (h : j ≤ k) : FnG P w K mg base k f fd ps sp :=
  ⟨F.len, fun A o s H a us vs Q E hr => F.run A o s H a us vs Q E (hr.mono h)⟩

/-- the rule for a def -/
theorem fnG_of {k : Nat} {f : Addr} {name qual : Str} {params : Arguments} {body : List Stmt} {scope : Scope}
    {dV kV doc pm cdv ct oc : Value} {an od : Option Addr} {osl : Array (Option Value)} {N ps : List Str} {sp : Sp}
    (lk : K.lookup f = some ⟨oc, od, .func (PySem.W.fnOf name qual params body scope dV kV doc pm an cdv ct), osl⟩)
    (hcd : PySem.W.codeIn K cdv qual = true) (S : FnScope N ps scope)
    (len : ∀ vs H Q E, sp vs H Q E → vs.length = ps.length)
    (hbody : ∀ (A : Around) (outer : List Env) (s : Shared) (H : Hp) (vs : List V) (Q : VK) (E : XK),
      Room k (A.deeper (envOfC qual scope s.heap.objs.size f cdv)) → A.guards = some [] → sp vs H Q E →
      ∃ t, PSs (cxOf (L2.CX P w) P w K mg base N qual scope f cdv A outer s H E) body t ∧
        t { nx := fun _ H' => Q .non H', rt := Q } (start N vs) H) :
    FnG P w K mg base (k + 1) f (PySem.W.fnOf name qual params body scope dV kV doc pm an cdv ct) ps sp where
  len := len
  run := by
    intro A outer s H args us vs Q E room hg e0 bnd rel prom
    have KX : K.In s.heap := e0.mod.kin.keeps fun b o e => (e0.bs b o e).1
    have nl : s.heap.NoLimit := e0.mod.nolimit.keeps fun b o e => (e0.bs b o e).1
    have kinds : ∀ y ∈ ps.zip us, scope.names.lookup y.1 = some .local ∨
        (scope.names.lookup y.1 = some .cell ∧ ((cellsFrom (s.heap.objs.size + 1) scope.names []).lookup y.1).isSome = true) := by
      rintro ⟨n, v⟩ hy
      rcases S.par n (List.of_mem_zip hy).1 with q | q
      · exact .inl q
      · exact .inr ⟨q, PySem.W.cellsFrom_some _ _ _ (.inl q)⟩
    refine codeAny_call_function room.depth (KX _ _ lk) rfl S.co S.gen rfl (PySem.W.codeRec_of KX hcd) (bnd _ _ _ _ ?_)
    refine wpAny_newFunctionEnv_cells S.kind kinds fun env he s1 x => ?_
    subst he
    obtain ⟨t, ht, hq⟩ := hbody A outer s H vs Q E (room.deeper _) hg prom
    have I := inv_start (CX := L2.CX P w) (E := E) (cd := cdv) (f := f) (qual := qual) S room.hd e0 (len _ _ _ _ prom) rel x
    refine ⟨nl.keeps x.toInCall.keep, codeAny_func (wpAny_mono (ht.run [] s1 _ H _ I hq) (fun fl s' hs => ?_) fun e s' hs => hs)⟩
    match fl, hs with
    | .ret u, ⟨v, σ', H', J, rv, q⟩ => exact ⟨v, H', J.os, J.bare, J.base, J.hok, rv, q⟩
    | .next, ⟨σ', H', J, q⟩ => exact ⟨V.non, H', J.os, J.bare, J.base, J.hok, rfl, q⟩
    | .brk, ⟨_, _, _, q⟩ => exact q.elim
    | .cont, ⟨_, _, _, q⟩ => exact q.elim
end

/-- a value that may be called with positional values and the keywords ks: u (a def, a class) -/
def CallG (P : Program) (w : World) (K : PySem.W.Frag) (mg : Str → Option Value) (base : Heap) (k : Nat) (u : Value)
    (ks : List Str) (sp : List V → List V → Hp → VK → XK → Prop) : Prop :=
  ∀ (A : Around) (outer : List Env) (s : Shared) (H : Hp) (us ws : List Value) (vs zs : List V) (Q : VK) (E : XK),
    Room k A → A.guards = some [] → Env0 P w K mg base A outer s H → Vals vs us → Vals zs ws → sp vs zs H Q E →
    codeAny (model P w) A (.call u ⟨us, ks.zip ws⟩) (CR (L2.CX P w) outer P w H s Q E) s
/-- .. no keywords -/
abbrev CallP (P : Program) (w : World) (K : PySem.W.Frag) (mg : Str → Option Value) (base : Heap) (k : Nat) (u : Value) (sp : Sp) : Prop :=
  CallG P w K mg base k u [] fun vs zs H Q E => zs = [] ∧ sp vs H Q E

section
variable {P : Program} {w : World} {K : PySem.W.Frag} {mg : Str → Option Value} {base : Heap}
theorem CallG.mono {j k : Nat} {u : Value} {ks : List Str} {sp : List V → List V → Hp → VK → XK → Prop}
    (F : CallG P w K mg base j u ks sp) (h : j ≤ k) : CallG P w K mg base k u ks sp :=
  fun A o s H us ws vs zs Q E hr => F A o s H us ws vs zs Q E (hr.mono h)
/-- a def, positional values (the defaults ds behind them) -/
theorem FnG.callP {k : Nat} {f : Addr} {fd : FuncData} {ps : List Str} {sp : Sp} {ds : List Value} {dvs : List V}
    (F : FnG P w K mg base k f fd ps sp) (hb : Binds K fd ps ds) (hd : Vals dvs ds) :
    CallP P w K mg base k (.ref f) fun vs H Q E => sp (vs ++ dvs) H Q E := by
  rintro A outer s H us ws vs zs Q E room hg e0 rel relz ⟨rfl, prom⟩
  cases relz
  have r2 : Vals (vs ++ dvs) (us ++ ds) := rel.append hd
  have hl : (us ++ ds).length = ps.length := r2.length.symm.trans (F.len _ _ _ _ prom)
  have KX : K.In s.heap := e0.mod.kin.keeps fun b o e => (e0.bs b o e).1
  exact F.run A outer s H ⟨us, []⟩ (us ++ ds) (vs ++ dvs) Q E room hg e0 (hb s us KX hl) r2 prom
/-- .. with keywords -/
theorem FnG.callK {k : Nat} {f : Addr} {fd : FuncData} {ps ks : List Str} {sp : Sp}
    {g : List Value → List Value → List Value} {gV : List V → List V → List V} (F : FnG P w K mg base k f fd ps sp)
    (hb : KBinds K fd ps ks g gV) : CallG P w K mg base k (.ref f) ks fun vs zs H Q E => sp (gV vs zs) H Q E := by
  intro A outer s H us ws vs zs Q E room hg e0 rel relz prom
  have r2 := hb.rel rel relz
  have hl : (g us ws).length = ps.length := r2.length.symm.trans (F.len _ _ _ _ prom)
  have KX : K.In s.heap := e0.mod.kin.keeps fun b o e => (e0.bs b o e).1
  exact F.run A outer s H ⟨us, ks.zip ws⟩ (g us ws) (gV vs zs) Q E room hg e0 (hb.to s us ws KX hl) r2 prom
end

/-! ### the rules -/
section
variable {X : Cx} {k : Nat} {u : Value} {ks : List Str} {sp : Sp} {spk : List V → List V → Hp → VK → XK → Prop} {W : WX}
  {x m : Str} {p pos apos : Pos} {e o : Expr} {es : List Expr} {kws : List Keyword} {ta : TE} {t tk : TA}
/-- nothing that is raised is taken -/
theorem tkN : Takes X (fun _ _ _ _ => False) := fun _ _ ⟨_, _, _, _, _, _, _, _, _, _, _, _, _, _, _, _, q⟩ => q.elim

theorem run_callG {pins : List (Addr × Obj)} {σ : L2.St} {H : Hp} {s : Shared} {Q : VK} {us ws : List Value} {vs zs : List V}
    (F : CallG X.prog X.w X.K X.mg X.base k u ks spk) (hr : Room k X.A) (hG : X.A.guards = some []) (tkW : Takes X W)
    (I : Inv X pins σ H s) (r : Vals vs us) (rz : Vals zs ws) (h : spk vs zs H Q fun cls d H' => W cls d σ H') :
    wpAny (model X.prog X.w) X.A (call u us (ks.zip ws)) (EP X pins σ Q) X.xe s := by
  refine wpAny_call (codeAny_mono (F X.A X.stack s H us ws vs zs Q _ hr hG I.env0 r rz h) ?_)
  intro res s' hq
  match res, hq with
  | .error e, hq => exact tkW e s' (XE.of_call I (fun _ _ _ z => z) hq)
  | .ok (.ret u), hq => exact I.after hq

/-- f(e, ..) -/
def tCa (sp : Sp) (W : WX) (t : TA) : TE := fun σ H Q => t σ H fun vs H1 => sp vs H1 Q fun cls d H' => W cls d σ H'
theorem pe_ca (F : CallP X.prog X.w X.K X.mg X.base k u sp) (hr : Room k X.A) (hG : X.A.guards = some []) (hg : Gl X x) (hm : X.mg x = some u)
    (hk : PySem.W.keepIn X.K u = true) (tkW : Takes X W) (ha : PA X (e :: es) t) (hdb : (x == ("__debug__" : Str)) = false := by decide)
    (he : starEach (e :: es) X.env = (false, eval e X.env) :: starEach es X.env := by rfl)
    (hpl : (backTo pos (starEach es X.env)).any (·.1) = false := by rfl) : PE X (.Call (.Name x p) (e :: es) [] pos) (tCa sp W t) where
  run := by
    intro pins s σ H Q I h
    refine wpAny_Call_Name_kw (ld_glob I hg hm ?_ hdb)
    refine PySem.W.callWith_K (h₀ := X.base) I.ok.mod.kin hk (thn (ha.run pos pins s σ H _ I h) ?_) he hpl
    rintro us s1 ⟨vs, H1, I1, r, q⟩
    exact ⟨I1.kIn, run_callG (ws := []) (zs := []) F hr hG tkW I1 r .nil ⟨rfl, q⟩⟩
theorem pe_ca0 (F : CallP X.prog X.w X.K X.mg X.base k u sp) (hr : Room k X.A) (hG : X.A.guards = some []) (hg : Gl X x) (hm : X.mg x = some u)
    (hk : PySem.W.keepIn X.K u = true) (tkW : Takes X W) (hdb : (x == ("__debug__" : Str)) = false := by decide) :
    PE X (.Call (.Name x p) [] [] pos) (tCa sp W tNil) where
  run := by
    intro pins s σ H Q I h
    refine wpAny_Call_Name_kw (ld_glob I hg hm ?_ hdb)
    exact PySem.W.callWith_K0 I.kIn hk (run_callG (us := []) (vs := []) (ws := []) (zs := []) F hr hG tkW I .nil .nil ⟨rfl, h⟩)
/-- f(e, .., k = v, ..) -/
def tCaK (sp : List V → List V → Hp → VK → XK → Prop) (W : WX) (t tk : TA) : TE := fun σ H Q =>
  t σ H fun vs H1 => tk σ H1 fun zs H2 => sp vs zs H2 Q fun cls d H' => W cls d σ H'
theorem pe_caK (F : CallG X.prog X.w X.K X.mg X.base k u ks spk) (hr : Room k X.A) (hG : X.A.guards = some []) (hg : Gl X x) (hm : X.mg x = some u)
    (hk : PySem.W.keepIn X.K u = true) (tkW : Takes X W) (ha : PA X (e :: es) t) (hkw : PK X kws tk)
    (hall : (backToKw pos (keywordEach kws X.env)).all (·.1.isSome) = true := by rfl) (hks : (backToKw pos (keywordEach kws X.env)).filterMap (·.1) = ks := by rfl)
    (hdb : (x == ("__debug__" : Str)) = false := by decide) (he : starEach (e :: es) X.env = (false, eval e X.env) :: starEach es X.env := by rfl)
    (hpl : ((backTo pos (starEach (e :: es) X.env)).any (·.1) || (backToKw pos (keywordEach kws X.env)).any (·.1.isNone)) = false := by rfl) :
    PE X (.Call (.Name x p) (e :: es) kws pos) (tCaK spk W t tk) where
  run := by
    intro pins s σ H Q I h
    refine wpAny_Call_Name_kw (ld_glob I hg hm ?_ hdb)
    refine PySem.W.callWith_KW (h₀ := X.base) I.ok.mod.kin hk hall (thn (ha.run pos pins s σ H _ I h) ?_) hpl he
    rintro us s1 ⟨vs, H1, I1, r, q⟩
    refine thn (hkw.run pos pins s1 σ H1 _ I1 q) ?_
    rintro ws s2 ⟨zs, H2, I2, rz, q2⟩
    rw [hks]
    exact ⟨I2.kIn, run_callG F hr hG tkW I2 r rz q2⟩
/-- f(k = v, ..) -/
theorem pe_caK0 (F : CallG X.prog X.w X.K X.mg X.base k u ks spk) (hr : Room k X.A) (hG : X.A.guards = some []) (hg : Gl X x) (hm : X.mg x = some u)
    (hk : PySem.W.keepIn X.K u = true) (tkW : Takes X W) (hkw : PK X kws tk)
    (hall : (backToKw pos (keywordEach kws X.env)).all (·.1.isSome) = true := by rfl) (hks : (backToKw pos (keywordEach kws X.env)).filterMap (·.1) = ks := by rfl)
    (hdb : (x == ("__debug__" : Str)) = false := by decide)
    (hpl : ((backTo pos (starEach [] X.env)).any (·.1) || (backToKw pos (keywordEach kws X.env)).any (·.1.isNone)) = false := by rfl) :
    PE X (.Call (.Name x p) [] kws pos) (tCaK spk W tNil tk) where
  run := by
    intro pins s σ H Q I h
    refine wpAny_Call_Name_kw (ld_glob I hg hm ?_ hdb)
    refine PySem.W.callWith_KW0 (h₀ := X.base) I.ok.mod.kin hk hall (thn (hkw.run pos pins s σ H _ I h) ?_) hpl
    rintro ws s2 ⟨zs, H2, I2, rz, q2⟩
    rw [hks]
    exact ⟨I2.kIn, run_callG (us := []) (vs := []) F hr hG tkW I2 .nil rz q2⟩
end
end BJ

/-! own exception classes over a family over a built-in class; __init__(self, f, ..): super().__init__(text); self.f = f; .. -/
namespace BJ
open PySem PySem.Spec PyProof.Rows L2 Builtin Builtin.ObjectAttr
open PySem.W (Looks Frag findIn subIn nsIn typeIn keepIn codeIn hasDictIn clsIn takerIn excInitIn excOver excObj KxsFacts ksFn ksEnv ks_superIn isFn looks_findIn looks_clsIn InstAt kxs_mw)

/-- the built-in class at the end -/
structure Fam (B initId newId : String) (bm : List Value) : Prop where
  FB : ExcBaseFacts B newId initId bm
  SF : StoreFacts B bm "object.__setattr__" "object"
  KF : KxsFacts B initId
theorem famV : Fam "ValueError" "ValueError.__init__" "ValueError.__new__" [.type "ValueError", .type "Exception", .type "BaseException", .type "object"] := ⟨F.excBase_ValueError, F.store_ValueError, PySem.W.kxs_ValueError⟩
theorem famR : Fam "RuntimeError" "RuntimeError.__init__" "RuntimeError.__new__" [.type "RuntimeError", .type "Exception", .type "BaseException", .type "object"] :=
  ⟨F.excBase_RuntimeError, F.store_RuntimeError, PySem.W.kxs_RuntimeError⟩
theorem famL : Fam "LookupError" "LookupError.__init__" "LookupError.__new__" [.type "LookupError", .type "Exception", .type "BaseException", .type "object"] :=
  ⟨F.excBase_LookupError, F.store_LookupError, PySem.W.kxs_LookupError⟩

section
variable {prog : Program} {w : World} {M : Model} {A : Around} {E : Value → Shared → Prop} {R : Result → Shared → Prop} {hp : Heap} {g : Array GenState} {d : Drawn} {t : Nat} {os : OsState}
  {B initId newId : String} {bm : List Value} {K : Frag} {C x : Addr} {name : Str} {v : Value}
/-- the first field of a fresh exception: its dict is made -/
theorem errset_new {t0 : Addr} {Q : Unit → Shared → Prop} (FA : Fam B initId newId bm) (X : K.In hp) (hx : hp.get? x = some (excObj C t0 none .none))
    (ov : excOver K C bm = true) (hd : hasDictIn K C = true) (tk : takerIn K C name = some none)
    (sa : findIn K (.ref C) "__setattr__" = some (some (.builtin "object.__setattr__")))
    (hq : ∀ h' tk' dx, (∀ b o, b ≠ x → hp.get? b = some o → h'.get? b = some o) → hp.objs.size ≤ dx → dx ≠ x →
      h'.get? x = some (excObj C t0 (some dx) .none) → h'.Ns1 dx (fun y => if y = name then some v else none) → Q () ⟨h', g, d, tk', os⟩) :
    wpAny (model prog w) A (setAttr (.ref x) name v) Q E ⟨hp, g, d, t, os⟩ := by
  have I : InstAt hp x (excObj C t0 none .none) C none := ⟨hx, rfl, rfl, trivial⟩
  have hxs : x ≠ hp.objs.size := Nat.ne_of_lt (Heap.lt_size hx)
  obtain ⟨cd, hcd, hh⟩ : ∃ cd, clsIn K C = some cd ∧ cd.hasDict = true := by
    have z : (clsIn K C).any (·.hasDict) = true := hd
    cases e : clsIn K C with
    | none => rw [e] at z; cases z
    | some cd => rw [e] at z; exact ⟨cd, rfl, z⟩
  have hcls : Looks (model prog w) hp (classData C) cd := looks_clsIn X hcd
  obtain ⟨nm, bs, mro, ns, qn, hdd, sn, sb, ab, col, del⟩ := cd
  dsimp only at hh
  subst hh
  refine PySem.W.set_plain X I sa (PySem.W.osa_openX FA.SF X I ov tk fun b => ?_)
  show wpAny _ _ (storeInOwnDict (.ref x) (.ref C) (.str name t) name v b) _ _ _
  unfold storeInOwnDict ownDictForStores
  repeat (first
    | with_reducible refine HandSPX.store_in_new ?_ ?_
    | with_reducible refine wpAny_loadPart_at hx ?_
    | with_reducible refine hcls.at ?_
    | wp_step)
  · exact ⟨_, #[], _, (Heap.get?_update_ne _ _ _ _ hxs.symm).trans (Heap.get?_push_at rfl rfl), rfl, fun e he => absurd he (by simp), fun _ => rfl⟩
  · intro h' tk' hn' hs
    have hx₁ : (hp.push { cls := .type "dict", data := .dict #[] }).get? x = some (excObj C t0 none .none) := Heap.get?_push_of_some _ hx
    refine hq h' tk' hp.objs.size (fun b o hb ho => ?_) (Nat.le_refl _) hxs.symm ?_ hn'
    · exact (hs.2 b (Nat.ne_of_lt (Heap.lt_size ho))).trans ((Heap.get?_update_ne _ _ _ _ hb).trans (Heap.get?_push_of_some _ ho))
    · exact (hs.2 x hxs).trans (Heap.get?_update_self _ hx₁ rfl)
/-- a further field -/
theorem errset_old {t0 dx : Addr} {m0 : Str → Option Value} {nl : List Str} {Q : Unit → Shared → Prop} (FA : Fam B initId newId bm) (X : K.In hp)
    (hx : hp.get? x = some (excObj C t0 (some dx) .none)) (hns : hp.Ns1 dx m0) (hw : Within m0 nl) (hz : nl.length ≤ 1000)
    (ov : excOver K C bm = true) (hd : hasDictIn K C = true) (tk : takerIn K C name = some none)
    (sa : findIn K (.ref C) "__setattr__" = some (some (.builtin "object.__setattr__")))
    (hq : ∀ h' tk', (∀ b o, b ≠ dx → hp.get? b = some o → h'.get? b = some o) → h'.Ns1 dx (fun y => if y = name then some v else m0 y) → Q () ⟨h', g, d, tk', os⟩) :
    wpAny (model prog w) A (setAttr (.ref x) name v) Q E ⟨hp, g, d, t, os⟩ := by
  obtain ⟨oD, esD, epD, hoD, hdD, _⟩ := hns.count hw
  have I : InstAt hp x (excObj C t0 (some dx) .none) C (some oD) := ⟨hx, rfl, rfl, hoD⟩
  obtain ⟨cd, hcd, hh⟩ : ∃ cd, clsIn K C = some cd ∧ cd.hasDict = true := by
    have z : (clsIn K C).any (·.hasDict) = true := hd
    cases e : clsIn K C with
    | none => rw [e] at z; cases z
    | some cd => rw [e] at z; exact ⟨cd, rfl, z⟩
  have hcls : Looks (model prog w) hp (classData C) cd := looks_clsIn X hcd
  obtain ⟨nm, bs, mro, ns, qn, hdd, sn, sb, ab, col, del⟩ := cd
  dsimp only at hh
  subst hh
  refine PySem.W.set_plain X I sa (PySem.W.osa_openX FA.SF X I ov tk fun b => ?_)
  show wpAny _ _ (storeInOwnDict (.ref x) (.ref C) (.str name t) name v b) _ _ _
  unfold storeInOwnDict ownDictForStores
  repeat (first
    | with_reducible refine OEX.store_in_old hns hw hz ?_
    | with_reducible refine wpAny_loadPart_at hx ?_
    | with_reducible refine hcls.at ?_
    | wp_step)
  intro h' tk' hn' hs
  exact hq h' tk' (fun b o hb ho => (hs.2 b hb).trans ho) hn'

/-- super().__init__(text) in an own exception's __init__, called: the bound wrapper is called -/
theorem errcall {u e t0 : Addr} {rest : List Value} {Q : Value → Shared → Prop} (FA : Fam B initId newId bm) (X : K.In hp) (q : excInitIn K C bm newId = true)
    (he : hp.get? e = some (excObj C t0 none .none)) (hu : hp.get? u = some (kxs_mw initId e)) (hz : rest.length ≤ sizeLine)
    (hq : ∀ h' t1, (∀ b o, b ≠ e → hp.get? b = some o → h'.get? b = some o) → h'.get? e = some (excObj C t1 none .none) → Q .none ⟨h', g, d, t, os⟩) :
    wpAny (model prog w) A (call (.ref u) rest) Q E ⟨hp, g, d, t, os⟩ := by
  obtain ⟨nm, N', qn, bs, bm', hdct, sn, sub, ab, col, dd, k0, k1, k2, k3, k5, hC, hT⟩ := PySem.W.excInit_of X q
  refine wpAny_call (codeAny_of_tree ?_)
  show wpAny _ A.in1 (callAny (.ref u) ⟨rest, []⟩) _ _ _
  simp only [callAny]
  refine wpAny_bind (wpAny_load hu ?_)
  simp only [kxs_mw, show (Value.type "method-wrapper" == Value.type "method" || Value.type "method-wrapper" == Value.type "builtin_function_or_method" ||
    Value.type "method-wrapper" == Value.type "method-wrapper") = true by decide, if_true]
  refine PySem.W.KFB.if_so (by decide) (wpAny_bind (PySem.W.check_bound_init FA.FB.toExcCallFacts hC he rfl ?_))
  refine wpAny_bind (wpAny_pure (wpAny_pure ⟨plainId_quiet FA.FB.init.plain _, codeAny_builtin FA.FB.initEntry ?_⟩))
  exact PySem.W.exc_init_tree (cls := .ref C) (t0 := t0) (dv := none) (c2 := .none) (c3 := .none) (b4 := .bool false) he hz fun h' k e' _ => hq h' _ k e'
end
end BJ

/-! the run of such an __init__; the class called -/
namespace BJ
open PySem PySem.Spec PyProof.Rows L2 Builtin Builtin.ObjectAttr
open PySem.W (Looks Frag findIn subIn nsIn typeIn keepIn codeIn hasDictIn clsIn takerIn excInitIn excOver excObj KxsFacts ksFn ksEnv ks_superIn isFn looks_findIn looks_clsIn InstAt kxs_mw)

/-! ### the text -/
def eiA (fs : List (Str × Pos)) (p : Pos) : Arguments :=
  { posonlyargs := [], args := { arg := "self", annotation := none, pos := p } :: fs.map fun f => { arg := f.1, annotation := none, pos := f.2 },
    vararg := none, kwonlyargs := [], kw_defaults := [], kwarg := none, defaults := [] }
def eiSup (t : Str) (p0 p1 p2 p3 p4 : Pos) : Stmt :=
  .Expr (.Call (.Attribute (.Call (.Name "super" p0) [] [] p1) "__init__" p2) [.Constant (.str t) 0 p3] [] p4) p4
def eiSet (f : Str) (q1 q2 q3 q4 : Pos) : Stmt := .Assign [.Attribute (.Name "self" q1) f q2] (.Name f q3) q4
def eiS (fs : List Str) : Scope := { kind := .function, names := (("self" : Str), NameKind.local) :: (fs.map (fun f => (f, NameKind.local)) ++ [(("__class__" : Str), NameKind.free), (("super" : Str), NameKind.globalImplicit)]), isGenerator := false, isCoroutine := false, more := [] }

/-- what the written part says of the class at C, its __init__ at fI, the class cell at cc, the code object at cda -/
structure ErrK (prog : Program) (K : Frag) (mg : Str → Option Value) (C fI cc cda : Addr) (B initId newId : String) (bm : List Value) (x : Str) (fs : List Str) : Prop where
  fam : Fam B initId newId bm
  gC : mg x = some (.ref C)
  ini : excInitIn K C bm newId = true
  ov : excOver K C bm = true
  hd : hasDictIn K C = true
  iC : findIn K (.ref C) "__init__" = some (some (.ref fI))
  isf : isFn K (.ref fI) = true
  sup : ks_superIn K C C "__init__" = some (some (.builtin initId))
  subB : subIn K (.ref C) (.type B) = some true
  stat : nsIn K PySem.cStatics "thirdparty.any" = some none
  super : mg "super" = none
  sa : findIn K (.ref C) "__setattr__" = some (some (.builtin "object.__setattr__"))
  tk : ∀ f ∈ fs, takerIn K C f = some none
  cell : ∃ cl cld csl, K.lookup cc = some ⟨cl, cld, .cell (some (.ref C)), csl⟩
  code : ∃ ccl cdd vs ccs tf, K.lookup cda = some ⟨ccl, cdd, .fields vs, ccs⟩ ∧ vs[2]? = some (.str prog.main.file tf)
  mro : PySem.W.mroIn K C (.ref C) = some true
  cls : ∃ cd, clsIn K C = some cd
  top : (prog.main.scope.names.lookup ("super" : Str)).isSome = false

section
variable {prog : Program} {w : World} {A : Around} {E : Value → Shared → Prop} {R : Result → Shared → Prop} {s : Shared} {K : Frag} {mg : Str → Option Value} {base : Heap}
  {B initId newId : String} {bm : List Value} {C fI cc cda x : Addr} {cn qual t : Str} {fs : List Str}

theorem eval_sup {o : Expr} {name : Str} {p2 p4 p3 : Pos} {env : Env} (hl : (p2.endLine == p4.line) = true) : eval (.Call (.Attribute o name p2) [.Constant (.str t) 0 p3] [] p4) env = (do
      let ov ← attributeBase o name env (eval o env)
      standAt p2.atName
      let (f, first) ← holding [ov] (getMethod ov name (do return (← importBound o env).getD true))
      callWith p4 f first (backTo p4 (starEach [.Constant (.str t) 0 p3] env)) []) := by
  show (do
    let ov ← attributeBase o name env (eval o env)
    standAt p2.atName
    methodCall o name p2 p4 env ov 1 (backTo p4 (starEach [.Constant (.str t) 0 p3] env)) []) = _
  have e : ∀ ov, methodCall o name p2 p4 env ov 1 (backTo p4 (starEach [.Constant (.str t) 0 p3] env)) [] = (do
      let (f, first) ← holding [ov] (getMethod ov name (do return (← importBound o env).getD true))
      callWith p4 f first (backTo p4 (starEach [.Constant (.str t) 0 p3] env)) []) := fun ov => by
    unfold methodCall methodCallPos
    rw [hl, Bool.or_true, if_pos rfl]
    rfl
  simp only [e]
/-- the first statement -/
theorem err_sup (T : ErrK prog K mg C fI cc cda B initId newId bm cn fs) (M0 : Mod K mg base) {scope : Scope} {body : List Stmt} {L : Addr} {m : Str → Option Value} {oI : Obj} {fd : FuncData} {ar : Arg}
    (kb : ∀ b o, base.get? b = some o → s.heap.get? b = some o) {t0 : Addr} (hx : s.heap.get? x = some (excObj C t0 none .none)) (hns : s.heap.Ns L m) (hm : m "self" = some (.ref x)) (xL : L ≠ x)
    (lk : K.lookup fI = some oI) (hfd : oI.data = .func fd) (hp : (fd.params.posonlyargs ++ fd.params.args).head? = some ar) (har : ar.arg = "self")
    (hk : scope.kind = .function) (hka : scope.names.lookup ("self" : Str) = some .local) (hkc : scope.names.lookup ("__class__" : Str) = some .free) (hks : scope.names.lookup ("super" : Str) = some .globalImplicit)
    {p0 p1 p2 p3 p4 : Pos} {Q : Flow → Shared → Prop} (hl : (p2.endLine == p4.line) = true)
    (hq : ∀ h' tk' t1, (∀ b o, b ≠ x → s.heap.get? b = some o → h'.get? b = some o) → h'.get? x = some (excObj C t1 none .none) → h'.Ns L m → Q .next { s with heap := h', toks := tk' }) :
    _root_.PySem.wpAt (model prog w) A (.func body (ksEnv qual scope L fI (.ref cda) cc)) (exec (eiSup t p0 p1 p2 p3 p4) (ksEnv qual scope L fI (.ref cda) cc)) Q E s := by
  have X : K.In s.heap := M0.kin.keeps kb
  obtain ⟨ccl, cdd, vs, ccs, tf, hcode, hvs⟩ := T.code
  obtain ⟨cl, cld, csl, hcell⟩ := T.cell
  obtain ⟨cd, hcd⟩ := T.cls
  obtain ⟨mb, hb1, hb2⟩ := M0.blt
  obtain ⟨oD, hD1, hD2⟩ : ∃ oD, s.heap.get? C = some oD ∧ oD.data = .cls cd := by
    have hcd' := hcd
    unfold PySem.W.clsIn at hcd'
    split at hcd'
    · rename_i c d cd' sl ho
      cases hcd'
      exact ⟨_, X _ _ ho, rfl⟩
    · cases hcd'
  have I : InstAt s.heap x (excObj C t0 none .none) C none := ⟨hx, rfl, rfl, trivial⟩
  obtain ⟨hh, g, d, tk, os⟩ := s
  refine ks_wpAt_Expr_any (ks_wpAt_MethodCall (ks_wpAt_super_base (of := oI) (fd := fd) (ar := ar) (vs := vs) (file := prog.main.file) (tf := tf) hks hkc (by decide) rfl (X _ _ lk) hfd hp rfl (X _ _ hcode) rfl hvs (by simp) T.top ?_) (eval_sup hl)) (by simp [interactive, hk])
  refine PySem.W.ks_loadName_global hk hks (Calls.loadGlobal_builtin (M0.glob.keeps kb) T.super (hb1.keeps kb) ((hb2 _ (by decide)).trans (show bootBuiltins "super" = some (.type "super") by decide +kernel)) ⟨rfl, ?_⟩)
  refine wpAny_loadName_free hk hkc rfl ⟨_, X _ _ hcell, rfl⟩ ?_
  refine wpAny_loadName_local hk (by rw [har]; exact hka) hns (by rw [har]; exact hm) ?_
  refine ks_wpAny_isType_cls hD1 hD2 ⟨rfl, ?_⟩
  refine ks_wpAny_call_super hD1 hD2 hx rfl (fun c e => nomatch e) (PySem.W.looks_mroIn X T.mro) fun h1 e1 k1 => ?_
  have X1 : K.In h1 := X.keeps k1
  have hm1 : Looks (model prog w) h1 (mroOf (.ref C)) cd.mro := (looks_clsIn X1 hcd).andThen .now
  have sup := T.sup
  unfold PySem.W.ks_superIn at sup
  rw [hcd, Option.bind_some] at sup
  have xC : x ≠ C := PySem.W.ks_ne X I hcd
  refine PySem.W.kxs_getMethod T.fam.KF e1 (PySem.W.looks_opaque X1 T.stat) hm1 rfl X1 sup ((InstAt.type (od := none) ⟨k1 _ _ hx, rfl, rfl, trivial⟩ : Looks _ h1 (typeOf (.ref x)) (.ref C)).andThen (PySem.W.looks_subIn X1 T.subB)) xC (by decide) ?_
  have hpu : (h1.push (kxs_mw initId x)).get? h1.objs.size = some (kxs_mw initId x) := Heap.get?_push_at rfl rfl
  refine PySem.W.kxs_callWith (i := initId) (x := x) rfl ?_
  refine Calls.evalArgs_plain (Calls.spliced_cons (Calls.Constant_str (k := 0) (pos := p3) ?_))
  refine Calls.spliced_nil ⟨hpu, ?_⟩
  refine errcall T.fam (X1.keeps fun b o e => Heap.get?_push_of_some _ e) T.ini (Heap.get?_push_of_some _ (k1 _ _ hx)) hpu (by rw [sizeLine_eq]; show 1 ≤ 16777216; decide) fun h' t1 k' hx' => ?_
  have ka : ∀ b o, b ≠ x → hh.get? b = some o → h'.get? b = some o := fun b o hb e => k' b o hb (Heap.get?_push_of_some _ (k1 _ _ e))
  refine hq h' _ t1 ka hx' ?_
  obtain ⟨o, es, ep, ho, r⟩ := hns
  exact ⟨o, es, ep, ka _ _ xL ho, r⟩

/-- a name of the frame -/
theorem ldF {M : Model} {m : Str → Option Value} {env : Env} {y : Str} {pos : Pos} {v : Value} {Q : Value → Shared → Prop} (hk : env.scope.kind = .function)
    (hl : env.kindOf y = some .local) (hn : s.heap.Ns env.locals m) (hv : m y = some v) (h : Q v s) (hd : (y == ("__debug__" : Str)) = false) : wpAny M A (eval (.Name y pos) env) Q E s :=
  wpAny_Name (wpAny_loadName_local hk hl hn hv h) hd
theorem err_fn (T : ErrK prog K mg C fI cc cda B initId newId bm cn fs) (X : K.In s.heap) : ∃ o, s.heap.get? fI = some o ∧ o.cls = .type "function" := by
  obtain ⟨o, ho, hc⟩ := Option.map_eq_some_iff.mp (show (K.lookup fI).map (·.cls) = some (.type "function") from beq_iff_eq.mp T.isf)
  exact ⟨o, X _ _ ho, hc⟩

/-- the stores -/
def setsB (l : List (Str × Pos × Pos × Pos × Pos)) : List Stmt := l.map fun y => eiSet y.1 y.2.1 y.2.2.1 y.2.2.2.1 y.2.2.2.2
/-- what a frame must know for a store -/
structure SetOk (K : Frag) (C x L : Addr) (env : Env) (m : Str → Option Value) (val : Str → Value) (f : Str) : Prop where
  tk : takerIn K C f = some none
  loc : env.kindOf f = some .local
  at_ : m f = some (val f)
  dbg : (f == ("__debug__" : Str)) = false
def putM (l : List Str) (val : Str → Value) (m0 : Str → Option Value) : Str → Option Value := fun y => if y ∈ l then some (val y) else m0 y
theorem putM_nil {val : Str → Value} {m0 : Str → Option Value} : putM [] val m0 = m0 := by
  funext y
  simp [putM]
theorem putM_cons {f : Str} {l : List Str} {val : Str → Value} {m0 : Str → Option Value} : putM l val (fun y => if y = f then some (val f) else m0 y) = putM (f :: l) val m0 := by
  funext y
  unfold putM
  by_cases h : y ∈ l
  · simp [h]
  · by_cases e : y = f
    · subst e; simp [h]
    · simp [h, e]
theorem sets_old {env : Env} {m : Str → Option Value} {val : Str → Value} {dx t0 : Addr} (FA : Fam B initId newId bm) (ov : excOver K C bm = true) (hd : hasDictIn K C = true)
    (sa : findIn K (.ref C) "__setattr__" = some (some (.builtin "object.__setattr__"))) (hk : env.scope.kind = .function) (hself : env.kindOf "self" = some .local) (hms : m "self" = some (.ref x)) (Ld : env.locals ≠ dx) (xd : x ≠ dx) (nK : K.lookup dx = none) :
    ∀ (l : List (Str × Pos × Pos × Pos × Pos)) (s : Shared) (m0 : Str → Option Value) (nl : List Str) (Q : Flow → Shared → Prop), K.In s.heap → s.heap.get? x = some (excObj C t0 (some dx) .none) → s.heap.Ns1 dx m0 → Within m0 nl → nl.length + l.length ≤ 1000 →
      s.heap.Ns env.locals m → (∀ y ∈ l, SetOk K C x env.locals env m val y.1) →
      (∀ h' tk', (∀ b o, b ≠ dx → s.heap.get? b = some o → h'.get? b = some o) → h'.Ns1 dx (putM (l.map (·.1)) val m0) → Q .next { s with heap := h', toks := tk' }) →
      wpAny (model prog w) A (execs (setsB l) env) Q E s
  | [], s, m0, nl, Q, X, hx, hns, hw, hz, hF, hy, hq => by
    refine wpAny_execs_nil (hq s.heap s.toks (fun _ _ _ e => e) ?_)
    rw [List.map_nil, putM_nil]
    exact hns
  | y :: r, s, m0, nl, Q, X, hx, hns, hw, hz, hF, hy, hq => by
    have S := hy y List.mem_cons_self
    rw [List.length_cons] at hz
    refine wpAny_execs_cons (plainObj_wpAny_Assign_Attribute (ldF hk S.loc hF S.at_ (ldF hk hself hF hms ?_ (by decide)) S.dbg))
    obtain ⟨hp, g, d, t, os⟩ := s
    refine errset_old FA X hx hns hw (by omega) ov hd S.tk sa fun h' tk' k' n' => ?_
    have X' : K.In h' := fun a o e => k' a o (fun z => by rw [z, nK] at e; cases e) (X a o e)
    have hF' : h'.Ns env.locals m := by
      obtain ⟨o, es, ep, ho, r⟩ := hF
      exact ⟨o, es, ep, k' _ _ Ld ho, r⟩
    refine sets_old FA ov hd sa hk hself hms Ld xd nK r ⟨h', g, d, tk', os⟩ _ (y.1 :: nl) Q X' (k' _ _ xd hx) n' (Within.cons _ _ hw) (by rw [List.length_cons]; omega) hF' (fun z hz => hy z (List.mem_cons_of_mem _ hz)) fun h2 tk2 k2 n2 => ?_
    refine hq h2 tk2 (fun b o hb e => k2 b o hb (k' b o hb e)) ?_
    rw [List.map_cons, ← putM_cons]
    exact n2

/-- what is left of a made exception: its object at e, its dict at d -/
structure ErrMade (h h' : Heap) (e C d : Addr) (mA : Str → Option Value) : Prop where
  keep : ∀ b o, h.get? b = some o → h'.get? b = some o
  new : h.objs.size ≤ e
  obj : ∃ t0, h'.get? e = some (excObj C t0 (some d) .none)
  dnew : h.objs.size ≤ d
  dne : d ≠ e
  ns : h'.Ns1 d mA

/-- the text of __init__ with the fields fs; the function object -/
structure IniK (K : Frag) (fI cc cda : Addr) (qual t : Str) (fs : List Str) : Prop where
  lk : ∃ (oc : Value) (od : Option Addr) (dV kV doc pm : Value) (an : Option Addr) (ct : Value) (osl : Array (Option Value)) (p : Pos) (qs : List Pos) (p0 p1 p2 p3 p4 : Pos) (l : List (Str × Pos × Pos × Pos × Pos)),
    K.lookup fI = some ⟨oc, od, .func (ksFn "__init__" qual (eiA (fs.zip qs) p) (eiSup t p0 p1 p2 p3 p4 :: setsB l) (eiS fs) dV kV doc pm an (.ref cda) ct cc), osl⟩ ∧
      (p2.endLine == p4.line) = true ∧ l.map (·.1) = fs ∧ qs.length = fs.length
  code : codeIn K (.ref cda) qual = true
  ne : ∀ f ∈ fs, ¬ f = "self" ∧ ¬ f = "__class__" ∧ ¬ f = "super" ∧ (f == ("__debug__" : Str)) = false
  nd : fs.Nodup
  some_ : fs ≠ [] ∧ fs.length ≤ 10
  bind : ∀ fd, (∃ oc od osl, K.lookup fI = some ⟨oc, od, .func fd, osl⟩) → ∀ (u : Value) (us : List Value), us.length = fs.length → bindArgs fd ⟨u :: us, []⟩ = pure ((("self" : Str), u) :: fs.zip us)

theorem lookup_cons_if {β : Type} (a : Str) (b : β) (l : List (Str × β)) (y : Str) : List.lookup y ((a, b) :: l) = if y = a then some b else l.lookup y := by
  rw [List.lookup_cons]
  by_cases h : y = a
  · subst h; simp
  · have z : (y == a) = false := by simpa using h
    rw [z, if_neg h]
theorem lookup_append_ {β : Type} (l r : List (Str × β)) (y : Str) : List.lookup y (l ++ r) = (l.lookup y).or (r.lookup y) := by
  induction l with
  | nil => simp
  | cons p l ih =>
    obtain ⟨a, b⟩ := p
    rw [List.cons_append, lookup_cons_if, lookup_cons_if, ih]
    split <;> simp
theorem lookup_rev {β : Type} : ∀ (l : List (Str × β)), (l.map (·.1)).Nodup → ∀ k v, (k, v) ∈ l → l.reverse.lookup k = some v
  | [], _, _, _, h => nomatch h
  | (a, b) :: l, nd, k, v, h => by
    rw [List.map_cons, List.nodup_cons] at nd
    rw [List.reverse_cons, lookup_append_]
    rcases List.mem_cons.mp h with e | h
    · injection e with e1 e2
      subst e1
      subst e2
      have z : l.reverse.lookup k = none := by
        rw [List.lookup_eq_none_iff]
        intro p hp
        have hp' : p ∈ l := by simpa using hp
        have : ¬ k = p.1 := fun e => nd.1 (by rw [e]; exact List.mem_map_of_mem (f := (·.1)) hp')
        simpa using this
      rw [z, Option.none_or, lookup_cons_if, if_pos rfl]
    · rw [lookup_rev l nd.2 k v h]
      rfl
theorem eiS_loc {fs : List Str} {y : Str} (h : y = "self" ∨ y ∈ fs) : (eiS fs).names.lookup y = some .local := by
  unfold eiS
  show List.lookup y ((("self" : Str), NameKind.local) :: _) = _
  rw [lookup_cons_if]
  by_cases e : y = "self"
  · rw [if_pos e]
  · rw [if_neg e, lookup_append_]
    have hy : y ∈ fs := h.resolve_left e
    have : (fs.map fun f => (f, NameKind.local)).lookup y = some .local := by
      clear h e
      induction fs with
      | nil => cases hy
      | cons a l ih =>
        rw [List.map_cons, lookup_cons_if]
        by_cases e : y = a
        · rw [if_pos e]
        · rw [if_neg e]
          exact ih ((List.mem_cons.mp hy).resolve_left e)
    rw [this]
    rfl
theorem eiS_out {fs : List Str} {y : Str} (h : ¬ y = "self") (hy : y ∉ fs) : (eiS fs).names.lookup y = List.lookup y [(("__class__" : Str), NameKind.free), (("super" : Str), NameKind.globalImplicit)] := by
  unfold eiS
  show List.lookup y ((("self" : Str), NameKind.local) :: _) = _
  rw [lookup_cons_if, if_neg h, lookup_append_]
  have : (fs.map fun f => (f, NameKind.local)).lookup y = none := by
    rw [List.lookup_eq_none_iff]
    intro p hp
    obtain ⟨f, hf, rfl⟩ := List.mem_map.mp hp
    have : ¬ y = f := fun e => hy (e ▸ hf)
    simpa using this
  rw [this]
  rfl
theorem eiS_cell {fs : List Str} : ∀ z ∈ (eiS fs).names, z.2 ≠ .cell := by
  intro z hz
  unfold eiS at hz
  rcases List.mem_cons.mp hz with rfl | hz
  · exact fun e => nomatch e
  rcases List.mem_append.mp hz with hz | hz
  · obtain ⟨f, _, rfl⟩ := List.mem_map.mp hz
    exact fun e => nomatch e
  · rcases List.mem_cons.mp hz with rfl | hz
    · exact fun e => nomatch e
    · rcases List.mem_cons.mp hz with rfl | hz
      · exact fun e => nomatch e
      · cases hz

/-- THE RUN of __init__ -/
theorem err_init (T : ErrK prog K mg C fI cc cda B initId newId bm cn fs) (N : IniK K fI cc cda qual t fs) (M0 : Mod K mg base) {us : List Value} {args : Args} {t0 : Addr} (hul : us.length = fs.length)
    (kb : ∀ b o, base.get? b = some o → s.heap.get? b = some o) (hx : s.heap.get? x = some (excObj C t0 none .none)) (nK : K.lookup x = none) (hroom : A.depth < recursionLimit)
    (hb : ∀ fd, (∃ oc od osl, K.lookup fI = some ⟨oc, od, .func fd, osl⟩) → BindsTo s fd args ((("self" : Str), Value.ref x) :: fs.zip us))
    (hq : ∀ h' tk' d t1, (∀ b o, b ≠ x → s.heap.get? b = some o → h'.get? b = some o) → s.heap.objs.size ≤ d → h'.get? x = some (excObj C t1 (some d) .none) →
      h'.Ns1 d (putM fs (fun f => ((fs.zip us).lookup f).getD .none) fun _ => none) → R (.ok (.ret .none)) { s with heap := h', toks := tk' }) :
    codeAny (model prog w) A (.call (.ref fI) args) R s := by
  obtain ⟨oc, od, dV, kV, doc, pm, an, ct, osl, p, qs, p0, p1, p2, p3, p4, l, lk, hl, hlf, hqs⟩ := N.lk
  have X : K.In s.heap := M0.kin.keeps kb
  have nl : s.heap.NoLimit := M0.nolimit.keeps kb
  have zf : (fs.zip us).map (·.1) = fs := by rw [List.map_fst_zip (by omega)]
  have nself : ("self" : Str) ∉ fs := fun h => (N.ne _ h).1 rfl
  have nd' : (((("self" : Str), Value.ref x) :: fs.zip us).map (·.1)).Nodup := by
    rw [List.map_cons, zf]
    exact List.nodup_cons.mpr ⟨nself, N.nd⟩
  refine PySem.ks_codeAny_call_defAt (binds := (("self" : Str), Value.ref x) :: fs.zip us) hroom (X _ _ lk) rfl nl (PySem.W.codeRec_of X N.code) rfl (hb _ ⟨_, _, _, lk⟩) eiS_cell (fun y hy => eiS_loc ?_) (fun h₁ hns k₁ => ?_) rfl rfl rfl
  · rcases List.mem_cons.mp hy with rfl | hy
    · exact .inl rfl
    · exact .inr (List.of_mem_zip hy).1
  have hm : ((("self" : Str), Value.ref x) :: fs.zip us).reverse.lookup ("self" : Str) = some (Value.ref x) := lookup_rev _ nd' _ _ List.mem_cons_self
  have hmf : ∀ f ∈ fs, ((("self" : Str), Value.ref x) :: fs.zip us).reverse.lookup f = some (((fs.zip us).lookup f).getD .none) := fun f hf => by
    have : f ∈ (fs.zip us).map (·.1) := by rw [zf]; exact hf
    obtain ⟨⟨f', u⟩, hm', rfl⟩ := List.mem_map.mp this
    have ndz : ((fs.zip us).map (·.1)).Nodup := by rw [zf]; exact N.nd
    have e1 : (fs.zip us).lookup f' = some u := by
      have z := lookup_rev ((fs.zip us).reverse) (by rw [List.map_reverse]; exact (List.reverse_perm _).nodup_iff.mpr ndz) f' u (by simpa using hm')
      rw [List.reverse_reverse] at z
      exact z
    show _ = some (((fs.zip us).lookup f').getD .none)
    rw [e1]
    exact lookup_rev _ nd' _ _ (List.mem_cons_of_mem _ hm')
  have hxL : s.heap.objs.size ≠ x := Nat.ne_of_gt (Heap.lt_size hx)
  have ncl : ("__class__" : Str) ∉ fs := fun h => (N.ne _ h).2.1 rfl
  have nsu : ("super" : Str) ∉ fs := fun h => (N.ne _ h).2.2.1 rfl
  refine ks_wpAt_execs_cons (err_sup (scope := eiS fs) T M0 (fun b o e => k₁ b o (kb b o e)) (k₁ _ _ hx) hns hm hxL lk rfl rfl rfl rfl (eiS_loc (.inl rfl)) ?_ ?_ hl fun h2 tk2 t2 k2 hx2 hns2 => ?_)
  · rw [eiS_out (by decide) ncl]; rfl
  · rw [eiS_out (by decide) nsu]; rfl
  show _root_.PySem.wpAt _ _ _ (execs (setsB l) _) _ _ _
  refine wpAt_of_wpAny ?_
  have X2 : K.In h2 := fun a o e => k2 a o (fun z => by rw [z, nK] at e; cases e) (k₁ a o (X a o e))
  obtain ⟨hne, hlen⟩ := N.some_
  cases l with
  | nil => exact absurd hlf.symm hne
  | cons y r =>
    have setok : ∀ z ∈ y :: r, SetOk K C x s.heap.objs.size (ksEnv qual (eiS fs) s.heap.objs.size fI (.ref cda) cc) (fun y => ((("self" : Str), Value.ref x) :: fs.zip us).reverse.lookup y)
        (fun f => ((fs.zip us).lookup f).getD .none) z.1 := fun z hz => by
      have hzf : z.1 ∈ fs := by rw [← hlf]; exact List.mem_map_of_mem hz
      exact ⟨T.tk _ hzf, eiS_loc (.inr hzf), hmf _ hzf, (N.ne _ hzf).2.2.2⟩
    have S := setok y List.mem_cons_self
    refine wpAny_execs_cons (plainObj_wpAny_Assign_Attribute (ldF rfl S.loc hns2 S.at_ (ldF rfl (eiS_loc (.inl rfl)) hns2 hm ?_ (by decide)) S.dbg))
    refine errset_new T.fam X2 hx2 T.ov T.hd S.tk T.sa fun h3 tk3 dx k3 dz dxn hx3 n3 => ?_
    have nKd : K.lookup dx = none := by
      cases e : K.lookup dx with
      | none => rfl
      | some o => exact absurd (Heap.lt_size (X2 _ _ e)) (Nat.not_lt.mpr dz)
    have X3 : K.In h3 := fun a o e => k3 a o (fun z => by rw [z, nK] at e; cases e) (X2 a o e)
    have Ld : s.heap.objs.size ≠ dx := Nat.ne_of_lt (Nat.lt_of_lt_of_le hns2.lt dz)
    have hns3 : h3.Ns s.heap.objs.size (fun y => ((("self" : Str), Value.ref x) :: fs.zip us).reverse.lookup y) := by
      obtain ⟨o, es, ep, ho, r⟩ := hns2
      exact ⟨o, es, ep, k3 _ _ hxL ho, r⟩
    have hrl : r.length ≤ 10 := by
      have := congrArg List.length hlf
      rw [List.length_map, List.length_cons] at this
      omega
    refine sets_old (env := ksEnv qual (eiS fs) s.heap.objs.size fI (.ref cda) cc) T.fam T.ov T.hd T.sa (m := fun y => ((("self" : Str), Value.ref x) :: fs.zip us).reverse.lookup y) (val := fun f => ((fs.zip us).lookup f).getD .none) (dx := dx) rfl (eiS_loc (.inl rfl)) hm Ld dxn.symm nKd r
      _ _ [y.1] _ X3 hx3 n3 (Within.cons _ _ Within.nil) (by rw [List.length_singleton]; omega) hns3 (fun z hz => setok z (List.mem_cons_of_mem _ hz)) fun h4 tk4 k4 n4 => ?_
    refine hq h4 tk4 dx t2 (fun b o hb e => ?_) (Nat.le_of_lt (Nat.lt_of_lt_of_le hns2.lt dz)) (k4 _ _ dxn.symm hx3) ?_
    · have e2 := k2 b o hb (k₁ b o e)
      have nbd : b ≠ dx := Nat.ne_of_lt (Nat.lt_of_lt_of_le (Heap.lt_size e2) dz)
      exact k4 b o nbd (k3 b o hb e2)
    · have e4 : putM (r.map (·.1)) (fun f => ((fs.zip us).lookup f).getD .none) (fun z => if z = y.1 then some (((fs.zip us).lookup y.1).getD .none) else none) = putM fs (fun f => ((fs.zip us).lookup f).getD .none) fun _ => none := by
        have q := putM_cons (f := y.1) (l := r.map (·.1)) (val := fun f => ((fs.zip us).lookup f).getD .none) (m0 := fun _ => none)
        rw [← List.map_cons, hlf] at q
        exact q
      rw [← e4]
      exact n4

/-- the class called -/
theorem err_made (T : ErrK prog K mg C fI cc cda B initId newId bm cn fs) (N : IniK K fI cc cda qual t fs) (M0 : Mod K mg base) {us : List Value} (hul : us.length = fs.length)
    (kb : ∀ b o, base.get? b = some o → s.heap.get? b = some o) (hroom : A.depth + 1 < recursionLimit)
    (hq : ∀ h' tk e d, ErrMade s.heap h' e C d (putM fs (fun f => ((fs.zip us).lookup f).getD .none) fun _ => none) → R (.ok (.ret (.ref e))) { s with heap := h', toks := tk }) :
    codeAny (model prog w) A (.call (.ref C) ⟨us, []⟩) R s := by
  have X : K.In s.heap := M0.kin.keeps kb
  obtain ⟨nm, N', qn, bs, bm', hdct, sn, sub, ab, col, dd, k0, k1, k2, k3, k5, hC, hT⟩ := PySem.W.excInit_of X T.ini
  obtain ⟨oI, hoI, hcI⟩ := err_fn T X
  have hz : us.length ≤ sizeLine := by rw [sizeLine_eq, hul]; have := N.some_.2; omega
  obtain ⟨hp, g, dr, tk, os⟩ := s
  have old : ∀ b o, hp.get? b = some o → ((hp.push (PySem.W.kdv_tup us)).push (HandSPX.excO C hp.objs.size)).get? b = some o := fun b o e => Heap.get?_push_of_some _ (Heap.get?_push_of_some _ e)
  have hget : ((hp.push (PySem.W.kdv_tup us)).push (HandSPX.excO C hp.objs.size)).get? (hp.objs.size + 1) = some (HandSPX.excO C hp.objs.size) := by heap_get
  have hnx : K.lookup (hp.objs.size + 1) = none := by
    cases e : K.lookup (hp.objs.size + 1) with
    | none => rfl
    | some o => exact absurd (Nat.lt_of_succ_lt (Heap.lt_size (show hp.get? _ = some o from X _ _ e))) (Nat.lt_irrefl _)
  refine HandSPX.call_own T.fam.FB hT hC (looks_findIn X T.iC) (fun self => PySem.W.exc_bind hoI hcI self) hz ?_
  refine err_init (x := hp.objs.size + 1) (t0 := hp.objs.size) (us := us) (s := ⟨(hp.push (PySem.W.kdv_tup us)).push (HandSPX.excO C hp.objs.size), g, dr, tk, os⟩) T N M0 hul (fun b o e => old b o (kb b o e)) hget hnx ?_
    (fun fd hfd => BindsTo.of_eq (N.bind fd hfd _ us hul)) fun h' tk' d t1 k' dz hx n' => ?_
  · show A.depth + 1 < recursionLimit
    exact hroom
  · have dz' : hp.objs.size + 1 + 1 ≤ d := by
      have q := dz
      rw [Heap.size_push, Heap.size_push] at q
      exact q
    exact ⟨rfl, hq h' tk' (hp.objs.size + 1) d ⟨fun b o e => k' b o (Nat.ne_of_lt (Nat.lt_succ_of_lt (Heap.lt_size e))) (old b o e), Nat.le_succ _, ⟨_, hx⟩, Nat.le_trans (Nat.le_trans (Nat.le_succ _) (Nat.le_succ _)) dz', (Nat.ne_of_lt (Nat.lt_of_succ_le dz')).symm, n'⟩⟩
end

/-! ### raise C(..) over the layer -/
/-- the fields of an exception's own dict, as values of the layer -/
theorem relO_putM : ∀ {fs : List Str} {vs : List V} {us : List Value}, Vals vs us → vs.length = fs.length → ∀ y, RelO ((fs.zip vs).lookup y) (putM fs (fun f => ((fs.zip us).lookup f).getD .none) (fun _ => none) y)
  | [], _, _, _, _, y => by simp [putM, RelO]
  | f :: fs, [], _, _, h, _ => by simp at h
  | f :: fs, v :: vs, u :: us, .cons r rs, h, y => by
    rw [List.zip_cons_cons, lookup_cons_if]
    by_cases e : y = f
    · subst e
      simp [putM, RelO, lookup_cons_if, r]
    · rw [if_neg e]
      have ih := relO_putM (fs := fs) rs (by simpa using h) y
      have : putM (f :: fs) (fun g => (((f :: fs).zip (u :: us)).lookup g).getD .none) (fun _ => none) y = putM fs (fun g => ((fs.zip us).lookup g).getD .none) (fun _ => none) y := by
        unfold putM
        by_cases h : y ∈ fs
        · simp [h, List.zip_cons_cons, lookup_cons_if, e]
        · simp [h, e]
      rw [this]
      exact ih
section
variable {X : Cx} {C fI cc cda : Addr} {B initId newId : String} {bm : List Value} {cn qual t : Str} {fs : List Str} {W : WX}
def tMkErr (C : Addr) (fs : List Str) (ta : TA) : L2.St → Hp → XK → Prop := fun σ H Q => ta σ H fun vs H1 => vs.length = fs.length ∧ ∀ d, H1 d = none → Q (.ref C) (some d) (upd H1 d (.xd (fs.zip vs)))
theorem pmk_err {e : Expr} {es : List Expr} {ta : TA} {p pos : Pos} (T : ErrK X.prog X.K X.mg C fI cc cda B initId newId bm cn fs) (N : IniK X.K fI cc cda qual t fs) (kC : keepIn X.K (.ref C) = true)
    (eC : subIn X.K (.ref C) (.type "BaseException") = some true) (tC : typeIn X.K (.ref C) = some (.type "type")) {k : Nat} (hr : Room k X.A) (ha : PA X (e :: es) ta) (hg : Gl X cn) (hdb : (cn == ("__debug__" : Str)) = false := by decide)
    (he : starEach (e :: es) X.env = (false, eval e X.env) :: starEach es X.env := by rfl) (hpl : (backTo pos (starEach es X.env)).any (·.1) = false := by rfl) :
    PMk X (.Call (.Name cn p) (e :: es) [] pos) (tMkErr C fs ta) := by
  intro pins s σ H Q I h
  refine wpAny_Call_Name_kw (ld_glob I hg T.gC ?_ hdb)
  refine PySem.W.callWith_K (h₀ := X.base) I.ok.mod.kin kC (thn (ha.run pos pins s σ H _ I h) ?_) he hpl
  rintro us s1 ⟨vs, H1, I1, r1, hvl, q1⟩
  refine ⟨I1.kIn, ?_⟩
  show wpAny _ _ (call (.ref C) us) _ _ _
  have hul : us.length = fs.length := r1.length.symm.trans hvl
  have hbk := I1.bk
  obtain ⟨hp, g, dr, tk, os⟩ := s1
  refine wpAny_call (err_made T N I1.mod hul hbk (by have := hr.dp; omega) fun h' tk' a d M => ?_)
  show MkP X pins σ Q (.ref a) ⟨h', g, dr, tk', os⟩
  obtain ⟨t0, ha'⟩ := M.obj
  obtain ⟨G', g1, g2⟩ := restrict h' fun b => decide (b ≠ a)
  have gk : ∀ b, b ≠ a → G'.get? b = h'.get? b := fun b hb => g1 b (decide_eq_true hb)
  have ge : G'.get? a = none := g2 a (by simp)
  have gold : ∀ b o, hp.get? b = some o → G'.get? b = some o := fun b o q => (gk b (Nat.ne_of_lt (Nat.lt_of_lt_of_le (Heap.lt_size q) M.new))).trans (M.keep b o q)
  have ob : ObjOk X.prog X.w (upd H1 d (.xd (fs.zip vs))) G' d (.xd (fs.zip vs)) := ⟨_, M.ns.at (fun o q => (gk d M.dne).trans q), relO_putM r1 hvl⟩
  have J : Inv X pins σ (upd H1 d (.xd (fs.zip vs))) ⟨G', g, dr, tk', os⟩ := I1.laid (t' := tk') gold M.dnew ob
  have subs : ∀ b o, G'.get? b = some o → h'.get? b = some o := fun b o q => by
    by_cases hb : b = a
    · rw [hb, ge] at q; cases q
    · exact (gk b hb).symm.trans q
  refine ⟨a, _, _, ⟨G', g, dr, tk', os⟩, _, .ref C, some d, rfl, J, subs, ge, ha', ⟨rfl, rfl⟩, rfl, rfl, ?_, rfl, I1.bare, raises_own eC tC, q1 d (I1.hok.fresh M.dnew)⟩
  rw [upd_ne (Ne.symm M.dne)]
  exact I1.hok.fresh M.new
/-- raise C(e, ..) -/
def tRaiseErr (C : Addr) (fs : List Str) (W : WX) (ta : TA) : TS := fun _ σ H => tMkErr C fs ta σ H fun cls d H' => W cls d σ H'
theorem ps_raiseErr {e : Expr} {es : List Expr} {ta : TA} {p pos pos2 : Pos} (hc : X.calm = true) (T : ErrK X.prog X.K X.mg C fI cc cda B initId newId bm cn fs) (N : IniK X.K fI cc cda qual t fs) (kC : keepIn X.K (.ref C) = true)
    (eC : subIn X.K (.ref C) (.type "BaseException") = some true) (tC : typeIn X.K (.ref C) = some (.type "type")) {k : Nat} (hr : Room k X.A) (tkW : Takes X W) (ha : PA X (e :: es) ta) (hg : Gl X cn) (hdb : (cn == ("__debug__" : Str)) = false := by decide)
    (he : starEach (e :: es) X.env = (false, eval e X.env) :: starEach es X.env := by rfl) (hpl : (backTo pos (starEach es X.env)).any (·.1) = false := by rfl) :
    PS X (.Raise (some (.Call (.Name cn p) (e :: es) [] pos)) none pos2) (tRaiseErr C fs W ta) := ps_raise hc tkW (pmk_err T N kC eC tC hr ha hg hdb he hpl)
end
end BJ

/-! try: body / except X as n: suite, where the exception stays known behind the statement; its fields -/
namespace BJ
open PySem PySem.Spec PyProof.Rows L2
open PySem.W (Looks Frag findIn subIn nsIn typeIn keepIn hasDictIn)

/-- an exception object that is held: of class cls, its own dict at d -/
def ExcK (a : Addr) (cls : Value) (d : Option Addr) : HO := .ext fun h => ∃ (oe : Obj) (vs : Array Value), h.get? a = some oe ∧ Zc cls d oe ∧ oe.data = .fields vs
theorem excK_ok {P : Program} {w : World} {H : Hp} {h : Heap} {a : Addr} {cls : Value} {d : Option Addr} {oe : Obj} {vs : Array Value} (e : h.get? a = some oe) (z : Zc cls d oe) (hd : oe.data = .fields vs) : ObjOk P w H h a (ExcK a cls d) :=
  ⟨⟨oe, vs, e, z, hd⟩, ⟨oe, e⟩, fun _ _ ⟨o, v, q, r⟩ k => ⟨o, v, k o q, r⟩⟩
theorem excK_at {P : Program} {w : World} {H : Hp} {h : Heap} {a : Addr} {cls : Value} {d : Option Addr} (x : HOk P w H h) (e : H a = some (ExcK a cls d)) : ∃ (oe : Obj) (vs : Array Value), h.get? a = some oe ∧ Zc cls d oe ∧ oe.data = .fields vs := by
  have q : ObjOk P w H h a (ExcK a cls d) := x a _ e
  exact q.1

section
variable {X : Cx} {pins : List (Addr × Obj)} {σ : L2.St} {H : Hp} {s : Shared}
/-- a pinned object that is new is tracked from here on -/
theorem Inv.track {a : Addr} {oe : Obj} {φ : Heap → Prop} (I : Inv X ((a, oe) :: pins) σ H s) (hnew : X.s_0.heap.get? a = none) (hp : ∀ p ∈ X.pn ++ pins, p.1 ≠ a)
    (ok : ObjOk X.prog X.w (upd H a (.ext φ)) s.heap a (.ext φ)) : Inv X pins σ (upd H a (.ext φ)) s := by
  obtain ⟨ha, na, nL, nF, nc⟩ := I.pin (a, oe) (List.mem_append_right _ List.mem_cons_self)
  have up : ∀ b u, H b = some u → upd H a (.ext φ) b = some u := fun b u e => by
    rw [upd_ne (ne_of_none e na)]
    exact e
  have old : ∀ b o, X.s_0.heap.get? b = some o → b ≠ a := fun b o e z => by
    rw [z, hnew] at e
    cases e
  constructor
  · exact I.ok
  · exact I.os
  · exact I.bare
  · exact ⟨I.base.keep, I.base.slot, fun b o e n x => by rw [upd_ne (old b o e)]; exact I.base.free b o e n x, I.base.there, fun b xs e => up _ _ (I.base.tups b xs e), fun b o u e => up _ _ (I.base.frzs b o u e),
      fun b ps e => let ⟨m, q⟩ := I.base.tbls b ps e; ⟨m, up _ _ q⟩⟩
  · exact I.loc
  · exact I.cell
  · rw [upd_ne (Ne.symm nL)]
    exact I.free
  · intro y c e
    have q : c ≠ a := fun z => by
      obtain ⟨v, o, ho, hd⟩ := I.cell y c e
      rw [z] at ho
      have ha' : s.heap.get? a = some oe := ha
      rw [ha'] at ho
      cases ho
      exact nc _ hd
    rw [upd_ne q]
    exact I.freeC y c e
  · intro p hpm
    obtain ⟨e, n, r⟩ := I.pin p ((List.mem_append.mp hpm).elim (fun z => List.mem_append_left _ z) fun z => List.mem_append_right _ (List.mem_cons_of_mem _ z))
    exact ⟨e, by rw [upd_ne (hp p hpm)]; exact n, r⟩
  · intro b u e
    by_cases hb : b = a
    · subst hb
      rw [upd_same] at e
      cases e
      exact ok
    · rw [upd_ne hb] at e
      exact (I.hok b u e).stay (fun _ _ _ q => q) (fun c q => up _ _ q) fun c xs q => up _ _ q
  · exact I.len

/-- the test of an except clause -/
def ClauseT (X : Cx) (t : Expr) (mt : Value → Option Bool) : Prop := ∀ (a : Addr) (pn : List (Addr × Obj)) (s : Shared) (σ : L2.St) (H : Hp) (cls : Value) (b : Bool) (E : Value → Shared → Prop) (Q : Value → Shared → Prop),
  Inv (X.suite a pn) [] σ H s → Looks (model X.prog X.w) s.heap (typeOf (.ref a)) cls → mt cls = some b →
  (∀ c h' tk', (∀ b o, s.heap.get? b = some o → h'.get? b = some o) → Looks (model X.prog X.w) h' (excMatches (.ref a) c) b → Q c { s with heap := h', toks := tk' }) →
  wpAny (model X.prog X.w) (X.A.mark (some (.ref a))) (eval t X.env) Q E s
theorem name_ld {x : Str} {c : Value} {np : Pos} {A : Around} {E : Value → Shared → Prop} {Q : Value → Shared → Prop} {a : Addr} {pn : List (Addr × Obj)} (hc : Names X x c) (S : Inv (X.suite a pn) [] σ H s) (q : Q c s) :
    wpAny (model X.prog X.w) (X.A.mark (some (.ref a))) (eval (.Name x np) X.env) Q E s := by
  obtain ⟨hg, hdbg, hm | ⟨hm, hv, hnn⟩⟩ := hc
  · exact ld_glob (X := X.suite a pn) S hg hm q hdbg
  · exact ld_blt (X := X.suite a pn) S hg hm hv q hnn hdbg
theorem cl_one {x : Str} {c : Value} {np : Pos} (hc : Names X x c) : ClauseT X (.Name x np) (fun cls => PySem.W.exmOne X.K cls c) := fun a pn s σ H cls b E Q S LT hb hq =>
  name_ld (A := X.A) hc S (hq c s.heap s.toks (fun _ _ e => e) (PySem.W.exm_one S.kIn LT hb))
theorem cl_three {x1 x2 x3 : Str} {c1 c2 c3 : Value} {p1 p2 p3 p : Pos} {k : Nat} (h1 : Names X x1 c1) (h2 : Names X x2 c2) (h3 : Names X x3 c3) (hl : starEach [.Name x1 p1, .Name x2 p2, .Name x3 p3] X.env = [(false, eval (.Name x1 p1) X.env), (false, eval (.Name x2 p2) X.env), (false, eval (.Name x3 p3) X.env)] := by rfl) :
    ClauseT X (.Tuple [.Name x1 p1, .Name x2 p2, .Name x3 p3] k p) (fun cls => PySem.W.exmAny X.K cls [c1, c2, c3]) := fun a pn s σ H cls b E Q S LT hb hq => by
  refine wpAny_Tuple_spliced ?_
  rw [hl]
  refine Calls.spliced_cons (name_ld (A := X.A) h1 S ?_)
  refine Calls.spliced_cons (name_ld (A := X.A) h2 S ?_)
  refine Calls.spliced_cons (name_ld (A := X.A) h3 S ?_)
  refine Calls.spliced_nil ⟨by rw [sizeLine_eq]; show 3 ≤ 16777216; decide, ?_⟩
  have k : ∀ b o, s.heap.get? b = some o → (s.heap.push ({ cls := .type "tuple", data := .seq [c1, c2, c3].toArray } : Obj)).get? b = some o := fun b o e => Heap.get?_push_of_some _ e
  exact hq _ _ s.toks k (PySem.W.exm_tup3 (S.kIn.keeps k) (fun A Q E s' k' q => LT A Q E s' (fun b o e => k' b o (k b o e)) q) (Heap.get?_push_size _ rfl) hb)
end

theorem FlyingZ.grow {base h h' : Heap} {l : List Env} {e : Addr} {Z : Obj → Prop} (x : HandSPX.FlyingZ base l e Z h) (k : ∀ b o, h.get? b = some o → h'.get? b = some o) : HandSPX.FlyingZ base l e Z h' := by
  obtain ⟨f1, f2, f3, oe, vs, T, oT, ts, a1, a2, a3, a4, a5, a6, a7, a8⟩ := x
  exact ⟨fun b o e => k b o (f1 b o e), f2, Heap.FunFrames.of_keeps (fun b o e _ => ⟨o, k b o e, rfl⟩) f3, oe, vs, T, oT, ts, k _ _ a1, a2, a3, a4, a5, a6, k _ _ a7, a8⟩

/-- what the clause wishes of an exception of the body; behind it the exception is known at a -/
def wTry (mt : Value → Option Bool) (i : Nat) (ts : Addr → Value → Option Addr → TS) (Wout : WX) (D : Ends) : WX := fun cls d σ H =>
  ∃ b, mt cls = some b ∧
    (b = true → ∀ a, H a = none → ts a cls d { nx := fun σ' H' => D.nx (σ'.set i none) (upd H' a (ExcK a cls d)), rt := D.rt, bk := fun σ' H' => D.bk (σ'.set i none) (upd H' a (ExcK a cls d)), ct := fun σ' H' => D.ct (σ'.set i none) (upd H' a (ExcK a cls d)) } (σ.set i (some (.ref a))) H) ∧
    (b = false → Wout cls d σ H)
section
variable {X : Cx} {n : Str} {t : Expr} {mt : Value → Option Bool} {i : Nat} {body suite : List Stmt} {b₀ : Stmt} {pos pos' : Pos} {tb : WX → TS} {ts : Addr → Value → Option Addr → TS} {Wout : WX}
theorem ps_tryK (hs : X.stack = X.env :: X.outer) (hf : X.env.frame = some X.env.locals) (hex : X.ex = []) (hN : X.N.Nodup) (hi : X.N[i]? = some n) (hln : X.env.kindOf n = some .local) (hc : ClauseT X t mt) (tk : Takes X Wout)
    (hb : ∀ (W : WX) (pn : List (Addr × Obj)) (xe : Value → Shared → Prop), Takes (X.tr pn xe) W → PassesOwn (model X.prog X.w) X.A X.env xe → PSs (X.tr pn xe) body (tb W))
    (hsu : ∀ (a : Addr) (oe : Obj) (cls : Value) (d : Option Addr) (pn : List (Addr × Obj)), Zc cls d oe → (∃ vs, oe.data = .fields vs) → PSs (X.suite a ((a, oe) :: pn)) (b₀ :: suite) (ts a cls d)) :
    PS X (.Try body [.ExceptHandler (some t) (some n) (b₀ :: suite) pos'] [] [] pos) (fun D σ H => tb (wTry mt i ts Wout D) D σ H) where
  run := by
    intro pins s σ H D I h
    have ok := I.ok
    have hfr : X.A.frames = some (X.env :: X.outer) := by rw [ok.frames, hs]
    refine wpAny_Try_except (wpAny_mono ((hb (wTry mt i ts Wout D) (X.pn ++ pins) (fun e s₁ => wpAny (model X.prog X.w) X.A (noteFrame e X.env) (fun _ s₂ =>
      wpAny (model X.prog X.w) X.A (setFlight e none) (fun _ s₃ => wpAny (model X.prog X.w) X.A (handleBy e X.env [.ExceptHandler (some t) (some n) (b₀ :: suite) pos']) (SP X pins D) X.xe s₃) X.xe s₂) X.xe s₁)
      ?cat PassesOwn.looking).run [] s σ H D (I.toTry _) h) ?thru fun e s1 he => he)
    case thru =>
      rintro (_ | _ | _ | u) s1 hsp
      · obtain ⟨σ', H', J, q⟩ := hsp
        exact wpAny_execs_nil ⟨σ', H', J.ofTry ok, q⟩
      · obtain ⟨σ', H', J, q⟩ := hsp
        exact ⟨σ', H', J.ofTry ok, q⟩
      · obtain ⟨σ', H', J, q⟩ := hsp
        exact ⟨σ', H', J.ofTry ok, q⟩
      · obtain ⟨v, σ', H', J, r, q⟩ := hsp
        exact ⟨v, σ', H', J.ofTry ok, r, q⟩
    case cat =>
      rintro u s' ⟨a, B, sI, pins', σ', H', cls, d, rfl, J0, nb, up, sky, na, os, ag, b, hb1, hyes, hno⟩
      have J : Inv X pins σ' H' sI := J0.ofTry ok
      rw [hs] at sky
      refine Sky.land Zc.steady hfr hf (show Sky B (X.env :: X.outer) a (Zc cls d) X.env.locals s'.heap from sky) fun h3 fl3 up3 => ?_
      have J3 : Inv X pins σ' H' { s' with heap := h3 } := J.landed nb fl3.1 (up.trans up3) os ag
      obtain ⟨oe3, vs3, he3, hz3, hd3⟩ := fl3.there
      have nfr : a ∉ frs (X.env :: X.outer) := fun hm => by
        obtain ⟨_, o', e', hnf⟩ := fl3.2.2.1.mem hm
        rw [he3] at e'
        cases e'
        exact hnf _ hd3
      have nL : a ≠ X.env.locals := fun z => nfr (List.mem_filterMap.mpr ⟨X.env, List.mem_cons_self, by rw [hf, z]⟩)
      have nF : a ∉ X.fs := fun hm => by
        obtain ⟨e, he, q⟩ := List.mem_filterMap.mp hm
        exact nfr (List.mem_filterMap.mpr ⟨e, List.mem_cons_of_mem _ he, q⟩)
      have nI : sI.heap.get? a = none := by
        cases e : sI.heap.get? a with
        | none => rfl
        | some o =>
          have z := nb a o e (by rw [hs]; exact nfr)
          rw [fl3.2.1] at z
          cases z
      have n0 : X.s_0.heap.get? a = none := by
        cases e : X.s_0.heap.get? a with
        | none => rfl
        | some o =>
          obtain ⟨o', z⟩ := J.base.there a o e (by rw [hex]; exact fun z => nomatch z)
          rw [nI] at z
          cases z
      have np : ∀ p ∈ X.pn ++ pins, p.1 ≠ a := fun p hp z => by
        have q := (J.pin p hp).1
        rw [z, nI] at q
        cases q
      have S3 := J3.suite he3 hd3 na nL nF
      have LT : Looks (model X.prog X.w) h3 (typeOf (.ref a)) cls := fun A Q E s k q => wpAny_typeOf_ref (k _ _ he3) (by rw [hz3.1]; exact q)
      refine PySem.W.exc_clause_as (hc a _ _ σ' H' cls b _ _ S3 LT hb1 fun c h4 tk4 k4 LM => ⟨b, LM, ?_⟩)
      have fl4 := FlyingZ.grow fl3 k4
      have J4 : Inv X pins σ' H' { s' with heap := h4, toks := tk4 } := J3.kept (t' := tk4) k4
      cases b with
      | true =>
        refine HandSPX.lands_againZ fl4 fun h5 fl5 up5 => ?_
        have J5 : Inv X pins σ' H' { s' with heap := h5, toks := tk4 } :=
          J.landed (s' := { s' with heap := h5, toks := tk4 }) nb fl5.1 (((up.trans up3).trans (Heap.UpToSlots.of_keeps k4)).trans up5) os ag
        obtain ⟨oe5, vs5, he5, hz5, hd5⟩ := fl5.there
        have S5 := J5.suite he5 hd5 na nL nF
        refine store_ok (X := X.suite a ((a, oe5) :: (X.pn ++ pins))) (v := .ref a) S5 hN hi (.inl hln) rfl (fun s6 S6 => ?_) (.inr hln)
        refine wpAny_mono ((hsu a oe5 cls d (X.pn ++ pins) hz5 ⟨_, hd5⟩).run [] s6 _ H' _ S6 (hyes rfl a na)) (fun f s7 hsp => ?_) fun _ _ z => False.elim z
        have out : ∀ {σ7 : L2.St} {H7 : Hp} {s7 : Shared}, Inv (X.suite a ((a, oe5) :: (X.pn ++ pins))) [] σ7 H7 s7 → Inv X ((a, oe5) :: pins) σ7 H7 s7 := fun {σ7 H7 s7} S =>
          ⟨ok, S.os, S.bare, S.base, S.loc, S.cell, S.free, S.freeC, fun p hp => S.pin p (by
            rw [List.append_nil]
            rcases List.mem_append.mp hp with z | z
            · exact List.mem_cons_of_mem _ (List.mem_append_left _ z)
            · rcases List.mem_cons.mp z with z | z
              · rw [z]; exact List.mem_cons_self
              · exact List.mem_cons_of_mem _ (List.mem_append_right _ z)), S.hok, S.len⟩
        have fin : ∀ {σ7 : L2.St} {H7 : Hp} {Q : Shared → Prop} {s7 : Shared}, Inv (X.suite a ((a, oe5) :: (X.pn ++ pins))) [] σ7 H7 s7 → (∀ s8, Inv X pins (σ7.set i none) (upd H7 a (ExcK a cls d)) s8 → Q s8) →
            (∀ s8, Inv X pins (σ7.set i none) H7 s8 → True) → wpAny (model X.prog X.w) X.A (do bindName X.env n .none; unbindBehindTheSuite X.env n pos') (fun _ s8 => Q s8) X.xe s7 := fun {σ7 H7 Q s7} S hq _ =>
          gone_ok (out S) hN hi hln fun s8 J8 => hq s8 (Inv.track J8 n0 np (excK_ok (J8.pin (a, oe5) (List.mem_append_right _ List.mem_cons_self)).1 hz5 hd5))
        match f, hsp with
        | .next, ⟨σ7, H7, S7, q7⟩ => exact fin S7 (fun s8 J8 => ⟨_, _, J8, q7⟩) fun _ _ => trivial
        | .brk, ⟨σ7, H7, S7, q7⟩ => exact fin S7 (fun s8 J8 => ⟨_, _, J8, q7⟩) fun _ _ => trivial
        | .cont, ⟨σ7, H7, S7, q7⟩ => exact fin S7 (fun s8 J8 => ⟨_, _, J8, q7⟩) fun _ _ => trivial
        | .ret u, ⟨v7, σ7, H7, S7, r7, q7⟩ => exact gone_ok (S7.unsuite ok) hN hi hln fun s8 J8 => ⟨_, _, _, J8, r7, q7⟩
      | false =>
        show wpAny _ X.A (handleBy (.ref a) X.env []) _ _ _
        refine wpAny_handleBy_nil ?_
        obtain ⟨k1, k2, k3, oe, vs, T, oT, ts', he, hz, hd, h1, hr⟩ := id fl4
        have fin : wpAny (model X.prog X.w) X.A (setFlight (.ref a) X.env.frame) (fun _ s5 => wpAny (model X.prog X.w) X.A (throw (.ref a) : Sem Flow) (SP X pins D) X.xe s5) X.xe { s' with heap := h4, toks := tk4 } := by
          rw [hf]
          refine HandSPX.setFlight_upZ fl4 fun h5 hh5 up5 => wpAny_throw (tk _ _ ?_)
          exact ⟨a, B, sI, pins, σ', H', cls, d, rfl, J, nb, ((up.trans up3).trans (Heap.UpToSlots.of_keeps k4)).trans up5, .inr (.inr (by rw [hs]; exact hh5)), na, os, ag, hno rfl⟩
        unfold PySem.passOn
        refine wpAny_bind (wpAny_field he hd h1 ?_)
        rw [if_neg (by simp)]
        first
          | exact wpAny_bind (wpAny_pure (wpAny_bind fin))
          | exact wpAny_bind fin
end
end BJ

/-! fields of a held exception; isinstance of any value; repr of data -/
namespace BJ
open PySem PySem.Spec PyProof.Rows L2
open PySem.W (Looks Frag findIn subIn nsIn typeIn keepIn hasDictIn clsIn specialIn takesIn mroIn kitOne kitAny InstAt)

/-- what is asked of an exception's class to read it -/
structure ErrR (K : Frag) (C : Addr) : Prop where
  cl : (clsIn K C).isSome = true
  ga : findIn K (.ref C) "__getattribute__" = some (some (.builtin "BaseException.__getattribute__"))
  gg : findIn K (.ref C) "__getattr__" = some none
  ex : subIn K (.ref C) (.type "BaseException") = some true
  cc : findIn K (.ref C) "__class__" = some (some (.builtin "object.__class__"))
  cg : specialIn K (.builtin "object.__class__") "__get__" = some (some (.builtin "getset_descriptor.__get__"))
  ct : takesIn K (.builtin "object.__class__") = some true
  mo : mroIn K C (.type "object") = some true
  hd : hasDictIn K C = true
/-- at a the exception, its dict at d -/
def ExcAt (H : Hp) (a C d : Addr) (fs : List (Str × V)) : Prop := H a = some (ExcK a (.ref C) (some d)) ∧ H d = some (.xd fs)
section
variable {X : Cx} {pins : List (Addr × Obj)} {σ : L2.St} {H : Hp} {s : Shared}
theorem ExcAt.inst {a C d : Addr} {fs : List (Str × V)} (I : Inv X pins σ H s) (x : ExcAt H a C d fs) : ∃ (oe od : Obj) (mA : Str → Option Value), InstAt s.heap a oe C (some od) ∧ s.heap.Ns1 d mA ∧ s.heap.get? d = some od ∧ ∀ f, RelO (fs.lookup f) (mA f) := by
  obtain ⟨oe, vs, he, hz, hd⟩ := excK_at I.hok x.1
  obtain ⟨mA, hns, hr⟩ := (show ObjOk X.prog X.w H s.heap d (.xd fs) from I.hok d _ x.2)
  obtain ⟨od, es, ep, ho, r⟩ := id hns
  exact ⟨oe, od, mA, ⟨he, hz.1, by unfold PySem.W.notCls; rw [hd], by rw [hz.2]; exact ho⟩, hns, ho, hr⟩

/-- e.f of a held exception -/
def tExf (K : Frag) (te : TE) (f : Str) : TE := fun σ H Q => te σ H fun x H1 => ∃ (a C d : Addr) (fs : List (Str × V)) (v : V), x = .ref a ∧ ExcAt H1 a C d fs ∧ ErrR K C ∧ findIn K (.ref C) f = some none ∧ fs.lookup f = some v ∧ Q v H1
theorem pe_exf {e : Expr} {te : TE} {f : Str} {pos : Pos} (he : PE X e te) (hb : attributeBase e f X.env (eval e X.env) = eval e X.env := by rfl) : PE X (.Attribute e f pos) (tExf X.K te f) where
  run := by
    intro pins s σ H Q I h
    refine attr_of hb (thn (he.run pins s σ H _ I h) ?_)
    rintro u s1 ⟨x, H1, I1, rx, a, C, d, fs, v, rfl, hat, R, nf, hl, q⟩
    obtain rfl : u = Value.ref a := rx
    obtain ⟨oe, od, mA, J, hns, hod, hr⟩ := hat.inst I1
    obtain ⟨od', ho, hlk⟩ := lookIn_ns hns
    rw [hod] at ho
    cases ho
    obtain ⟨u, hu, ru⟩ := RelO.some_of (v := v) (o := mA f) (by rw [← hl]; exact hr f)
    exact HandSPX.exc_get I1.kIn J R.ga R.gg R.ex (PySem.W.findObj_own R.hd nf rfl (by rw [hlk, hu])) (handed_of ru) ⟨v, H1, I1.tok _, ru, q⟩

/-! ### isinstance -/
inductive TyG (K : Frag) (H : Hp) : V → Value → Prop where
  | ty {x : V} {t : Value} (h : TyX K H x t) : TyG K H x t
  | exc {a C d : Addr} {fs : List (Str × V)} (h : ExcAt H a C d fs) (R : ErrR K C) : TyG K H (.ref a) (.ref C)
theorem kit_ofG {x : V} {u t : Value} (I : Inv X pins σ H s) (rx : RelV x u) (ty : TyG X.K H x t) : ∃ P : Heap → Prop, PySem.W.KitX X.K u t P ∧ P s.heap ∧ u ≠ .builtin "__main__.__loader__#opaque" := by
  cases ty with
  | ty h => exact kit_of I rx h
  | exc h R =>
    cases (show u = Value.ref _ from rx)
    obtain ⟨oe, od, mA, J, _, _, _⟩ := h.inst I
    exact ⟨_, PySem.W.kitx_exc R.cl R.ga R.gg R.ex R.cc R.cg R.ct R.mo, J, fun z => nomatch z⟩
def rIsG (K : Frag) : List V → Hp → VK → Prop := fun xs H Q => ∃ (x c : V) (t u : Value) (b : Bool), xs = [x, c] ∧ ClsV c u ∧ TyG K H x t ∧ kitOne K t u = some b ∧ Q (.bl b) H
def rIsGT (K : Frag) : List V → Hp → VK → Prop := fun xs H Q => ∃ (x : V) (tp : Addr) (cs : List V) (t : Value) (us : List Value) (b : Bool), xs = [x, .ref tp] ∧ H tp = some (.tup cs) ∧ Paired ClsV cs us ∧ TyG K H x t ∧ kitAny K t us = some b ∧ Q (.bl b) H
theorem call_isG : CallR X (.builtin "isinstance") (rIsG X.K) := by
  rintro pins s σ H xs us Q I r ⟨x, c, t, u, b, rfl, k, ty, e, q⟩
  obtain ⟨u1, u2, rfl, r1, r2⟩ := vals2 r
  obtain rfl := k.eq r2
  obtain ⟨P, Z, p, hx⟩ := kit_ofG I r1 ty
  exact PySem.W.kia_one Z I.kIn p e hx fun tk => ⟨.bl b, H, I.tok tk, rfl, q⟩
theorem call_isGT : CallR X (.builtin "isinstance") (rIsGT X.K) := by
  rintro pins s σ H xs us Q I r ⟨x, tp, cs, t, ws, b, rfl, hT, k, ty, e, q⟩
  obtain ⟨u1, u2, rfl, r1, r2⟩ := vals2 r
  cases (show u2 = Value.ref tp from r2)
  obtain ⟨P, Z, p, hx⟩ := kit_ofG I r1 ty
  obtain ⟨_, its, rv, ⟨oc, od, dt, sl⟩, h1, h2, n, h3⟩ := (show ObjOk X.prog X.w H s.heap tp (.tup cs) from I.hok tp _ hT)
  obtain rfl := ClsV.all k rv
  simp only at h2 h3
  subst h2 h3
  exact PySem.W.kia_tup Z I.kIn p h1 e hx fun tk => ⟨.bl b, H, I.tok tk, rfl, q⟩

/-! ### repr -/
/-- repr(x) of data -/
def rRepr (K : Frag) : List V → Hp → VK → Prop := fun xs H Q => ∃ (x : V) (d : PyData), xs = [x] ∧ Dp K H x d ∧ d.showable = true ∧ d.hasDict = false ∧ d.depth ≤ 40 ∧ d.shown.length ≤ sizeLine ∧ Q (.str d.shown) H
theorem call_repr {k : Nat} (hr : Room k X.A) (hG : X.A.guards = some []) : CallR X (.builtin "repr") (rRepr X.K) := by
  rintro pins s σ H xs us Q I r ⟨x, d, rfl, hd, hs, hnd, hdep, hsz, q⟩
  obtain ⟨u, rfl, r1⟩ := vals1 r
  obtain ⟨as, hrd⟩ := Dp.reads I d x u hd r1
  have fin : ∀ (h' : Heap) (t : Tok) (tk : Nat), (∀ b o, s.heap.get? b = some o → h'.get? b = some o) → EP X pins σ Q (.str d.shown t) { s with heap := h', toks := tk } := fun h' t tk kk => ⟨.str d.shown, H, I.kept (t' := tk) kk, ⟨t, rfl⟩, q⟩
  cases hrd with
  | none => exact PySem.P.repr_of_none (by simpa [PyData.shown] using fin s.heap _ _ fun _ _ e => e)
  | bool b => exact PySem.P.repr_of_bool (by cases b <;> simpa [PyData.shown] using fin s.heap _ _ fun _ _ e => e)
  | int i t => exact PySem.P.repr_of_int (by simpa [PyData.showable] using hs) (by simpa [PyData.shown] using fin s.heap _ _ fun _ _ e => e)
  | str y t => exact PySem.P.repr_of_str (by simpa [PyData.shown] using fin s.heap _ _ fun _ _ e => e) (by simpa [PyData.shown] using hsz)
  | list h1 h2 h3 h4 =>
    exact repr_of_reads' (.list h1 h2 h3 h4) hs (by rw [hnd]; exact fun z => nomatch z) hG (by have := hr.un; omega) (fun _ _ e => e) (fun h' t tk kk => fin h' t tk kk) hsz
  | tuple h1 h2 h3 h4 =>
    exact repr_of_reads' (.tuple h1 h2 h3 h4) hs (by rw [hnd]; exact fun z => nomatch z) hG (by have := hr.un; omega) (fun _ _ e => e) (fun h' t tk kk => fin h' t tk kk) hsz
  | dict h1 h2 h3 h4 h5 => simp [PyData.hasDict] at hnd
end
end BJ

/-! text * int, (x,) * int, xs[a::k], enumerate(text) -/
namespace BJ
open PySem PySem.Spec PyProof.Rows L2
section
variable {X : Cx}
/-- the sign c, n times -/
def repS (c : Nat) (n : Nat) : Str := ⟨(List.replicate n c).toArray⟩
theorem repS_len (c n : Nat) : (repS c n).length = n := by simp [repS, Str.length]
theorem foldl_rep1 (c : Nat) : ∀ n, (List.replicate n (#[c] : Array Nat)).foldl (· ++ ·) #[] = (List.replicate n c).toArray := by
  have h : ∀ n (acc : Array Nat), (List.replicate n (#[c] : Array Nat)).foldl (· ++ ·) acc = acc ++ (List.replicate n c).toArray := by
    intro n
    induction n with
    | zero => intro acc; simp
    | succ n ih =>
      intro acc
      rw [List.replicate_succ, List.foldl_cons, ih, List.replicate_succ, Array.append_assoc]
      congr 1
      simp
  intro n
  rw [h, Array.empty_append]
/-- 'c' * n, one sign, n at least 2 -/
def rMulS : R2 := fun x y H Q => ∃ (c : Nat) (n : Nat), x = .str ⟨#[c]⟩ ∧ y = .int (n : Int) ∧ 2 ≤ n ∧ n ≤ sizeLine ∧ Q (.str (repS c n)) H
theorem op_mulS : OpR X (binaryOp .Mult) rMulS := by
  rintro pins s σ H x y v u Q I rx ry ⟨c, n, rfl, rfl, h2, hn, q⟩
  obtain ⟨t, rfl⟩ := rx
  obtain ⟨t', rfl⟩ := ry
  rw [sizeLine_eq] at hn
  have hl : (⟨#[c]⟩ : Str).length = 1 := rfl
  refine PySem.P.mul_str ?_ (fun _ _ => ?_) (fun _ _ => ?_) ?_
  · simp only [Bool.or_eq_false_iff, decide_eq_false_iff_not]
    omega
  · rw [hl]
    have : (1 : Int) ≤ (2 ^ 63 - 1) / (n : Int) := by
      apply Int.le_ediv_of_mul_le (by omega)
      omega
    omega
  · rw [hl, Nat.one_mul]
    unfold PySem.Builtin.Str.tooLong
    rw [sizeLine_eq]
    simp
    omega
  · rw [if_neg (by omega), if_neg (by rw [hl]; simp; omega)]
    have e : (List.replicate ((n : Int)).toNat (⟨#[c]⟩ : Str).cps).foldl (· ++ ·) #[] = (List.replicate n c).toArray := by
      rw [Int.toNat_natCast]
      exact foldl_rep1 c n
    rw [e]
    refine ⟨?_, ?_⟩
    · show (repS c n).length ≤ sizeLine
      rw [repS_len, sizeLine_eq]
      exact hn
    · exact ⟨V.str (repS c n), H, I.tok _, ⟨_, rfl⟩, q⟩

/-- the items of xs[lo:hi:st] -/
def pickV (xs : List V) (lo hi st : Option Int) : List V :=
  (sliceRange (sliceBounds lo hi st xs.length).1 (sliceBounds lo hi st xs.length).2.1 (sliceBounds lo hi st xs.length).2.2).filterMap (xs[·]?)
theorem vals_places {xs : List V} {us : List Value} (h : Vals xs us) : ∀ l : List Nat, Vals (l.filterMap (xs[·]?)) (l.filterMap (us[·]?))
  | [] => .nil
  | i :: l => by
    cases e : xs[i]? with
    | none =>
      rw [List.filterMap_cons_none e, List.filterMap_cons_none (h.none_of e)]
      exact vals_places h l
    | some x =>
      obtain ⟨u, hu, r⟩ := h.get e
      rw [List.filterMap_cons_some e, List.filterMap_cons_some hu]
      exact .cons r (vals_places h l)
theorem slicePick_V {xs : List V} {us : List Value} (h : Vals xs us) (lo hi st : Option Int) : Vals (pickV xs lo hi st) (slicePick us.toArray lo hi st).toList := by
  have e : (slicePick us.toArray lo hi st).toList = (sliceRange (sliceBounds lo hi st xs.length).1 (sliceBounds lo hi st xs.length).2.1 (sliceBounds lo hi st xs.length).2.2).filterMap (us[·]?) := by
    simp [slicePick, h.length]
  rw [e]
  exact vals_places h _
/-- xs[lo:hi:st] of a list: a new list -/
def tSl3 (K : PySem.W.Frag) (te : TE) (tl th ts : TO) : TE := fun σ H Q => te σ H fun x H1 => tl σ H1 fun lo H2 => th σ H2 fun hi H3 => ts σ H3 fun st H4 =>
  ∃ a xs, x = .ref a ∧ SqL K H4 a xs ∧ st ≠ some 0 ∧ (pickV xs lo hi st).length ≤ sizeLine ∧ ∀ p, H4 p = none → Q (.ref p) (upd H4 p (.lst (pickV xs lo hi st)))
theorem pe_slice3 {e st : Expr} {lo hi : Option Expr} {te : TE} {tl th ts : TO} {p2 pos : Pos} (he : PE X e te) (hl : PO X lo tl) (hu : PO X hi th) (hst : PO X (some st) ts) : PE X (.Subscript e (.Slice lo hi (some st) p2) pos) (tSl3 X.K te tl th ts) where
  run := by
    intro pins s σ H Q I h
    refine Subscript_ (thn (he.run pins s σ H _ I h) ?_)
    rintro v s1 ⟨x, H1, I1, r1, q1⟩
    refine wpAny_Slice (thn (hl.run pins s1 σ H1 _ I1 q1) ?_)
    rintro vl s2 ⟨l, H2, I2, pl, q2⟩
    refine thn (hu.run pins s2 σ H2 _ I2 q2) ?_
    rintro vu s3 ⟨u, H3, I3, pu, q3⟩
    refine thn (hst.run pins s3 σ H3 _ I3 q3) ?_
    rintro vs s4 ⟨k, H4, I4, pk, a, xs, rfl, hx, k0, hsz, q⟩
    cases r1
    have I5 : Inv X pins σ H4 { s4 with heap := s4.heap.push { cls := .type "slice", data := .fields #[vl, vu, vs] } } := I4.kept (t' := s4.toks) fun b ob q => Heap.get?_push_of_some _ q
    obtain ⟨its, r, ht, hz⟩ := I5.list hx
    have hlen := r.length
    show wpAny (model X.prog X.w) X.A (subscriptTail e (.Slice lo hi (some st) p2) (.ref a) (.ref s4.heap.objs.size)) (EP X pins σ Q) X.xe { s4 with heap := s4.heap.push { cls := .type "slice", data := .fields #[vl, vu, vs] } }
    refine tail_any (ops := _) ht.isList.typeIs slot_list_getitem.lookup (wpAny_getItem_list_slice ht.isList (Heap.IsSliceOf.new ..) pl pu pk k0 ?_ (by rw [List.size_toArray]; omega)) (by with_unfolding_all rfl)
    have rp := slicePick_V r l u k
    refine ⟨.ref _, _, I5.laid (t' := s4.toks) (o := .lst (pickV xs l u k)) (fun b ob q => Heap.get?_push_of_some _ q) (Nat.le_refl _) ?_, rfl, q _ (I5.hok.fresh (Nat.le_refl _))⟩
    exact ⟨hsz, _, 0, rp, by rw [Array.toArray_toList]; exact Heap.get?_push_size _ rfl⟩

/-! ### (x,) * n -/
def rRep1 (K : PySem.W.Frag) : R2 := fun x y H Q => ∃ (l : Addr) (n : Nat) (v : V), x = .ref l ∧ y = .int (n : Int) ∧ SqT K H l [v] ∧ 2 ≤ n ∧ n ≤ 16777216 ∧ ∀ p, H p = none → Q (.ref p) (upd H p (.tup (List.replicate n v)))
theorem flat1 {α : Type} (v : α) : ∀ n, (List.replicate n [v]).flatten = List.replicate n v
  | 0 => rfl
  | n + 1 => by rw [List.replicate_succ, List.flatten_cons, flat1 v n]; rfl
theorem vals_rep {v : V} {u : Value} (r : RelV v u) : ∀ n, Vals (List.replicate n v) (List.replicate n u)
  | 0 => .nil
  | n + 1 => .cons r (vals_rep r n)
theorem op_rep1 : OpR X (binaryOp .Mult) (rRep1 X.K) := by
  rintro pins s σ H x y v u Q I rx ry ⟨l, m, w, rfl, rfl, hT, h2, hm, q⟩
  cases rx
  obtain ⟨t, rfl⟩ := ry
  obtain ⟨its, r, ⟨⟨cls, dd, data, sl⟩, ho, hc, n, hd⟩, hs⟩ := I.tuple hT
  simp only at hc hd
  subst hc hd
  cases r with
  | cons rw' rn =>
    rename_i u1 us1
    cases rn
    have hsz0 : ([u1] : List Value).toArray.size = 1 := rfl
    have ez : (List.foldl (fun x1 x2 => x1 ++ x2) #[] (List.replicate ((m : Int)).toNat ([u1] : List Value).toArray)) = (List.replicate m u1).toArray := by
      rw [size_rep, Int.toNat_natCast, flat1]
    have c0 : (decide ((m : Int) < -(2 ^ 63)) || decide ((m : Int) ≥ 2 ^ 63)) = false := by
      simp only [Bool.or_eq_false_iff, decide_eq_false_iff_not]
      omega
    have c1 : (([u1] : List Value).toArray.isEmpty || (m : Int) == 1) = false := by
      show (false || (m : Int) == 1) = false
      rw [Bool.false_or]
      exact beq_eq_false_iff_ne.mpr (by omega)
    have c2 : (decide ((m : Int) ≤ 0) || ([u1] : List Value).toArray.isEmpty) = false := by
      show (decide ((m : Int) ≤ 0) || false) = false
      rw [Bool.or_false]
      exact decide_eq_false (by omega)
    have c3 : ¬ ((([u1] : List Value).toArray.size : Nat) : Int) * (m : Int) > (2 ^ 63 - 1) / 8 := by
      rw [hsz0]
      omega
    have c4 : Builtin.Tuple.tupleTooMany (((([u1] : List Value).toArray.size : Nat) : Int) * (m : Int)) = false := by
      rw [hsz0]
      unfold Builtin.Tuple.tupleTooMany
      rw [sizeLine_eq]
      exact decide_eq_false (by omega)
    refine wpAny_binaryOp_repeat_ref (T := "tuple") (U := "int") (by decide) ⟨_, ho, rfl⟩ (fun s' => typeIs_int s' m t) noFill_tuple_mul F.fills_int_mul F.slot_int_rmul repeat_tuple F.slot_int_index.lookup
      (call_meets F.slot_int_rmul (typeIs_int s m t) F.entry_int_rmul (F.args_int_rmul_2 _ _) (int_rmul_tuple m t l _ n dd sl)
        ⟨ho, rfl, ⟨_, ho, rfl⟩, call_meets F.slot_tuple_mul ⟨_, ho, rfl⟩ F.entry_tuple_mul (F.args_tuple_mul_2 _ _)
          (tuple_mulW l _ n dd sl m t c0 c1 c2 c3 c4 (by rw [ez, List.size_toArray, List.length_replicate, sizeLine_eq]; exact hm)) ⟨ho, ?_⟩⟩)
    rw [ez]
    have rr : Vals (List.replicate m w) (List.replicate m u1) := vals_rep rw' m
    refine ⟨.ref s.heap.objs.size, _, I.laid (t' := s.toks) (o := .tup (List.replicate m w)) (fun b ob q => Heap.get?_push_of_some _ q) (Nat.le_refl _) ?_, rfl, q _ (I.hok.fresh (Nat.le_refl _))⟩
    exact ⟨by rw [List.length_replicate, sizeLine_eq]; exact hm, _, rr, IsTup.new _ _⟩

/-! ### enumerate(text) -/
def ItEs (x : Str) : It := ⟨fun i _ => i < x.cps.size, fun i H v H' => ∃ T c, v = .ref T ∧ H T = none ∧ H' = upd H T (.tup [.int (i : Nat), .str ⟨#[c]⟩]) ∧ x.cps[i]? = some c, fun i _ => i = x.cps.size⟩
theorem turn_enumS {P : Program} {w : World} {K : PySem.W.Frag} {elts : List Expr} {kk : Nat} {tpos : Pos} (e it : Addr) (x : Str) (t : Tok) :
    Turn P w K (.Tuple elts kk tpos) (ItEs x) [e, it] e (fun i h => (∃ old, IsEnum h e it ((i : Nat) : Int) old) ∧ h.IsStrIter it (strIterType x) x t i ∧ e ≠ it) where
  mem := by simp
  obj := by
    rintro i h ⟨⟨old, he⟩, ⟨o, ho, hc, hd⟩, _⟩ b hb
    have e' : b = e ∨ b = it := by simpa using hb
    rcases e' with rfl | rfl
    · exact ⟨_, he, fun v q => nomatch q⟩
    · exact ⟨o, ho, fun v q => by rw [hd] at q; cases q⟩
  keep := by
    rintro i h h' ⟨⟨old, he⟩, ⟨o, ho, r⟩, hne⟩ k
    exact ⟨⟨old, k e (by simp) _ he⟩, ⟨o, k it (by simp) o ho, r⟩, hne⟩
  item := by
    rintro X rfl rfl rfl hc i pins s σ H E I hf ⟨⟨old, he⟩, hit, hne⟩ hg
    have hel : e < s.heap.objs.size := Heap.lt_size he
    have hil : it < s.heap.objs.size := by
      obtain ⟨_, q, _⟩ := hit
      exact Heap.lt_size q
    have D : Draws X.prog X.w X.A.in1 it [it] x.cps.size (fun i v => ∃ c u, x.cps[i]? = some c ∧ v = .str ⟨#[c]⟩ u) (fun i h => h.IsStrIter it (strIterType x) x t i) := Draws.text (A := X.A.in1) (I.ok.hd hc) it x t
    refine wpAny_pyNext_enum_itemD (i := i) D he hit hg hne (by simpa using hne) fun v h' tk hv ho hit' hT hsz hk => ?_
    obtain ⟨c, u, hcx, rfl⟩ := hv
    refine ⟨_, rfl, wpAny_letOwnedTupleGo_enum (s := { s with heap := h', toks := tk + 1 }) ho fun h'' he' sb => ?_⟩
    have hT2 : h''.get? s.heap.objs.size = some { cls := .type "tuple", data := .seq #[.int i tk, .str ⟨#[c]⟩ u] } := (sb.2 _ (Nat.ne_of_gt hel)).trans hT
    have new : ObjOk X.prog X.w (upd H s.heap.objs.size (.tup [.int (i : Nat), .str ⟨#[c]⟩])) h'' s.heap.objs.size (.tup [.int (i : Nat), .str ⟨#[c]⟩]) :=
      ⟨by show 2 ≤ sizeLine; decide, [.int i tk, .str ⟨#[c]⟩ u], .cons ⟨_, rfl⟩ (.cons ⟨_, rfl⟩ .nil), ⟨_, hT2, rfl, _, rfl⟩⟩
    have I1 : Inv X pins σ (upd H s.heap.objs.size (.tup [.int (i : Nat), .str ⟨#[c]⟩])) { s with heap := h'', toks := tk + 1 } :=
      I.turnedNew (ch := [e, it]) (fun b ob hb q => (sb.2 b (fun z => hb (by simp [z]))).trans (hk b ob (fun z => hb (by simp [z])) (fun z => hb (by simp [z])) q)) hf (Nat.le_refl _) new
    refine ⟨.ref s.heap.objs.size, _, I1, rfl, ⟨_, c, rfl, I.hok.fresh (Nat.le_refl _), rfl, hcx⟩, ⟨⟨Value.str ⟨#[c]⟩ u, ?_⟩, ?_, hne⟩, fun b hb => ?_⟩
    · have e1 : ((i + 1 : Nat) : Int) = (i : Int) + 1 := by omega
      rw [e1]
      exact he'
    · obtain ⟨o, ho', r⟩ := hit'
      exact ⟨o, (sb.2 it (Ne.symm hne)).trans ho', r⟩
    · have e' : b = e ∨ b = it := by simpa using hb
      have hb' : b < s.heap.objs.size := by
        rcases e' with rfl | rfl
        · exact hel
        · exact hil
      rw [upd_ne (Nat.ne_of_lt hb')]
      exact (hf b hb).1
  done := by
    rintro X rfl rfl rfl hc i pins s σ H E I hf ⟨⟨old, he⟩, hit, hne⟩ hg
    obtain ⟨f0, f1, f2, f3, f4, f5⟩ := hf it (by simp)
    have hie : i = x.cps.size := hg
    subst hie
    have D : Draws X.prog X.w X.A.in1 it [it] x.cps.size (fun i v => ∃ c u, x.cps[i]? = some c ∧ v = .str ⟨#[c]⟩ u) (fun i h => h.IsStrIter it (strIterType x) x t i) := Draws.text (A := X.A.in1) (I.ok.hd hc) it x t
    exact wpAny_pyNext_enum_endD D he hit fun h' eb => ⟨rfl, I.turned (t' := s.toks) (fun b o hb q => eb b o hb q) f0 f1 f3 f4 f5⟩
  self := fun A i s Q E st h => by
    obtain ⟨⟨_, he⟩, _⟩ := st
    exact wpAny_pyIter_enum he h
def iEnumS (ta : TA) : TI := fun σ H R => ta σ H fun vs H1 => ∃ x, vs = [.str x] ∧ R (ItEs x) H1
theorem pi_enumS {e : Expr} {ta : TA} {p pos tpos : Pos} {elts : List Expr} {kk : Nat} (hg : Gl X "enumerate") (hm : X.mg "enumerate" = none) (ha : PA X [e] ta) (hs : starEach [e] X.env = [(false, eval e X.env)] := by rfl) :
    PI X (.Tuple elts kk tpos) (.Call (.Name "enumerate" p) [e] [] pos) (iEnumS ta) where
  run := by
    intro pins s σ H R I h
    refine Call_ (ld_blt I hg hm boot_enumerate (PyProof.Rows.callWith_type1 (thn (ha.run pos pins s σ H _ I h) ?_) hs rfl))
    rintro us s1 ⟨vs, H1, I1, r1, x, rfl, q⟩
    obtain ⟨u, rfl, r⟩ := vals1 r1
    obtain ⟨t, rfl⟩ := r
    refine call_enumerate_str fun h' he hit hsz hk => wpAny_pyIter_enum he ?_
    have I2 : Inv X pins σ H1 { s1 with heap := h' } := I1.kept (t' := s1.toks) hk
    refine ⟨s1.heap.objs.size + 1, [s1.heap.objs.size + 1, s1.heap.objs.size], _, _, H1, rfl, I2, turn_enumS (s1.heap.objs.size + 1) s1.heap.objs.size x t, ⟨⟨.none, he⟩, hit, Nat.succ_ne_self _⟩, fun b hb => ?_, q⟩
    have hle : s1.heap.objs.size ≤ b := by
      have e' : b = s1.heap.objs.size + 1 ∨ b = s1.heap.objs.size := by simpa using hb
      rcases e' with rfl | rfl
      · exact Nat.le_add_right _ _
      · exact Nat.le_refl _
    exact I1.fpOk hle (I1.hok.fresh hle)
end
end BJ

/-! defs as they stand in the text; the laws' drawing of numbers -/
namespace BJ
open PySem PySem.Spec PyProof.Rows L2
open PySem.W (Frag)

/-- the def st stands at f; its parameters, all positional, none with a default -/
structure DefAt (K : Frag) (x qual : Str) (st : Stmt) (f : Addr) (ps : List Str) : Prop where
  fn : ∃ fd, Fun K x qual st f fd ∧ Binds K fd ps []
section
variable {P : Program} {w : World} {K : Frag} {mg : Str → Option Value} {base : Heap}
theorem DefAt.okF {x qual : Str} {st : Stmt} {f : Addr} {N ps : List Str} {k : Nat} {sp : Sp} (D : DefAt K x qual st f ps) (S : FnScope N ps (defScope st))
    (len : ∀ vs H Q E, sp vs H Q E → vs.length = ps.length)
    (hbody : ∀ (cdv : Value) (A : Around) (outer : List Env) (s : Shared) (H : Hp) (vs : List V) (Q : VK) (E : XK),
      Room k (A.deeper (envOfC qual (defScope st) s.heap.objs.size f cdv)) → A.guards = some [] → sp vs H Q E →
      ∃ t, PSs (cxOf (L2.CX P w) P w K mg base N qual (defScope st) f cdv A outer s H E) (defBody st) t ∧ t { nx := fun _ H' => Q .non H', rt := Q } (start N vs) H) :
    ∃ fd, FnG P w K mg base (k + 1) f fd ps sp ∧ Binds K fd ps [] ∧ Fun K x qual st f fd := by
  obtain ⟨fd, F, hb⟩ := D.fn
  refine ⟨fd, ?_, hb, F⟩
  obtain ⟨oc, od, kV, doc, pm, an, cdv, ct, osl, rfl, lk, hcd⟩ := F.ex
  exact fnG_of lk hcd S len fun A outer s H vs Q E hr hg hsp => hbody cdv A outer s H vs Q E hr hg hsp
theorem DefAt.ok {x qual : Str} {st : Stmt} {f : Addr} {N ps : List Str} {k : Nat} {sp : Sp} (D : DefAt K x qual st f ps) (S : FnScope N ps (defScope st))
    (len : ∀ vs H Q E, sp vs H Q E → vs.length = ps.length)
    (hbody : ∀ (cdv : Value) (A : Around) (outer : List Env) (s : Shared) (H : Hp) (vs : List V) (Q : VK) (E : XK),
      Room k (A.deeper (envOfC qual (defScope st) s.heap.objs.size f cdv)) → A.guards = some [] → sp vs H Q E →
      ∃ t, PSs (cxOf (L2.CX P w) P w K mg base N qual (defScope st) f cdv A outer s H E) (defBody st) t ∧ t { nx := fun _ H' => Q .non H', rt := Q } (start N vs) H) :
    CallP P w K mg base (k + 1) (.ref f) sp := by
  obtain ⟨fd, F, hb, _⟩ := D.okF S len hbody
  have q := F.callP (dvs := []) hb .nil
  rintro A outer s H us ws vs zs Q E room hg e0 rel relz ⟨hz, prom⟩
  exact q A outer s H us ws vs zs Q E room hg e0 rel relz ⟨hz, show sp (vs ++ []) H Q E by rw [List.append_nil]; exact prom⟩
end

section
variable {X : Cx}
/-- a list by its very object, to be read: tracked or frozen, or one of the written part as it was made -/
def Scr (K : Frag) (H : Hp) (a : Addr) (xs : List V) : Prop :=
  Rd H a (.lst xs) ∨ ∃ (its : List Value) (n : Nat), K.lookup a = some { cls := .type "list", data := .seq its.toArray n } ∧ Vals xs its ∧ xs.length ≤ sizeLine
theorem Scr.sq {K : Frag} {H : Hp} {a : Addr} {xs : List V} (h : Scr K H a xs) : SqL K H a xs := by
  rcases h with h | ⟨its, n, hk, r, hz⟩
  · exact .inl h
  · exact .inr ⟨_, its.toArray, n, hk, rfl, rfl, rfl, by rw [List.size_toArray, ← r.length]; exact hz, r⟩
theorem Scr.at {pins : List (Addr × Obj)} {σ : L2.St} {H : Hp} {s : Shared} {a : Addr} {xs : List V} (I : Inv X pins σ H s) (h : Scr X.K H a xs) :
    ∃ (its : List Value) (n : Nat), Vals xs its ∧ IsL s.heap a its.toArray n ∧ xs.length ≤ sizeLine := by
  rcases h with h | ⟨its, n, hk, r, hz⟩
  · obtain ⟨z, its, n, r, e⟩ := h.ok I.hok
    exact ⟨its, n, r, e, z⟩
  · exact ⟨its, n, r, I.kIn _ _ hk, hz⟩
/-- xs + ys, both lists that may be read only -/
def rCatS (K : Frag) : R2 := fun x y H Q => ∃ l b xs zs, x = .ref l ∧ y = .ref b ∧ Scr K H l xs ∧ Scr K H b zs ∧ xs.length + zs.length ≤ sizeLine ∧ ∀ p, H p = none → Q (.ref p) (upd H p (.lst (xs ++ zs)))
theorem op_catS : OpR X (binaryOp .Add) (rCatS X.K) := by
  rintro pins s σ H x y v u Q I rx ry ⟨l, b, xs, zs, rfl, rfl, hH, hB, hz, q⟩
  cases rx
  cases ry
  obtain ⟨its, n, r, e, hl⟩ := hH.at I
  obtain ⟨its2, n2, r2, e2, hl2⟩ := hB.at I
  have q1 := r.length
  have q2 := r2.length
  refine PySem.P.add_list e e2 ?_ (by rw [List.size_toArray, List.size_toArray]; omega)
  rw [show its.toArray ++ its2.toArray = (its ++ its2).toArray from by simp]
  exact ⟨.ref _, _, I.lnew (t' := s.toks) (r.append r2) (by rw [List.length_append]; omega), rfl, q _ I.fresh⟩
end

/-! ### the law's call -/
/-- nothing is tracked but the script, frozen -/
theorem lawG {P : Program} {w : World} {K : Frag} {mg mb : Str → Option Value} {k : Nat} {fa a : Addr} {sp : Sp} {s₁ : Shared} {vs : List Value} {ns : List Int}
    (KX : K.In s₁.heap) (hns : s₁.heap.Ns mainGlobals mg) (hb : s₁.heap.Ns builtinsNs mb) (hbb : ∀ x : Str, x ≠ "__name__" → mb x = bootBuiltins x) (hlim : s₁.heap.NoLimit) (hg : s₁.gens = #[])
    (ha : s₁.heap.get? a = some { cls := .type "list", data := .seq vs.toArray }) (hi : IntsAre vs ns) (hl : ns.length ≤ sizeLine) (hr : Room k callerA)
    (F : ∀ base : Heap, K.In base → base.Ns mainGlobals mg → CallP P w K mg base k (.ref fa) sp)
    (hsp : ∀ H : Hp, Scr K H a (ns.map V.int) → sp [.ref a] H (fun v _ => v = .bl true) fun _ _ _ => False) :
    codeAny (model P w) callerA (.call (.ref fa) ⟨[.ref a], []⟩) (fun r s' => r = .ok (.ret (.bool true)) ∧ OldK s₁.heap s'.heap ∧ s'.os = s₁.os ∧ AllBare s'.gens) s₁ := by
  have rv := vals_ints hi
  have lenV := hi.length
  -- the abstract heap: the script alone, or nothing where the script is an object of the top
  have core : ∀ H : Hp, (∀ b u, H b = some u → b = a ∧ K.lookup a = none ∧ ∃ o xs, u = .frz o (.lst xs)) → HOk P w H s₁.heap → Scr K H a (ns.map V.int) →
      codeAny (model P w) callerA (.call (.ref fa) ⟨[.ref a], []⟩) (fun r s' => r = .ok (.ret (.bool true)) ∧ OldK s₁.heap s'.heap ∧ s'.os = s₁.os ∧ AllBare s'.gens) s₁ := by
    intro H hA hok hS
    have keepB : ∀ {b : Addr} {o : Obj}, s₁.heap.get? b = some o → H b = none → (hidT s₁.heap H).get? b = some o := fun e n => hidT_get e n
    have nsK : ∀ {b : Addr} {m : Str → Option Value}, s₁.heap.Ns b m → (hidT s₁.heap H).Ns b m := by
      rintro b m ⟨o, es, ep, e, d, r⟩
      refine ⟨o, es, ep, keepB e ?_, d, r⟩
      cases q : H b with
      | none => rfl
      | some u =>
        obtain ⟨rfl, _, _⟩ := hA b u q
        rw [ha] at e
        cases e
        cases d
    have kin : K.In (hidT s₁.heap H) := by
      intro b o e
      refine keepB (KX b o e) ?_
      cases q : H b with
      | none => rfl
      | some u =>
        obtain ⟨rfl, z, _⟩ := hA b u q
        rw [z] at e
        cases e
    obtain ⟨mc, l1, l2⟩ := id hlim
    have md : Mod K mg (hidT s₁.heap H) := ⟨kin, nsK hns, ⟨mb, nsK hb, hbb⟩, ⟨mc, nsK l1, l2⟩⟩
    have e0 : Env0 P w K mg (hidT s₁.heap H) callerA [] s₁ H :=
      ⟨rfl, md, fun b o e => of_hidT e, Nat.le_of_eq (hidT_size _ _), trivial, (fun b hb => absurd (show b ∈ ([] : List Addr) from hb) (by simp)), hok, AllBare.of_eq hg⟩
    refine codeAny_mono (F _ kin (nsK hns) callerA [] s₁ H [.ref a] [] [.ref a] [] _ _ hr rfl e0 (.cons rfl .nil) .nil ⟨rfl, hsp H hS⟩) ?_
    intro r s' h
    match r, h with
    | .error e, ⟨_, _, _, _, _, _, _, _, _, _, _, _, z⟩ => exact z.elim
    | .ok (.ret u), ⟨v, H', os, bare, un, hok', r', q⟩ =>
      obtain rfl : v = .bl true := q
      obtain rfl : u = Value.bool true := r'
      refine ⟨rfl, OldK.of_keep fun b o e => ?_, os, bare⟩
      cases q : H b with
      | none => exact un.keep b o e q (fun z => nomatch (show b ∈ ([] : List Addr) from z)) (fun z => nomatch z)
      | some u =>
        obtain ⟨_, _, ob, xs, rfl⟩ := hA b u q
        have e1 := (hok b _ q).1
        have e2 := (hok' b _ (un.frzs b ob _ q)).1
        rw [e] at e1
        cases e1
        exact e2
  cases hk : K.lookup a with
  | some o =>
    have e := KX a o hk
    rw [ha] at e
    cases e
    exact core (fun _ => none) (fun b u z => nomatch z) (fun b u z => nomatch z) (.inr ⟨vs, 0, hk, rv, by rw [List.length_map]; exact hl⟩)
  | none =>
    refine core (fun b => if b = a then some (.frz { cls := .type "list", data := .seq vs.toArray } (.lst (ns.map V.int))) else none) (fun b u z => ?_) (fun b u z => ?_) (.inl (.inr ⟨_, if_pos rfl⟩))
    · by_cases h : b = a
      · have q := (if_pos h).symm.trans z
        cases q
        exact ⟨h, hk, _, _, rfl⟩
      · exact nomatch (if_neg h).symm.trans z
    · by_cases h : b = a
      · have q := (if_pos h).symm.trans z
        cases q
        subst h
        exact ⟨ha, by rw [List.length_map]; exact hl, vs, _, rv, ha⟩
      · exact nomatch (if_neg h).symm.trans z
open PySem.W in
/-- what k_head leaves of a law, from the law's promise -/
theorem walkG {l : OpenLaw} {n k : Nat} {q : Program} {loose : List Str} {XP : (Str → Option Value) → Heap → Prop} {YP : World → Heap → Prop} {d : DefRec} {K : Params → Frag} {sp : World → Sp}
    (hn : l.most = some n) (hn2 : n ≤ sizeLine) (hdf : d.params.defaults = []) (hr : Room k callerA) (hY : ∀ (w : World) (h : Heap), YP w h → (K w.params).In h)
    (F : ∀ (w : World) (mg : Str → Option Value) (fa : Addr) (h : Heap), (K w.params).In h → h.Ns mainGlobals mg → mg d.name = some (.ref fa) →
      ∀ base : Heap, (K w.params).In base → base.Ns mainGlobals mg → CallP l.prog w (K w.params) mg base k (.ref fa) (sp w))
    (hsp : ∀ (w : World) (H : Hp) (a : Addr) (ns : List Int), ns.length ≤ n → (∀ z ∈ ns, Builtin.Int.intBits z ≤ 1048576) → Scr (K w.params) H a (ns.map V.int) → sp w [.ref a] H (fun v _ => v = .bl true) fun _ _ _ => False) :
    WalkO q loose XP YP l.row.toRowW d [] (fun f vs => PySem.call f vs) := by
  refine Att.attach_callB hn hdf fun w s₀ s₁ mg mb fa o pm cd doc a vs ns G Y ho hd hcd hmg hobj hints hlen hbits hg => ?_
  have KX := hY w _ Y
  exact lawG KX G.T.g G.T.b G.T.builtins G.T.nolimit hg hobj hints (Nat.le_trans hlen hn2) hr (F w mg fa _ KX G.T.g hmg) fun H hS => hsp w H a ns hlen hbits hS
end BJ

/-! the laws' drawing of numbers: what its dict is, what a draw promises -/
namespace BJ
open PySem PySem.Spec PyProof.Rows L2
open PySem.W (Frag)

theorem upd_keep {H : Hp} {a p : Addr} {o u : HO} (h : H a = some u) (np : H p = none) : upd H p o a = some u := by rw [upd_ne (ne_of_none h np)]; exact h
theorem same_upd {H : Hp} {p : Addr} {o : HO} (np : H p = none) : Same H (upd H p o) := fun _ _ e => upd_keep e np
theorem Same.trans' {H H1 H2 : Hp} (a : Same H H1) (b : Same H1 H2) : Same H H2 := fun p o e => b p o (a p o e)
theorem Same.rfl' {H : Hp} : Same H H := fun _ _ e => e

theorem ifd {p : Prop} [Decidable p] {A B : Prop} (h1 : p → A) (h2 : ¬ p → B) : if decide p = true then A else B := by
  by_cases h : p
  · rw [if_pos (decide_eq_true h)]
    exact h1 h
  · rw [if_neg (by simpa using h)]
    exact h2 h
theorem ifb {b : Bool} {A B : Prop} (h1 : b = true → A) (h2 : b = false → B) : if b = true then A else B := by
  cases b with
  | true => exact h1 rfl
  | false => exact h2 rfl
def drw (c : Addr) (a l u : Int) : List (Key × V) := [(.inr "cells", .ref c), (.inr "at", .int a), (.inr "left", .int l), (.inr "used", .int u)]
section
variable {c : Addr} {a l u i : Int} {v : V}
theorem drw_cells : valV (drw c a l u) (Sum.inr "cells") = some (.ref c) := by simp [drw, valV]
theorem drw_at : valV (drw c a l u) (Sum.inr "at") = some (.int a) := by
  have h1 : ¬ (("cells" : Str) = "at") := by decide
  simp [drw, valV, List.find?, h1]
theorem drw_left : valV (drw c a l u) (Sum.inr "left") = some (.int l) := by
  have h1 : ¬ (("cells" : Str) = "left") := by decide
  have h2 : ¬ (("at" : Str) = "left") := by decide
  simp [drw, valV, List.find?, h1, h2]
theorem drw_used : valV (drw c a l u) (Sum.inr "used") = some (.int u) := by
  have h1 : ¬ (("cells" : Str) = "used") := by decide
  have h2 : ¬ (("at" : Str) = "used") := by decide
  have h3 : ¬ (("left" : Str) = "used") := by decide
  simp [drw, valV, List.find?, h1, h2, h3]
theorem drw_put_at : putK (drw c a l u) (Sum.inr "at") (.int i) = drw c i l u := by
  have h1 : ¬ (("cells" : Str) = "at") := by decide
  have h2 : ¬ (("left" : Str) = "at") := by decide
  have h3 : ¬ (("used" : Str) = "at") := by decide
  simp [drw, putK, h1, h2, h3]
theorem drw_put_left : putK (drw c a l u) (Sum.inr "left") (.int i) = drw c a i u := by
  have h1 : ¬ (("cells" : Str) = "left") := by decide
  have h2 : ¬ (("at" : Str) = "left") := by decide
  have h3 : ¬ (("used" : Str) = "left") := by decide
  simp [drw, putK, h1, h2, h3]
theorem drw_put_used : putK (drw c a l u) (Sum.inr "used") (.int i) = drw c a l i := by
  have h1 : ¬ (("cells" : Str) = "used") := by decide
  have h2 : ¬ (("at" : Str) = "used") := by decide
  have h3 : ¬ (("left" : Str) = "used") := by decide
  simp [drw, putK, h1, h2, h3]
theorem drw_len : (drw c a l u).length = 4 := rfl
end
/-- the dict of the draws at d, its cells at c; at most n draws were made -/
structure Dr (H : Hp) (d c : Addr) (cells : List Int) (n : Nat) : Prop where
  dict : ∃ a l u, H d = some (.dK (drw c a l u)) ∧ 0 ≤ a ∧ a ≤ (n : Int) ∧ 0 ≤ u ∧ u ≤ (n : Int) ∧ 0 ≤ l
  list : H c = some (.lst (cells.map V.int))
  ne : cells ≠ []
  len : cells.length ≤ 64
theorem Dr.dc {H : Hp} {d c : Addr} {cells : List Int} {n : Nat} (D : Dr H d c cells n) : d ≠ c := by
  obtain ⟨a, l, u, h, _⟩ := D.dict
  exact ne_of h D.list (fun z => nomatch z)
theorem Dr.mono {H : Hp} {d c : Addr} {cells : List Int} {n m : Nat} (D : Dr H d c cells n) (h : n ≤ m) : Dr H d c cells m := by
  obtain ⟨⟨a, l, u, h1, h2, h3, h4, h5, h6⟩, hl, hn, hz⟩ := D
  exact ⟨⟨a, l, u, h1, h2, by omega, h4, by omega, h6⟩, hl, hn, hz⟩
theorem Dr.same {H H' : Hp} {d c : Addr} {cells : List Int} {n : Nat} (D : Dr H d c cells n) (s : Same H H') : Dr H' d c cells n := by
  obtain ⟨⟨a, l, u, h1, h2⟩, hl, hn, hz⟩ := D
  exact ⟨⟨a, l, u, s _ _ h1, h2⟩, s _ _ hl, hn, hz⟩
/-- all stands but at d -/
def But (d : Addr) (H H' : Hp) : Prop := ∀ p, p ≠ d → H' p = H p
theorem But.trans {d : Addr} {H H1 H2 : Hp} (a : But d H H1) (b : But d H1 H2) : But d H H2 := fun p h => (b p h).trans (a p h)
theorem But.rfl {d : Addr} {H : Hp} : But d H H := fun _ _ => Eq.refl _
theorem But.upd {d : Addr} {H : Hp} {o : HO} : But d H (upd H d o) := fun _ h => upd_ne h
/-- old things stand but d (new things may have come) -/
def SameBut (d : Addr) (H H' : Hp) : Prop := ∀ p o, p ≠ d → H p = some o → H' p = some o
theorem SameBut.rfl {d : Addr} {H : Hp} : SameBut d H H := fun _ _ _ e => e
theorem SameBut.trans {d : Addr} {H H1 H2 : Hp} (a : SameBut d H H1) (b : SameBut d H1 H2) : SameBut d H H2 := fun p o h e => b p o h (a p o h e)
theorem SameBut.of {d : Addr} {H H' : Hp} (s : Same H H') : SameBut d H H' := fun p o _ e => s p o e
theorem But.sb {d : Addr} {H H' : Hp} (b : But d H H') : SameBut d H H' := fun p o h e => (b p h).trans e

theorem dg {H : Hp} {d : Addr} {kvs : List (Key × V)} {k : Key} {v : V} (h : H d = some (.dK kvs)) (e : valV kvs k = some v) : DGet H d (kV k) (some v) := by
  rw [← e]
  exact DGet.k h
theorem dp {H : Hp} {d : Addr} {kvs kvs' : List (Key × V)} {k : Key} {v : V} (h : H d = some (.dK kvs)) (e : putK kvs k v = kvs') (hl : kvs.length < 1000) : DPut H d (kV k) v (upd H d (.dK kvs')) := by
  rw [← e]
  exact DPut.k h (Nat.lt_of_lt_of_le hl (by decide))
theorem fm {i b : Int} (h : 0 < b) : 0 ≤ i.fmod b ∧ i.fmod b < b := by
  rw [Int.fmod_eq_emod_of_nonneg i (by omega)]
  exact ⟨Int.emod_nonneg _ (by omega), Int.emod_lt_of_pos _ h⟩
theorem fd {i b : Int} (h : 0 < b) (hi : 0 ≤ i) : 0 ≤ i.fdiv b := by
  rw [Int.fdiv_eq_ediv_of_nonneg i (by omega)]
  exact Int.ediv_nonneg hi (by omega)
theorem Dr_up {H : Hp} {d c : Addr} {cells : List Int} {n : Nat} (D : Dr H d c cells n) {a l u : Int} (h1 : 0 ≤ a) (h2 : a ≤ (n : Int) + 1) (h3 : 0 ≤ u) (h4 : u ≤ (n : Int) + 1) (h5 : 0 ≤ l) : Dr (upd H d (.dK (drw c a l u))) d c cells (n + 1) :=
  ⟨⟨a, l, u, upd_same, h1, by omega, h3, by omega, h5⟩, by rw [upd_ne D.dc.symm]; exact D.list, D.ne, D.len⟩
def spBegin (K : Frag) : Sp := fun vs H Q _ => ∃ (a : Addr) (ns : List Int), vs = [.ref a] ∧ Scr K H a (ns.map V.int) ∧ ns.length ≤ 63 ∧ ∀ d c H', Same H H' → H d = none → H c = none → Dr H' d c (ns ++ [0]) 0 → Q (.ref d) H'
def spMixed : Sp := fun vs H Q _ => ∃ (cell k : Int), vs = [.int cell, .int k] ∧ 0 ≤ k ∧ k ≤ 1000000000 ∧ ∀ r, 0 ≤ r → Q (.int r) H
def spNext : Sp := fun vs H Q _ => ∃ (d c : Addr) (cells : List Int) (n : Nat) (b : Int), vs = [.ref d, .int b] ∧ Dr H d c cells n ∧ n < 1000000000 ∧ 0 < b ∧ b < 1073741824 ∧
  ∀ r H', 0 ≤ r → r < b → Dr H' d c cells (n + 1) → But d H H' → Q (.int r) H'
end BJ

/-! what evaluates (on Evl): calls, comprehensions by walks; types of values; data with {} -/
namespace BJ
open PySem PySem.Spec PyProof.Rows L2 Evl
open PySem.W (Frag kitOne kitAny)

section
variable {σ : L2.St} {H : Hp} {z : V}
/-- a def's promise gives the value z -/
def SpE (sp : Sp) (vs : List V) (H : Hp) (z : V) : Prop := ∀ H1, Ex H H1 → ∀ (Q : VK) (E : XK), (∀ H2, Ex H1 H2 → Q z H2) → sp vs H1 Q E
theorem ev_ca {sp : Sp} {W : WX} {t : TA} {vs : List V} (h : EvA t σ H vs) (hs : SpE sp vs H z) : Ev (tCa sp W t) σ H z := fun H1 e Q q =>
  h H1 e _ fun H2 e2 => hs H2 (e.trans e2) Q _ fun H3 e3 => q H3 (e2.trans e3)
theorem et_yes : EvT tYes σ H true := fun H1 _ _ q => q H1 (Ex.refl H1)

theorem given_len' (n : Nat) (f : Nat → Bool) (v : Nat → V) : (given n f v).length ≤ n := given_len n f v
theorem cw_turn' {t : TT} {te : TE} {H H' : Hp} {f : Nat → Bool} {v : Nat → V} {Dl : Addr} {i : Nat} {σ2 : L2.St} (p : Cw H f v Dl i H') (hi : i < 1000000) (ht : EvT t σ2 H (f i)) (he : f i = true → Ev te σ2 H (v i)) :
    t σ2 H' fun b H3 => if b = true then te σ2 H3 fun y H4 => ∃ acc, H4 Dl = some (.lst acc) ∧ acc.length < sizeLine ∧ Cw H f v Dl (i + 1) (upd H4 Dl (.lst (acc ++ [y]))) else Cw H f v Dl (i + 1) H3 := by
  obtain ⟨p1, p2, p3⟩ := p
  refine ht H' p2 _ fun H3 e3 => ?_
  cases hf : f i with
  | true =>
    show te σ2 H3 fun y H4 => ∃ acc, H4 Dl = some (.lst acc) ∧ acc.length < sizeLine ∧ Cw H f v Dl (i + 1) (upd H4 Dl (.lst (acc ++ [y])))
    refine he hf H3 (p2.trans e3) _ fun H4 e4 => ⟨given i f v, e4 Dl _ (e3 Dl _ p3), (by have := given_len i f v; rw [sizeLine_eq]; omega), p1, Ex.mut ((p2.trans e3).trans e4) p1, ?_⟩
    rw [given_yes hf]
    exact upd_same
  | false =>
    show Cw H f v Dl (i + 1) H3
    refine ⟨p1, p2.trans e3, ?_⟩
    rw [given_no hf]
    exact e3 Dl _ p3
/-- a comprehension over a walk; the turn may lay objects, changes none -/
theorem lc_ev {J : It} {n : Nat} {G : Hp → Prop} {Y : Nat → Hp → V → Hp → Prop} (w : Walk J n G Y) {g : TG} {tt : TT} {te : TE} {vs : List Nat} {H1 : Hp} {Q : VK} (f : Nat → Bool) (v : Nat → V) (hn : n ≤ 1000000)
    (hG : ∀ H, Ex H1 H → G H)
    (hs : ∀ i x H2 H3, i < n → Ex H1 H2 → Y i H2 x H3 → ∃ σ2, wipe σ2 vs = wipe σ vs ∧ Ex H2 H3 ∧ (∀ Q : L2.St → Hp → Prop, Q σ2 H3 → g x (wipe σ vs) H3 Q) ∧ EvT tt σ2 H1 (f i) ∧ (f i = true → Ev te σ2 H1 (v i)))
    (k : ∀ D H', H1 D = none → Ex H1 H' → H' D = some (.lst (given n f v)) → Q (.ref D) H') :
    ∀ D, H1 D = none → ∃ W : Nat → Nat → Hp → Prop, (∃ m, W 0 m (upd H1 D (.lst []))) ∧ ∀ i m H, W i m H →
      (J.stop i H ∧ Q (.ref D) H) ∨ (J.go i H ∧ ∃ Nx : Hp → Prop, (∀ H', Nx H' → ∃ m', m' < m ∧ W (i + 1) m' H') ∧ ∀ x H', J.yld i H x H' → g x (wipe σ vs) H' fun σ2 H2 => wipe σ2 vs = wipe σ vs ∧ tt σ2 H2 fun b H3 =>
        if b = true then te σ2 H3 fun y H4 => ∃ acc, H4 D = some (.lst acc) ∧ acc.length < sizeLine ∧ Nx (upd H4 D (.lst (acc ++ [y]))) else Nx H3) := fun D hD =>
  lc_it w (Cw H1 f v D) ⟨hD, Ex.new hD, upd_same⟩ (fun i H _ p => hG H p.2.1) (fun i x H2 H3 hi p y => by
    obtain ⟨σ2, hw, e3, hg, ht, he⟩ := hs i x H2 H3 hi p.2.1 y
    exact hg _ ⟨hw, cw_turn' ⟨p.1, p.2.1.trans e3, e3 D _ p.2.2⟩ (by omega) ht he⟩) fun H' p => k D H' p.1 p.2.1 p.2.2
theorem given_map {α : Type} (xs : List α) (d : α) (f : α → Bool) (F : α → V) : given xs.length (fun i => f (xs.getD i d)) (fun i => F (xs.getD i d)) = (xs.filter f).map F := by
  unfold given
  have h : (List.range xs.length).map (fun i => xs.getD i d) = xs := by
    apply List.ext_getElem
    · simp
    · intro i h1 h2
      simp [List.getD, List.getElem?_eq_getElem h2]
  have e : ((List.range xs.length).filter (fun i => f (xs.getD i d))).map (fun i => xs.getD i d) = xs.filter f := by
    conv => rhs; rw [← h]
    rw [List.filter_map]
    rfl
  rw [← e, List.map_map]
  rfl
/-- .. its target a name, the items those of xs -/
theorem lc_at {J : It} {xs : List V} {G : Hp → Prop} (w : Walk J xs.length G (YAt xs)) {j : Nat} {tt : TT} {te : TE} {vs : List Nat} {H1 : Hp} {Q : VK} (f : V → Bool) (F : V → V) (hn : xs.length ≤ 1000000)
    (hG : ∀ H, Ex H1 H → G H) (hw : ∀ x, wipe ((wipe σ vs).set j (some x)) vs = wipe σ vs)
    (ht : ∀ x ∈ xs, EvT tt ((wipe σ vs).set j (some x)) H1 (f x)) (he : ∀ x ∈ xs, f x = true → Ev te ((wipe σ vs).set j (some x)) H1 (F x))
    (k : ∀ D H', H1 D = none → Ex H1 H' → H' D = some (.lst ((xs.filter f).map F)) → Q (.ref D) H') :
    ∀ D, H1 D = none → ∃ W : Nat → Nat → Hp → Prop, (∃ m, W 0 m (upd H1 D (.lst []))) ∧ ∀ i m H, W i m H →
      (J.stop i H ∧ Q (.ref D) H) ∨ (J.go i H ∧ ∃ Nx : Hp → Prop, (∀ H', Nx H' → ∃ m', m' < m ∧ W (i + 1) m' H') ∧ ∀ x H', J.yld i H x H' → gName j x (wipe σ vs) H' fun σ2 H2 => wipe σ2 vs = wipe σ vs ∧ tt σ2 H2 fun b H3 =>
        if b = true then te σ2 H3 fun y H4 => ∃ acc, H4 D = some (.lst acc) ∧ acc.length < sizeLine ∧ Nx (upd H4 D (.lst (acc ++ [y]))) else Nx H3) :=
  lc_ev w (fun i => f (xs.getD i .non)) (fun i => F (xs.getD i .non)) hn hG (fun i x H2 H3 hi e ⟨e1, hx⟩ => by
    subst e1
    have hm : x ∈ xs := List.mem_of_getElem? hx
    have hd : xs.getD i .non = x := by rw [List.getD, hx]; rfl
    refine ⟨_, hw x, Ex.refl _, fun Q q => q, ?_, ?_⟩
    · rw [hd]; exact ht x hm
    · rw [hd]; exact he x hm) (by rw [given_map]; exact k)
/-- .. its target a pair (a, b) of names -/
theorem lc_pr {J : It} {ps : List (V × V)} {G : Hp → Prop} {K : Frag} (w : Walk J ps.length G (fun i H v H' => ∃ T p, v = .ref T ∧ H T = none ∧ H' = upd H T (.tup [p.1, p.2]) ∧ ps[i]? = some p)) {j l : Nat} {tt : TT} {te : TE} {vs : List Nat} {H1 : Hp} {Q : VK} (f : V × V → Bool) (F : V × V → V) (hn : ps.length ≤ 1000000)
    (hG : ∀ H, Ex H1 H → G H) (hw : ∀ x y, wipe (((wipe σ vs).set j (some x)).set l (some y)) vs = wipe σ vs)
    (ht : ∀ p ∈ ps, EvT tt (((wipe σ vs).set j (some p.1)).set l (some p.2)) H1 (f p)) (he : ∀ p ∈ ps, f p = true → Ev te (((wipe σ vs).set j (some p.1)).set l (some p.2)) H1 (F p))
    (k : ∀ D H', H1 D = none → Ex H1 H' → H' D = some (.lst ((ps.filter f).map F)) → Q (.ref D) H') :
    ∀ D, H1 D = none → ∃ W : Nat → Nat → Hp → Prop, (∃ m, W 0 m (upd H1 D (.lst []))) ∧ ∀ i m H, W i m H →
      (J.stop i H ∧ Q (.ref D) H) ∨ (J.go i H ∧ ∃ Nx : Hp → Prop, (∀ H', Nx H' → ∃ m', m' < m ∧ W (i + 1) m' H') ∧ ∀ x H', J.yld i H x H' → gTup K 2 (gCons (gName j) (gCons (gName l) gNil)) x (wipe σ vs) H' fun σ2 H2 => wipe σ2 vs = wipe σ vs ∧ tt σ2 H2 fun b H3 =>
        if b = true then te σ2 H3 fun y H4 => ∃ acc, H4 D = some (.lst acc) ∧ acc.length < sizeLine ∧ Nx (upd H4 D (.lst (acc ++ [y]))) else Nx H3) :=
  lc_ev w (fun i => f (ps.getD i (.non, .non))) (fun i => F (ps.getD i (.non, .non))) hn hG (fun i x H2 H3 hi e y => by
    obtain ⟨T, ⟨p1, p2⟩, rfl, hT, rfl, hx⟩ := y
    have hm : (p1, p2) ∈ ps := List.mem_of_getElem? hx
    have hd : ps.getD i (.non, .non) = (p1, p2) := by rw [List.getD, hx]; rfl
    refine ⟨_, hw p1 p2, Ex.new hT, fun Q q => ⟨T, [p1, p2], rfl, st_of upd_same, rfl, p1, [p2], rfl, p2, [], rfl, rfl, q⟩, ?_, ?_⟩
    · rw [hd]; exact ht _ hm
    · rw [hd]; exact he _ hm) (by rw [given_map]; exact k)
theorem walk_strA {z : Str} : Walk (Its z) ((z.cps.toList.map fun c => V.str ⟨#[c]⟩).length) (fun _ => True) (YAt (z.cps.toList.map fun c => V.str ⟨#[c]⟩)) := by
  have e : (z.cps.toList.map fun c => V.str ⟨#[c]⟩).length = z.cps.size := by simp
  rw [e]
  refine walk_str.mono (fun _ h => h) fun i H x H' hi _ ⟨h1, c, hc, hx⟩ => ⟨h1, ?_⟩
  rw [List.getElem?_map, Array.getElem?_toList, hc, hx]
  rfl
theorem walk_rangeA {lo : Int} {n : Nat} : Walk (Itr lo n) (((List.range n).map fun i => V.int (lo + (i : Nat))).length) (fun _ => True) (YAt ((List.range n).map fun i => V.int (lo + (i : Nat)))) := by
  have e : ((List.range n).map fun i => V.int (lo + (i : Nat))).length = n := by simp
  rw [e]
  refine walk_range.mono (fun _ h => h) fun i H x H' hi _ ⟨h1, h2⟩ => ⟨h1, ?_⟩
  rw [List.getElem?_map, List.getElem?_range hi, h2]
  rfl
theorem walk_rangeCA {lo c : Int} {n : Nat} : Walk (Itc lo c n) (((List.range n).map fun i => V.int (lo + (i : Nat) * c)).length) (fun _ => True) (YAt ((List.range n).map fun i => V.int (lo + (i : Nat) * c))) := by
  have e : ((List.range n).map fun i => V.int (lo + (i : Nat) * c)).length = n := by simp
  rw [e]
  refine walk_rangeC.mono (fun _ h => h) fun i H x H' hi _ ⟨h1, h2⟩ => ⟨h1, ?_⟩
  rw [List.getElem?_map, List.getElem?_range hi, h2]
  rfl
/-- enumerate(text) -/
def enumP (z : Str) : List (V × V) := (z.cps.toList.zipIdx).map fun p => (V.int (p.2 : Nat), V.str ⟨#[p.1]⟩)
theorem enumP_len (z : Str) : (enumP z).length = z.cps.size := by simp [enumP]
theorem walk_enumSA {z : Str} : Walk (ItEs z) (enumP z).length (fun _ => True) (fun i H v H' => ∃ T p, v = .ref T ∧ H T = none ∧ H' = upd H T (.tup [p.1, p.2]) ∧ (enumP z)[i]? = some p) := by
  rw [enumP_len]
  refine ⟨fun i H hi _ => hi, fun H _ => rfl, fun i H v H' hi _ ⟨T, c, h1, h2, h3, h4⟩ => ⟨T, (V.int (i : Nat), V.str ⟨#[c]⟩), h1, h2, h3, ?_⟩⟩
  unfold enumP
  rw [List.getElem?_map, List.getElem?_zipIdx, Array.getElem?_toList, h4]
  simp
theorem walk_zipA {K : Frag} {a b : Addr} {xs ys : List V} : Walk (Itz K a b) (xs.zip ys).length (fun H => SqL K H a xs ∧ SqL K H b ys) (fun i H v H' => ∃ T p, v = .ref T ∧ H T = none ∧ H' = upd H T (.tup [p.1, p.2]) ∧ (xs.zip ys)[i]? = some p) := by
  refine (walk_zip (n := (xs.zip ys).length) (by simp)).mono (fun _ h => h) fun i H v H' hi _ ⟨T, x, y, h1, h2, h3, h4, h5⟩ => ⟨T, (x, y), h1, h2, h3, ?_⟩
  rw [List.getElem?_zip_eq_some]
  exact ⟨h4, h5⟩
end

/-! ### types -/
theorem ty_tup {K : Frag} {H : Hp} {p : Addr} {xs : List V} (h : SqT K H p xs) : TyX K H (.ref p) (.type "tuple") := by
  rcases h with (h | ⟨o, h⟩) | ⟨o, its, n, hk, hc, _⟩
  · exact .base (.tup h)
  · exact .fTuple h
  · exact .kTuple hk hc
theorem ty_lst {K : Frag} {H : Hp} {p : Addr} {xs : List V} (h : SqL K H p xs) : TyX K H (.ref p) (.type "list") := by
  rcases h with (h | ⟨o, h⟩) | ⟨o, its, n, hk, hc, _⟩
  · exact .base (.lst h)
  · exact .base (.frz h)
  · exact .kList hk hc
/-- x is of the built-in type n -/
def TyN (K : Frag) (H : Hp) (x : V) (n : String) : Prop := TyX K H x (.type n)
theorem tyx_ex {K : Frag} {H H' : Hp} (e : Ex H H') {x : V} {n : String} (h : TyX K H x (.type n)) : TyX K H' x (.type n) := by
  generalize ht : Value.type n = t at h
  cases h with
  | base b =>
    cases b with
    | non => exact .base .non
    | bl y => exact .base (.bl y)
    | int i => exact .base (.int i)
    | str y => exact .base (.str y)
    | flt y => exact .base (.flt y)
    | lst ea => exact .base (.lst (e _ _ ea))
    | frz ea => exact .base (.frz (e _ _ ea))
    | tup ea => exact .base (.tup (e _ _ ea))
    | dK ea => exact .base (.dK (e _ _ ea))
    | dT ea => exact .base (.dT (e _ _ ea))
    | ins => cases ht
  | byt b => exact .byt b
  | set ea => exact .set (e _ _ ea)
  | kList ea c => exact .kList ea c
  | kTuple ea c => exact .kTuple ea c
  | kDict ea c => exact .kDict ea c
  | fTuple ea => exact .fTuple (e _ _ ea)
  | fDict ea => exact .fDict (e _ _ ea)
mutual
theorem dp_ex {K : Frag} {H H' : Hp} (e : Ex H H') : ∀ {x : V} {d : PyData}, Dp K H x d → Dp K H' x d
  | _, _, .non => .non
  | _, _, .bl b => .bl b
  | _, _, .int i => .int i
  | _, _, .str x => .str x
  | _, _, .lst h1 h2 => .lst (ex_l e h1) (dpAll_ex e h2)
  | _, _, .tup h1 h2 => .tup (ex_t e h1) (dpAll_ex e h2)
theorem dpAll_ex {K : Frag} {H H' : Hp} (e : Ex H H') : ∀ {xs : List V} {ds : List PyData}, DpAll K H xs ds → DpAll K H' xs ds
  | _, _, .nil => .nil
  | _, _, .cons h1 h2 => .cons (dp_ex e h1) (dpAll_ex e h2)
end
theorem dpAll_int {K : Frag} {H : Hp} : ∀ ns : List Int, DpAll K H (ns.map V.int) (ns.map PyData.int)
  | [] => .nil
  | n :: ns => .cons (.int n) (dpAll_int ns)
/-- the type's name of data -/
def tyN : PyData → String
  | .none => "NoneType" | .bool _ => "bool" | .int _ => "int" | .str _ => "str" | .list _ => "list" | .tuple _ => "tuple" | .dict _ => "dict"
/-- data, or the empty dict -/
inductive Dq (K : Frag) (H : Hp) : V → PyData → Prop
  | dp {x : V} {d : PyData} (h : Dp K H x d) : Dq K H x d
  | dict {a : Addr} (h : H a = some (.dK [])) : Dq K H (.ref a) (.dict [])
theorem Dq.ex {K : Frag} {H H' : Hp} {x : V} {d : PyData} (e : Ex H H') (h : Dq K H x d) : Dq K H' x d := by
  cases h with
  | dp h => exact .dp (dp_ex e h)
  | dict h => exact .dict (e _ _ h)
theorem dp_ty {K : Frag} {H : Hp} {x : V} {d : PyData} (h : Dp K H x d) : TyX K H x (.type (tyN d)) := by
  cases h with
  | non => exact .base .non
  | bl b => exact .base (.bl b)
  | int i => exact .base (.int i)
  | str x => exact .base (.str x)
  | lst h _ => exact ty_lst h
  | tup h _ => exact ty_tup h
theorem Dq.ty {K : Frag} {H : Hp} {x : V} {d : PyData} (h : Dq K H x d) : TyX K H x (.type (tyN d)) := by
  cases h with
  | dp h => exact dp_ty h
  | dict h => exact .base (.dK h)
section
variable {X : Cx}
/-- repr(x) of data, {} among it -/
def rReprQ (K : Frag) : List V → Hp → VK → Prop := fun xs H Q => ∃ (x : V) (d : PyData), xs = [x] ∧ Dq K H x d ∧ d.showable = true ∧ (d = .dict [] ∨ d.hasDict = false) ∧ d.depth ≤ 40 ∧ d.shown.length ≤ sizeLine ∧ Q (.str d.shown) H
theorem call_reprQ {k : Nat} (hr : Room k X.A) (hG : X.A.guards = some []) : CallR X (.builtin "repr") (rReprQ X.K) := by
  rintro pins s σ H xs us Q I r ⟨x, d, rfl, hd, hs, hnd, hdep, hsz, q⟩
  cases hd with
  | dp hd =>
    refine call_repr hr hG pins s σ H [x] us Q I r ⟨x, d, rfl, hd, hs, ?_, hdep, hsz, q⟩
    rcases hnd with rfl | h
    · cases hd
    · exact h
  | @dict a ha =>
    obtain ⟨u, rfl, r1⟩ := vals1 r
    cases (show u = Value.ref a from r1)
    obtain ⟨_, hsys, vs, hkv, o, es, ep, h1, h2, h3, _, h5, _⟩ := (show ObjOk X.prog X.w H s.heap a (.dK []) from I.hok a _ ha)
    cases hkv
    have he : es.toList = [] := List.length_eq_zero_iff.mp (by rw [h5.length]; rfl)
    have rd : Reads s.heap (.ref a) (.dict []) (a :: [] ++ []) := .dict (kvs := []) h1 h2.1 h3 (by rw [he]; exact .nil) (by rw [he]; exact .nil)
    refine repr_of_reads' rd hs (fun _ hm => ?_) hG (by have := hr.un; omega) (fun _ _ e => e) (fun h' t tk kk => ⟨.str (PyData.dict []).shown, H, I.kept (t' := tk) kk, ⟨t, rfl⟩, q⟩) hsz
    have : sysModules = a := by simpa using hm
    rw [this] at hsys
    simp at hsys
end
end BJ

/-! hex digits, what a text of them reads to; data of ints -/
namespace BJ
open PySem PySem.Spec PyProof.Rows L2 Evl

/-! ### data of ints -/
theorem canLay_ints : ∀ ns : List Int, PyData.canLayAll0 (ns.map .int) = true
  | [] => rfl
  | n :: ns => by
    rw [List.map_cons]
    unfold PyData.canLayAll0
    rw [canLay_ints ns]
    rfl
theorem depth_ints : ∀ ns : List Int, PyData.depthAll (ns.map .int) = 0
  | [] => rfl
  | n :: ns => by
    rw [List.map_cons]
    unfold PyData.depthAll
    rw [depth_ints ns]
    rfl
theorem show_ints : ∀ ns : List Int, (∀ n ∈ ns, n.natAbs < 10 ^ 12) → PyData.showableAll (ns.map .int) = true
  | [], _ => rfl
  | n :: ns, h => by
    rw [List.map_cons]
    unfold PyData.showableAll
    rw [show_ints ns fun m hm => h m (List.mem_cons_of_mem _ hm), Bool.and_true]
    unfold PyData.showable
    have h1 := h n List.mem_cons_self
    refine decide_eq_true ?_
    by_cases h0 : n.natAbs = 0
    · rw [h0]; decide
    · have := (Nat.log2_lt h0 (k := 1920)).mpr (Nat.lt_of_lt_of_le h1 (by decide))
      exact this
theorem short_ints : ∀ ns : List Int, (∀ n ∈ ns, n.natAbs < 10 ^ 12) → PyData.leavesShortAll 13 (ns.map .int) = true
  | [], _ => rfl
  | n :: ns, h => by
    rw [List.map_cons]
    unfold PyData.leavesShortAll
    rw [short_ints ns fun m hm => h m (List.mem_cons_of_mem _ hm), Bool.and_true]
    unfold PyData.leavesShort
    exact decide_eq_true (PyData.shown_int_le (h n List.mem_cons_self))
theorem bulk_ints : ∀ ns : List Int, PyData.bulkAll (ns.map .int) = ns.length
  | [] => rfl
  | n :: ns => by
    rw [List.map_cons]
    unfold PyData.bulkAll
    rw [bulk_ints ns, List.length_cons]
    unfold PyData.bulk
    omega
theorem eqv_ints : ∀ ns ms : List Int, PyData.eqvAll (ns.map .int) (ms.map .int) = decide (ns = ms)
  | [], [] => by simp [PyData.eqvAll]
  | [], m :: ms => by simp [PyData.eqvAll]
  | n :: ns, [] => by simp [PyData.eqvAll]
  | n :: ns, m :: ms => by
    rw [List.map_cons, List.map_cons]
    unfold PyData.eqvAll
    rw [eqv_ints ns ms]
    unfold PyData.eqv
    by_cases h1 : n = m <;> by_cases h2 : ns = ms <;> simp [h1, h2]
/-- a tuple, a list of ints -/
def dT (ns : List Int) : PyData := .tuple (ns.map .int)
def dL (ns : List Int) : PyData := .list (ns.map .int)
theorem dT_shaped (ns : List Int) : SeqAt.shaped (dT ns) = true := by
  unfold SeqAt.shaped dT
  rw [Bool.and_eq_true]
  refine ⟨?_, decide_eq_true ?_⟩
  · unfold PyData.canLay0; exact canLay_ints ns
  · unfold PyData.depth; rw [depth_ints]; omega
theorem dL_shaped (ns : List Int) : SeqAt.shaped (dL ns) = true := by
  unfold SeqAt.shaped dL
  rw [Bool.and_eq_true]
  refine ⟨?_, decide_eq_true ?_⟩
  · unfold PyData.canLay0; exact canLay_ints ns
  · unfold PyData.depth; rw [depth_ints]; omega
/-- what repr asks of data -/
structure Shows (d : PyData) : Prop where
  s : d.showable = true
  n : d = .dict [] ∨ d.hasDict = false
  p : d.depth ≤ 40
  z : d.shown.length ≤ sizeLine
theorem hasDict_ints : ∀ ns : List Int, PyData.hasDictAll (ns.map .int) = false
  | [] => rfl
  | n :: ns => by
    rw [List.map_cons]
    unfold PyData.hasDictAll
    rw [hasDict_ints ns]
    rfl
theorem dT_shows {ns : List Int} (h : ∀ n ∈ ns, n.natAbs < 10 ^ 12) (hl : ns.length ≤ 1000000) : Shows (dT ns) where
  s := by unfold dT PyData.showable; exact show_ints ns h
  n := .inr (by unfold dT PyData.hasDict; exact hasDict_ints ns)
  p := by unfold dT PyData.depth; rw [depth_ints]; omega
  z := PyData.shown_fits_bulk (d := dT ns) (B := 13) (by decide) (by decide) (by unfold dT PyData.leavesShort; exact short_ints ns h) (by unfold dT PyData.bulk; rw [bulk_ints]; omega)
theorem dL_shows {ns : List Int} (h : ∀ n ∈ ns, n.natAbs < 10 ^ 12) (hl : ns.length ≤ 1000000) : Shows (dL ns) where
  s := by unfold dL PyData.showable; exact show_ints ns h
  n := .inr (by unfold dL PyData.hasDict; exact hasDict_ints ns)
  p := by unfold dL PyData.depth; rw [depth_ints]; omega
  z := PyData.shown_fits_bulk (d := dL ns) (B := 13) (by decide) (by decide) (by unfold dL PyData.leavesShort; exact short_ints ns h) (by unfold dL PyData.bulk; rw [bulk_ints]; omega)
theorem dp_T {K : PySem.W.Frag} {H : Hp} {p : Addr} {ns : List Int} (h : SqT K H p (ns.map V.int)) : Dp K H (.ref p) (dT ns) := .tup h (dpAll_int ns)
theorem dp_L {K : PySem.W.Frag} {H : Hp} {p : Addr} {ns : List Int} (h : SqL K H p (ns.map V.int)) : Dp K H (.ref p) (dL ns) := .lst h (dpAll_int ns)
theorem eqv_T (ns ms : List Int) : PyData.eqv (dT ns) (dT ms) = decide (ns = ms) := by unfold dT PyData.eqv; exact eqv_ints ns ms
theorem eqv_L (ns ms : List Int) : PyData.eqv (dL ns) (dL ms) = decide (ns = ms) := by unfold dL PyData.eqv; exact eqv_ints ns ms

/-! ### hex -/
def DIG : Str := "0123456789abcdef"
def hexd (i : Nat) : Nat := if i < 10 then 48 + i else 87 + i
def hval (c : Nat) : Nat := if c < 58 then c - 48 else c - 87
def hok (c : Nat) : Bool := decide (c ∈ DIG.cps.toList)
theorem dig_eq : DIG.cps.toList = (List.range 16).map hexd := by decide +kernel
theorem dig_len : DIG.length = 16 := by decide +kernel
theorem hval_hexd {i : Nat} (h : i < 16) : hval (hexd i) = i := by unfold hval hexd; split <;> split <;> omega
theorem hok_hexd {i : Nat} (h : i < 16) : hok (hexd i) = true := by
  unfold hok
  rw [dig_eq]
  exact decide_eq_true (List.mem_map.mpr ⟨i, List.mem_range.mpr h, rfl⟩)
theorem hok_ex {c : Nat} (h : hok c = true) : ∃ i, i < 16 ∧ c = hexd i := by
  unfold hok at h
  rw [dig_eq] at h
  obtain ⟨i, hi, e⟩ := List.mem_map.mp (of_decide_eq_true h)
  exact ⟨i, List.mem_range.mp hi, e.symm⟩
theorem hval_lt {c : Nat} (h : hok c = true) : hval c < 16 := by
  obtain ⟨i, hi, rfl⟩ := hok_ex h
  rw [hval_hexd hi]
  exact hi
theorem dig_occ : ∀ i ∈ List.range 16, Builtin.Str.occurrences DIG ⟨#[hexd i]⟩ 0 DIG.length 1 = [i] := by decide +kernel
theorem hok_occ {c : Nat} (h : hok c = true) : Builtin.Str.occurrences DIG ⟨#[c]⟩ 0 DIG.length 1 = [hval c] := by
  obtain ⟨i, hi, rfl⟩ := hok_ex h
  rw [hval_hexd hi]
  exact dig_occ i (List.mem_range.mpr hi)
theorem dig_at {i : Nat} (h : i < 16) : atI DIG.cps.toList (i : Int) = some (hexd i) := by
  refine atI_nat ?_
  rw [dig_eq, List.getElem?_map, List.getElem?_range h]
  rfl
def pairs : List Nat → List Int
  | a :: b :: r => (16 * (hval a : Int) + (hval b : Int)) :: pairs r
  | _ => []
/-- what a text reads to: octets, or where it is wrong -/
def due (l : List Nat) : List Int ⊕ Int :=
  match l.findIdx? fun c => !hok c with
  | some i => .inr (i : Int)
  | none => if l.length % 2 = 1 then .inr (l.length : Int) else if 100000 < l.length then .inr 100000 else .inl (pairs l)
def dueD (l : List Nat) : PyData := match due l with | .inl ns => dT ns | .inr i => dL [i]
theorem pairs_len : ∀ l : List Nat, (pairs l).length = l.length / 2
  | [] => rfl
  | [_] => by simp [pairs]
  | a :: b :: r => by
    unfold pairs
    rw [List.length_cons, pairs_len r, List.length_cons, List.length_cons]
    omega
theorem pairs_lt : ∀ l : List Nat, (∀ c ∈ l, hok c = true) → ∀ n ∈ pairs l, 0 ≤ n ∧ n ≤ 255
  | [], _, n, h => by cases h
  | [_], _, n, h => by cases h
  | a :: b :: r, hl, n, h => by
    unfold pairs at h
    rcases List.mem_cons.mp h with rfl | h
    · have h1 := hval_lt (hl a List.mem_cons_self)
      have h2 := hval_lt (hl b (List.mem_cons_of_mem _ List.mem_cons_self))
      omega
    · exact pairs_lt r (fun c hc => hl c (List.mem_cons_of_mem _ (List.mem_cons_of_mem _ hc))) n h
theorem pairs_at : ∀ (l : List Nat) (n : Nat), l.length = 2 * n → (List.range n).map (fun i => 16 * (hval (l.getD (2 * i) 0) : Int) + (hval (l.getD (2 * i + 1) 0) : Int)) = pairs l
  | [], n, h => by
    have : n = 0 := by simp at h; omega
    subst this
    rfl
  | [_], n, h => by simp at h; omega
  | a :: b :: r, n, h => by
    obtain ⟨m, rfl⟩ : ∃ m, n = m + 1 := ⟨n - 1, by simp at h; omega⟩
    have h2 : r.length = 2 * m := by simp at h; omega
    unfold pairs
    rw [← pairs_at r m h2, List.range_succ_eq_map, List.map_cons, List.map_map]
    congr 1
theorem all_ok {l : List Nat} (h : l.findIdx? (fun c => !hok c) = none) : ∀ c ∈ l, hok c = true := by
  rw [List.findIdx?_eq_none_iff] at h
  intro c hc
  have := h c hc
  simpa using this
theorem due_inl {l : List Nat} {ns : List Int} (h : due l = .inl ns) : l.findIdx? (fun c => !hok c) = none ∧ l.length % 2 = 0 ∧ l.length ≤ 100000 ∧ ns = pairs l := by
  unfold due at h
  split at h
  · cases h
  · rename_i e
    split at h
    · cases h
    · split at h
      · cases h
      · cases h
        exact ⟨e, by omega, by omega, rfl⟩
theorem due_shows {l : List Nat} (hl : l.length ≤ 1000000) : Shows (dueD l) := by
  unfold dueD
  cases h : due l with
  | inl ns =>
    obtain ⟨h1, h2, h3, rfl⟩ := due_inl h
    exact dT_shows (fun n hn => by have := pairs_lt l (all_ok h1) n hn; omega) (by rw [pairs_len]; omega)
  | inr i =>
    refine dL_shows (fun n hn => ?_) (by simp)
    rw [List.mem_singleton] at hn
    subst hn
    unfold due at h
    split at h
    · rename_i j hj
      cases h
      have := (List.findIdx?_eq_some_iff_findIdx_eq.mp hj).1
      omega
    · split at h
      · cases h; omega
      · split at h
        · cases h; omega
        · cases h
/-! ### the text of octets -/
def hexL (ns : List Int) : List Nat := ns.flatMap fun i => [hexd (i / 16).toNat, hexd (i % 16).toNat]
def pairS (i : Int) : Str := ⟨#[hexd (i / 16).toNat, hexd (i % 16).toNat]⟩
def hexS (ns : List Int) : Str := Txt.join "" (ns.map pairS)
theorem joinL_nil : ∀ ps : List (List Nat), TL.joinL [] ps = ps.flatten
  | [] => rfl
  | [p] => by simp [TL.joinL]
  | p :: q :: r => by
    unfold TL.joinL
    rw [joinL_nil (q :: r)]
    simp
theorem hexS_tl (ns : List Int) : (hexS ns).cps.toList = hexL ns := by
  unfold hexS
  rw [TL.join_eq]
  have := TL.tl_join "" (ns.map pairS)
  rw [show TL.tl "" = [] from rfl, joinL_nil] at this
  show TL.tl (Str.join "" (ns.map pairS)) = _
  rw [this, List.map_map]
  unfold hexL
  rw [List.flatMap_def]
  rfl
theorem hexL_len : ∀ ns : List Int, (hexL ns).length = 2 * ns.length
  | [] => rfl
  | n :: ns => by
    have := hexL_len ns
    unfold hexL at this ⊢
    rw [List.flatMap_cons, List.length_append, this, List.length_cons]
    simp only [List.length_cons, List.length_nil]
    omega
theorem hexL_ok : ∀ ns : List Int, (∀ n ∈ ns, 0 ≤ n ∧ n ≤ 255) → ∀ c ∈ hexL ns, hok c = true := by
  intro ns h c hc
  obtain ⟨n, hn, hc⟩ := List.mem_flatMap.mp hc
  have := h n hn
  rcases List.mem_cons.mp hc with rfl | hc
  · exact hok_hexd (by omega)
  · rw [List.mem_singleton] at hc
    subst hc
    exact hok_hexd (by omega)
theorem hexL_pairs : ∀ ns : List Int, (∀ n ∈ ns, 0 ≤ n ∧ n ≤ 255) → pairs (hexL ns) = ns
  | [], _ => rfl
  | n :: ns, h => by
    have h0 := h n List.mem_cons_self
    have ih := hexL_pairs ns fun m hm => h m (List.mem_cons_of_mem _ hm)
    unfold hexL at ih ⊢
    rw [List.flatMap_cons]
    show (16 * (hval (hexd (n / 16).toNat) : Int) + (hval (hexd (n % 16).toNat) : Int)) :: pairs (ns.flatMap _) = _
    rw [ih, hval_hexd (by omega), hval_hexd (by omega)]
    congr 1
    omega
theorem due_hexL {ns : List Int} (h : ∀ n ∈ ns, 0 ≤ n ∧ n ≤ 255) (hl : ns.length ≤ 50000) : due (hexL ns) = .inl ns := by
  unfold due
  have e : (hexL ns).findIdx? (fun c => !hok c) = none := by
    rw [List.findIdx?_eq_none_iff]
    intro c hc
    rw [hexL_ok ns h c hc]
    rfl
  rw [e]
  have hn := hexL_len ns
  simp only
  rw [if_neg (by omega), if_neg (by omega), hexL_pairs ns h]
theorem strLen_tl (z : Str) : z.length = z.cps.toList.length := by simp [Str.length]
theorem hexS_len (ns : List Int) : (hexS ns).length = 2 * ns.length := by rw [strLen_tl, hexS_tl, hexL_len]
theorem hexS_sum (ns : List Int) : ((ns.map pairS).map (·.length)).sum = 2 * ns.length := by
  induction ns with
  | nil => rfl
  | cons n ns ih =>
    rw [List.map_cons, List.map_cons, List.sum_cons, ih, List.length_cons]
    show 2 + _ = _
    omega

/-! ### the wrong places -/
def wrongL (l : List Nat) (k : Nat) : List Int := ((l.zipIdx k).filter fun p => !hok p.1).map fun p => ((p.2 : Nat) : Int)
theorem wrongL_head : ∀ (l : List Nat) (k : Nat), (wrongL l k).head? = (l.findIdx? fun c => !hok c).map fun i => ((i + k : Nat) : Int)
  | [], k => rfl
  | c :: l, k => by
    have ih := wrongL_head l (k + 1)
    unfold wrongL at ih ⊢
    rw [List.zipIdx_cons, List.findIdx?_cons]
    cases h : hok c with
    | false =>
      rw [List.filter_cons_of_pos (by simp [h])]
      simp
    | true =>
      rw [List.filter_cons_of_neg (by simp [h]), ih]
      simp only [Bool.not_true]
      rw [if_neg (by simp), Option.map_map]
      congr 1
      funext i
      simp only [Function.comp]
      omega
theorem wrong_none {l : List Nat} (h : l.findIdx? (fun c => !hok c) = none) : wrongL l 0 = [] := by
  have := wrongL_head l 0
  rw [h] at this
  simpa using this
theorem wrong_some {l : List Nat} {i : Nat} (h : l.findIdx? (fun c => !hok c) = some i) : ∃ r, wrongL l 0 = (i : Int) :: r := by
  have := wrongL_head l 0
  rw [h] at this
  cases e : wrongL l 0 with
  | nil => rw [e] at this; simp at this
  | cons a r =>
    rw [e] at this
    simp only [List.head?_cons, Option.map_some, Option.some.injEq, Nat.add_zero] at this
    exact ⟨r, by rw [this]⟩

/-! ### the evens and the odds -/
def evens : List V → List V
  | a :: _ :: r => a :: evens r
  | l => l
def odds : List V → List V
  | _ :: b :: r => b :: odds r
  | _ => []
end BJ

/-! comprehensions that evaluate; calls on values -/
namespace BJ
open PySem PySem.Spec PyProof.Rows L2 Evl
open PySem.W (Frag kitOne kitAny)
section
variable {K : Frag} {σ : L2.St} {H : Hp} {z : V} {tl te : TE} {tt : TT} {wi : TI} {vs : List Nat} {xs : List V}
/-- what is walked over gives xs -/
def EvI (wi : TI) (σ : L2.St) (H : Hp) (xs : List V) : Prop := ∀ H1, Ex H H1 → ∀ R : It → Hp → Prop, (∀ H2 J G, Ex H1 H2 → Walk J xs.length G (YAt xs) → (∀ H3, Ex H2 H3 → G H3) → R J H2) → wi σ H1 R
/-- .. gives pairs -/
def EvP (wi : TI) (σ : L2.St) (H : Hp) (ps : List (V × V)) : Prop := ∀ H1, Ex H H1 → ∀ R : It → Hp → Prop,
  (∀ H2 J G, Ex H1 H2 → Walk J ps.length G (fun i H v H' => ∃ T p, v = .ref T ∧ H T = none ∧ H' = upd H T (.tup [p.1, p.2]) ∧ ps[i]? = some p) → (∀ H3, Ex H2 H3 → G H3) → R J H2) → wi σ H1 R
theorem el_at {j : Nat} (hi : EvI wi σ H xs) (f : V → Bool) (F : V → V) (hn : xs.length ≤ 1000000) (hw : ∀ x, wipe ((wipe σ vs).set j (some x)) vs = wipe σ vs)
    (ht : ∀ x ∈ xs, ∀ H1, Ex H H1 → EvT tt ((wipe σ vs).set j (some x)) H1 (f x)) (he : ∀ x ∈ xs, ∀ H1, Ex H H1 → f x = true → Ev te ((wipe σ vs).set j (some x)) H1 (F x)) :
    EvL (tLc wi (gName j) tt te vs) σ H ((xs.filter f).map F) := fun H1 e Q q => hi H1 e _ fun H2 J G e2 w hG =>
  lc_at w f F hn hG hw (fun x hx => ht x hx H2 (e.trans e2)) (fun x hx hf => he x hx H2 (e.trans e2) hf) fun D H' hD e3 hl => q D H' (fresh_back e2 hD) (e2.trans e3) hl
/-- .. without an if -/
theorem el_all {j : Nat} (hi : EvI wi σ H xs) (F : V → V) (hn : xs.length ≤ 1000000) (hw : ∀ x, wipe ((wipe σ vs).set j (some x)) vs = wipe σ vs)
    (he : ∀ x ∈ xs, ∀ H1, Ex H H1 → Ev te ((wipe σ vs).set j (some x)) H1 (F x)) : EvL (tLc wi (gName j) tYes te vs) σ H (xs.map F) := by
  have h := el_at (tt := tYes) hi (fun _ => true) F hn hw (fun _ _ _ _ => et_yes) (fun x hx H1 e _ => he x hx H1 e)
  rw [List.filter_eq_self.mpr (fun _ _ => rfl)] at h
  exact h
theorem el_pr {j l : Nat} {ps : List (V × V)} (hi : EvP wi σ H ps) (f : V × V → Bool) (F : V × V → V) (hn : ps.length ≤ 1000000) (hw : ∀ x y, wipe (((wipe σ vs).set j (some x)).set l (some y)) vs = wipe σ vs)
    (ht : ∀ p ∈ ps, ∀ H1, Ex H H1 → EvT tt (((wipe σ vs).set j (some p.1)).set l (some p.2)) H1 (f p)) (he : ∀ p ∈ ps, ∀ H1, Ex H H1 → f p = true → Ev te (((wipe σ vs).set j (some p.1)).set l (some p.2)) H1 (F p)) :
    EvL (tLc wi (gTup K 2 (gCons (gName j) (gCons (gName l) gNil))) tt te vs) σ H ((ps.filter f).map F) := fun H1 e Q q => hi H1 e _ fun H2 J G e2 w hG =>
  lc_pr w f F hn hG hw (fun x hx => ht x hx H2 (e.trans e2)) (fun x hx hf => he x hx H2 (e.trans e2) hf) fun D H' hD e3 hl => q D H' (fresh_back e2 hD) (e2.trans e3) hl
theorem ei_tup {p : Addr} (h : Ev tl σ H (.ref p)) (hx : SqT K H p xs) : EvI (iTup K tl) σ H xs := fun H1 e R r => h H1 e _ fun H2 e2 =>
  ⟨p, rfl, ⟨xs, ex_t (e.trans e2) hx⟩, r H2 _ (fun H => SqT K H p xs) e2 walk_tup fun H3 e3 => ex_t ((e.trans e2).trans e3) hx⟩
theorem ei_tupU (h : EvU tl σ H xs) : EvI (iTup K tl) σ H xs := fun H1 e R r => h H1 e _ fun p H2 hp e2 hx =>
  ⟨p, rfl, ⟨xs, st_of hx⟩, r H2 _ (fun H => SqT K H p xs) e2 walk_tup fun H3 e3 => ex_t e3 (st_of hx)⟩
theorem ei_list {p : Addr} (h : Ev tl σ H (.ref p)) (hx : SqL K H p xs) : EvI (iList K tl) σ H xs := fun H1 e R r => h H1 e _ fun H2 e2 =>
  ⟨p, rfl, ⟨xs, ex_l (e.trans e2) hx⟩, r H2 _ (fun H => SqL K H p xs) e2 walk_list fun H3 e3 => ex_l ((e.trans e2).trans e3) hx⟩
theorem ei_str {s : Str} (h : Ev tl σ H (.str s)) : EvI (iStr tl) σ H (s.cps.toList.map fun c => V.str ⟨#[c]⟩) := fun H1 e R r => h H1 e _ fun H2 e2 =>
  ⟨s, rfl, r H2 _ _ e2 walk_strA fun _ _ => trivial⟩
theorem ei_rng3 {ta : TA} {i j c : Int} {n : Nat} (h : EvA ta σ H [.int i, .int j, .int c]) (hr : RgC i j c n) : EvI (iRng3 ta) σ H ((List.range n).map fun k => V.int (i + (k : Nat) * c)) := fun H1 e R r => h H1 e _ fun H2 e2 =>
  ⟨i, j, c, n, rfl, hr, r H2 _ _ e2 walk_rangeCA fun _ _ => trivial⟩
theorem ep_enumS {ta : TA} {s : Str} (h : EvA ta σ H [.str s]) : EvP (iEnumS ta) σ H (enumP s) := fun H1 e R r => h H1 e _ fun H2 e2 =>
  ⟨s, rfl, r H2 _ _ e2 walk_enumSA fun _ _ => trivial⟩
theorem ev_allL {bs : List Bool} (h : EvL tl σ H (bs.map V.bl)) : Ev (tCB (rAll K) (tCons tl tNil)) σ H (.bl (bs.all id)) := fun H1 e Q q => h H1 e _ fun p H2 _ e2 hp => ⟨p, bs, rfl, sq_of hp, q H2 e2⟩
theorem rc_is {x : V} {t n : String} {b : Bool} (h : TyX K H x (.type t)) (k : kitOne K (.type t) (.type n) = some b) : RC (rIsG K) [x, .ty n] H (.bl b) :=
  fun H1 e Q q => ⟨x, _, .type t, .type n, b, rfl, .ty n, .ty (tyx_ex e h), k, q H1 (Ex.refl _)⟩
/-- f(e) where e is a new tuple, a new list -/
theorem ev_caU {sp : Sp} {W : WX} (h : EvU te σ H xs) (hs : ∀ p H1, H1 p = some (.tup xs) → SpE sp [.ref p] H1 z) : Ev (tCa sp W (tCons te tNil)) σ H z := fun H1 e Q q =>
  h H1 e _ fun p H2 _ e2 hp => hs p H2 hp H2 (Ex.refl _) Q _ fun H3 e3 => q H3 (e2.trans e3)
/-- e of a fresh list: the list goes into tuple(..) -/
theorem eu_tupL (h : EvL te σ H xs) : EvU (tCB (fun xs H Q => ∃ p ys, xs = [.ref p] ∧ ((SqL K H p ys ∧ ∀ l, H l = none → Q (.ref l) (upd H l (.tup ys))) ∨ (SqT K H p ys ∧ Q (.ref p) H))) (tCons te tNil)) σ H xs := fun H1 e Q q =>
  h H1 e _ fun p H2 _ e2 hp => ⟨p, xs, rfl, .inl ⟨sq_of hp, fun l hl => q l _ (fresh_back e2 hl) (e2.trans (Ex.new hl)) upd_same⟩⟩
/-- a.join(e) of a new list of texts -/
theorem ev_joinL {a : Str} {ys : List Str} {to : TE} (ho : Ev to σ H (.str a)) (h : EvL te σ H (ys.map V.str)) (hz : (ys.map (·.length)).sum + ys.length * a.length ≤ 16777216) :
    Ev (tM1 (fun x xs H Q => ∃ a p, ∃ ys : List Str, x = .str a ∧ xs = [.ref p] ∧ (SqL K H p (ys.map V.str) ∨ SqT K H p (ys.map V.str)) ∧ (ys.map (·.length)).sum + ys.length * a.length ≤ 16777216 ∧ Q (.str (Txt.join a ys)) H) to te) σ H (.str (Txt.join a ys)) := fun H1 e Q q =>
  ho H1 e _ fun H2 e2 => ⟨⟨a, rfl⟩, h H2 (e.trans e2) _ fun p H3 _ e3 hp => ⟨a, p, ys, rfl, rfl, .inl (sq_of hp), hz, q H3 (e2.trans e3)⟩⟩
end
end BJ

/-! slices with a step that evaluate, zip of new lists; the evens and odds -/
namespace BJ
open PySem PySem.Spec PyProof.Rows L2 Evl
open PySem.W (Frag kitOne kitAny)
section
variable {K : Frag} {σ : L2.St} {H : Hp} {z : V} {tl te : TE} {tt : TT} {wi : TI} {vs : List Nat} {xs ys : List V}
theorem pickV_len (xs : List V) (lo hi st : Option Int) (h0 : st ≠ some 0) : (pickV xs lo hi st).length ≤ xs.length := by
  have h := slicePick_size_le (items := (List.replicate xs.length Value.none).toArray) lo hi st
  have e : ∀ (l : List Nat), (l.filterMap (xs[·]?)).length = (l.filterMap ((List.replicate xs.length Value.none)[·]?)).length := by
    intro l
    induction l with
    | nil => rfl
    | cons i l ih =>
      by_cases hi : i < xs.length
      · rw [List.filterMap_cons_some (List.getElem?_eq_getElem hi), List.filterMap_cons_some (List.getElem?_eq_getElem (by simpa using hi)), List.length_cons, List.length_cons, ih]
      · rw [List.filterMap_cons_none (List.getElem?_eq_none (by omega)), List.filterMap_cons_none (List.getElem?_eq_none (by simp; omega)), ih]
  unfold pickV
  rw [e]
  have h2 : ((sliceRange (sliceBounds lo hi st (List.replicate xs.length Value.none).toArray.size).1 (sliceBounds lo hi st (List.replicate xs.length Value.none).toArray.size).2.1 (sliceBounds lo hi st (List.replicate xs.length Value.none).toArray.size).2.2).filterMap ((List.replicate xs.length Value.none).toArray[·]?)).length ≤ (List.replicate xs.length Value.none).toArray.size := h
  have e2 : (List.replicate xs.length Value.none).toArray.size = xs.length := by simp
  rw [e2] at h2
  refine Nat.le_trans (Nat.le_of_eq ?_) h2
  congr 1
  apply congrArg (fun f => List.filterMap f _)
  funext x
  exact List.getElem?_toArray.symm
theorem el_sl3 {p : Addr} {tl th ts : TO} {lo hi st : Option Int} (h : Ev te σ H (.ref p)) (h1 : EvO tl σ H lo) (h2 : EvO th σ H hi) (h3 : EvO ts σ H st) (hs : SqL K H p xs) (h0 : st ≠ some 0) (hz : xs.length ≤ 1000000) : EvL (tSl3 K te tl th ts) σ H (pickV xs lo hi st) := fun H1 e Q q =>
  h H1 e _ fun H2 e2 => h1 H2 (e.trans e2) _ fun H3 e3 => h2 H3 ((e.trans e2).trans e3) _ fun H4 e4 => h3 H4 (((e.trans e2).trans e3).trans e4) _ fun H5 e5 =>
    ⟨p, xs, rfl, ex_l ((((e.trans e2).trans e3).trans e4).trans e5) hs, h0, (by have := pickV_len xs lo hi st h0; rw [sizeLine_eq]; omega), fun D hD =>
      q D _ (fresh_back (((e2.trans e3).trans e4).trans e5) hD) ((((e2.trans e3).trans e4).trans e5).trans (Ex.new hD)) upd_same⟩
theorem ep_zip {t1 t2 : TE} (h1 : EvL t1 σ H xs) (h2 : EvL t2 σ H ys) : EvP (iZip K (tCons t1 (tCons t2 tNil))) σ H (xs.zip ys) := fun H1 e R r =>
  h1 H1 e _ fun p H2 hp e2 hx => h2 H2 (e.trans e2) _ fun q H3 hq e3 hy =>
    ⟨p, q, xs, ys, rfl, sq_of (e3 p _ hx), sq_of hy, r H3 _ _ (e2.trans e3) walk_zipA fun H4 e4 => ⟨sq_of (e4 p _ (e3 p _ hx)), sq_of (e4 q _ hy)⟩⟩
end
theorem pick_of {xs : List V} (m a : Nat) (h : ∀ k, k < m → a + 2 * k < xs.length) : ((List.range m).map fun k : Nat => a + 2 * k).filterMap (xs[·]?) = (List.range m).map fun k => xs.getD (a + 2 * k) .non := by
  rw [List.filterMap_map]
  have : ∀ l : List Nat, (∀ k ∈ l, k < m) → l.filterMap ((xs[·]?) ∘ fun k => a + 2 * k) = l.map fun k => xs.getD (a + 2 * k) .non := by
    intro l
    induction l with
    | nil => intro _; rfl
    | cons k l ih =>
      intro hk
      have := h k (hk k List.mem_cons_self)
      rw [List.filterMap_cons_some (b := xs[a + 2 * k]) (show ((fun x => xs[x]?) ∘ fun k => a + 2 * k) k = some xs[a + 2 * k] from List.getElem?_eq_getElem this), List.map_cons, ih fun j hj => hk j (List.mem_cons_of_mem _ hj)]
      congr 1
      rw [List.getD, List.getElem?_eq_getElem this]
      rfl
  exact this _ fun k hk => List.mem_range.mp hk
theorem pick_evens {xs : List V} {m : Nat} (h : xs.length = 2 * m) : pickV xs none none (some 2) = (List.range m).map fun k => xs.getD (2 * k) .non := by
  have e : sliceRange (sliceBounds none none (some 2) xs.length).1 (sliceBounds none none (some 2) xs.length).2.1 (sliceBounds none none (some 2) xs.length).2.2 = (List.range m).map fun k : Nat => 0 + 2 * k := by
    show sliceRange 0 (xs.length : Int) 2 = _
    show List.map _ (List.range (Int.toNat _)) = _
    have hc : (if (2 : Int) > 0 then (if (0 : Int) < (xs.length : Int) then ((xs.length : Int) - 0 + 2 - 1) / 2 else 0) else (if (0 : Int) > (xs.length : Int) then (0 - (xs.length : Int) - 2 - 1) / (-2) else 0)).toNat = m := by
      rw [if_pos (by decide)]
      split <;> omega
    refine (congrArg (fun n => List.map _ (List.range n)) hc).trans ?_
    apply List.map_congr_left
    intro k _
    omega
  unfold pickV
  rw [e, pick_of m 0 (fun k hk => by omega)]
  simp only [Nat.zero_add]
theorem pick_odds {xs : List V} {m : Nat} (h : xs.length = 2 * m) : pickV xs (some 1) none (some 2) = (List.range m).map fun k => xs.getD (1 + 2 * k) .non := by
  have e : sliceRange (sliceBounds (some 1) none (some 2) xs.length).1 (sliceBounds (some 1) none (some 2) xs.length).2.1 (sliceBounds (some 1) none (some 2) xs.length).2.2 = (List.range m).map fun k : Nat => 1 + 2 * k := by
    show sliceRange (max 0 (min 1 (xs.length : Int))) (xs.length : Int) 2 = _
    show List.map _ (List.range (Int.toNat _)) = _
    have hc : (if (2 : Int) > 0 then (if (max 0 (min 1 (xs.length : Int))) < (xs.length : Int) then ((xs.length : Int) - (max 0 (min 1 (xs.length : Int))) + 2 - 1) / 2 else 0) else (if (max 0 (min 1 (xs.length : Int))) > (xs.length : Int) then ((max 0 (min 1 (xs.length : Int))) - (xs.length : Int) - 2 - 1) / (-2) else 0)).toNat = m := by
      rw [if_pos (by decide)]
      split <;> omega
    refine (congrArg (fun n => List.map _ (List.range n)) hc).trans ?_
    apply List.map_congr_left
    intro k hk
    have := List.mem_range.mp hk
    omega
  unfold pickV
  rw [e, pick_of m 1 (fun k hk => by omega)]
/-- what sign, what number a value is -/
def sgn : V → Nat | .str z => z.cps.getD 0 0 | _ => 0
def num : V → Int | .int i => i | _ => 0
theorem zip_pairs (l : List Nat) (m : Nat) (h : l.length = 2 * m) :
    (((pickV ((l.map fun c => (hval c : Int)).map V.int) none none (some 2)).zip (pickV ((l.map fun c => (hval c : Int)).map V.int) (some 1) none (some 2))).map fun p => V.int (16 * num p.1 + num p.2)) = (pairs l).map V.int := by
  have hl : ((l.map fun c => (hval c : Int)).map V.int).length = 2 * m := by rw [List.length_map, List.length_map]; exact h
  rw [pick_evens hl, pick_odds hl, List.zip_map', List.map_map, ← pairs_at l m h]
  refine Eq.trans ?_ List.map_map.symm
  apply List.map_congr_left
  intro k hk
  have hk := List.mem_range.mp hk
  have g : ∀ i, i < l.length → ((l.map fun c => (hval c : Int)).map V.int).getD i .non = .int (hval (l.getD i 0)) := fun i hi => by
    rw [List.getD, List.getElem?_map, List.getElem?_map, List.getElem?_eq_getElem hi, List.getD, List.getElem?_eq_getElem hi]
    rfl
  simp only [Function.comp]
  rw [g _ (by omega), g _ (by omega), Nat.add_comm 1]
  rfl
theorem enum_wrong (z : Str) : ((enumP z).filter fun p => !hok (sgn p.2)).map (fun p => p.1) = (wrongL z.cps.toList 0).map V.int := by
  unfold enumP wrongL
  rw [List.filter_map, List.map_map, List.map_map]
  rfl
theorem signs_num (l : List Nat) : ((l.map fun c => V.str ⟨#[c]⟩).map fun v => V.int (hval (sgn v))) = (l.map fun c => (hval c : Int)).map V.int := by
  rw [List.map_map, List.map_map]
  rfl
end BJ

/-! defs called with keywords; loops that evaluate -/
namespace BJ
open PySem PySem.Spec PyProof.Rows L2 Evl
open PySem.W (Frag kitOne kitAny)
/-- positional values, then the keywords' (n and m of them) -/
def gKw (n m : Nat) {α : Type} (us ws : List α) : List α := if us.length = n ∧ ws.length = m then us ++ ws else []
section
variable {P : Program} {w : World} {K : Frag} {mg : Str → Option Value} {base : Heap}
theorem kb_of {x qual : Str} {st : Stmt} {f : Addr} {fd : FuncData} {ps ks : List Str} {n m : Nat} (F : Fun K x qual st f fd) (hne : 0 < ps.length)
    (h : ∀ (kV doc pm : Value) (an : Option Addr) (cdv ct : Value) (us ws : List Value), us.length = n → ws.length = m → bindArgs (PySem.W.fnOf x qual (defArgs st) (defBody st) (defScope st) .none kV doc pm an cdv ct) ⟨us, ks.zip ws⟩ = pure (ps.zip (us ++ ws))) :
    KBinds K fd ps ks (gKw n m) (gKw n m) := by
  obtain ⟨oc, od, kV, doc, pm, an, cdv, ct, osl, rfl, lk, hcd⟩ := F.ex
  refine ⟨fun s us ws _ hl => ?_, fun r rz => ?_⟩
  · by_cases hh : us.length = n ∧ ws.length = m
    · have e : gKw n m us ws = us ++ ws := if_pos hh
      rw [e]
      exact .of_eq (h kV doc pm an cdv ct us ws hh.1 hh.2)
    · have e : gKw n m us ws = [] := if_neg hh
      rw [e] at hl
      simp at hl
      omega
  · unfold gKw
    rw [r.length, rz.length]
    split
    · exact r.append rz
    · exact .nil
theorem fnP {x qual : Str} {st : Stmt} {f : Addr} {k : Nat} {ps : List Str} {sp : Sp} (h : ∃ fd, FnG P w K mg base k f fd ps sp ∧ Binds K fd ps [] ∧ Fun K x qual st f fd) : CallP P w K mg base k (.ref f) sp := by
  obtain ⟨fd, F, hb, _⟩ := h
  have q := F.callP (dvs := []) hb .nil
  rintro A outer s H us ws vs zs Q E room hg e0 rel relz ⟨hz, prom⟩
  exact q A outer s H us ws vs zs Q E room hg e0 rel relz ⟨hz, show sp (vs ++ []) H Q E by rw [List.append_nil]; exact prom⟩
theorem fnK {x qual : Str} {st : Stmt} {f : Addr} {k : Nat} {ps ks : List Str} {sp : Sp} {n m : Nat} (h : ∃ fd, FnG P w K mg base k f fd ps sp ∧ Binds K fd ps [] ∧ Fun K x qual st f fd) (hne : 0 < ps.length)
    (hk : ∀ (kV doc pm : Value) (an : Option Addr) (cdv ct : Value) (us ws : List Value), us.length = n → ws.length = m → bindArgs (PySem.W.fnOf x qual (defArgs st) (defBody st) (defScope st) .none kV doc pm an cdv ct) ⟨us, ks.zip ws⟩ = pure (ps.zip (us ++ ws))) :
    CallG P w K mg base k (.ref f) ks fun vs zs H Q E => sp (gKw n m vs zs) H Q E := by
  obtain ⟨fd, F, _, F2⟩ := h
  exact F.callK (kb_of F2 hne hk)
end
section
variable {K : Frag} {σ : L2.St} {H : Hp} {z : V} {tl te : TE} {tt : TT} {tb : TS} {wi : TI} {vs : List Nat} {xs : List V} {D : Ends}
/-- a for whose turns lay objects and change none; Pr: what stands of the slots -/
theorem s_forE {j : Nat} (Pr : L2.St → Prop) (hi : EvI wi σ H xs) (h0 : Pr σ)
    (hs : ∀ x ∈ xs, ∀ σ' H', Pr σ' → Ex H H' → ∀ N : L2.St → Hp → Prop, (∀ σ2 H2, Pr σ2 → Ex H' H2 → N σ2 H2) → tb { D with nx := N, ct := N, bk := D.nx } (σ'.set j (some x)) H')
    (hd : ∀ σ' H', Pr σ' → Ex H H' → D.nx σ' H') : tFor wi (gName j) tb D σ H :=
  hi H (Ex.refl H) _ fun H2 J G e w hG => for_it w (fun _ σ' H' => Pr σ' ∧ Ex H2 H') ⟨h0, Ex.refl _⟩ (fun i σ' H' _ p => hG H' p.2) (fun i x σ' H3 H4 hi p y => by
    obtain ⟨y1, y2⟩ := y
    subst y1
    exact hs x (List.mem_of_getElem? y2) σ' H4 p.1 (e.trans p.2) _ fun σ2 H2' q1 q2 => ⟨q1, p.2.trans q2⟩) fun σ' H' p => hd σ' H' p.1 (e.trans p.2)
theorem repS_eq {c n : Nat} : (repS c n).cps.toList = List.replicate n c := by simp [repS]
theorem find_rep {c : Nat} (h : hok c = true) : ∀ n, (List.replicate n c).findIdx? (fun c => !hok c) = none := fun n => by
  rw [List.findIdx?_eq_none_iff]
  intro d hd
  rw [(List.mem_replicate.mp hd).2, h]
  rfl
theorem pairs_rep (c : Nat) : ∀ m, pairs (List.replicate (2 * m) c) = List.replicate m (16 * (hval c : Int) + (hval c : Int))
  | 0 => rfl
  | m + 1 => by
    rw [show 2 * (m + 1) = 2 * m + 1 + 1 by omega, List.replicate_succ, List.replicate_succ]
    unfold pairs
    rw [pairs_rep c m, List.replicate_succ]
theorem hexL_rep (i : Int) : ∀ m, hexd (i / 16).toNat = hexd (i % 16).toNat → hexL (List.replicate m i) = List.replicate (2 * m) (hexd (i % 16).toNat)
  | 0, _ => rfl
  | m + 1, h => by
    have ih := hexL_rep i m h
    unfold hexL at ih ⊢
    rw [List.replicate_succ, List.flatMap_cons, ih, show 2 * (m + 1) = 2 * m + 1 + 1 by omega, List.replicate_succ, List.replicate_succ, h]
    rfl
theorem str_ext {x y : Str} (h : x.cps.toList = y.cps.toList) : x = y := by
  cases x with
  | mk a =>
    cases y with
    | mk b =>
      have : a = b := Array.toList_inj.mp h
      rw [this]
theorem hexS_rep (i : Int) (m : Nat) (h : hexd (i / 16).toNat = hexd (i % 16).toNat) : hexS (List.replicate m i) = repS (hexd (i % 16).toNat) (2 * m) := str_ext (by rw [hexS_tl, hexL_rep i m h, repS_eq])
end
end BJ

namespace BJ
open PySem PySem.Spec PyProof.Rows L2 Evl
open PySem.W (Frag kitOne kitAny)
section
variable {X : Cx} {K : Frag}
/-- the same rules where the Frag is named (inside a comprehension) -/
theorem op_eqD' (hK : X.K = K) (hu : X.A.units + 64 < cLine) : OpR X (compareOp .Eq) (rEqD K) := hK ▸ op_eqD hu
theorem op_neD' (hK : X.K = K) (hu : X.A.units + 64 < cLine) : OpR X (compareOp .NotEq) (rNeD K) := hK ▸ op_neD hu
theorem call_isG' (hK : X.K = K) : CallR X (.builtin "isinstance") (rIsG K) := hK ▸ call_isG
theorem call_reprQ' {k : Nat} (hK : X.K = K) (hr : Room k X.A) (hG : X.A.guards = some []) : CallR X (.builtin "repr") (rReprQ K) := hK ▸ call_reprQ hr hG
theorem ix_list' (hK : X.K = K) : IxR X (rIxL K) := hK ▸ ix_list
theorem ix_tup' (hK : X.K = K) : IxR X (rIxT K) := hK ▸ ix_tup
end
theorem dueD_rep {c n m : Nat} (hc : hok c = true) (hn : n = 2 * m) (hm : m ≤ 50000) : dueD (repS c n).cps.toList = dT (List.replicate m (16 * (hval c : Int) + (hval c : Int))) := by
  subst hn
  rw [repS_eq]
  unfold dueD due
  rw [find_rep hc, List.length_replicate]
  simp only
  rw [if_neg (by omega), if_neg (by omega), pairs_rep]
theorem dueD_big {c n : Nat} (hc : hok c = true) (hn : n % 2 = 0) (hm : 100000 < n) : dueD (repS c n).cps.toList = dL [100000] := by
  rw [repS_eq]
  unfold dueD due
  rw [find_rep hc, List.length_replicate]
  simp only
  rw [if_neg (by omega), if_pos hm]
section
variable {K : Frag} {σ : L2.St} {H : Hp} {z : V} {tl te : TE} {tt : TT} {tb tz : TS} {wi : TI} {vs : List Nat} {xs : List V} {D : Ends}
theorem q_forE {j : Nat} (Pr : L2.St → Prop) (hi : EvI wi σ H xs) (h0 : Pr σ)
    (hs : ∀ x ∈ xs, ∀ σ' H', Pr σ' → Ex H H' → ∀ N : L2.St → Hp → Prop, (∀ σ2 H2, Pr σ2 → Ex H' H2 → N σ2 H2) → tb { D with nx := N, ct := N, bk := tz D } (σ'.set j (some x)) H')
    (hd : ∀ σ' H', Pr σ' → Ex H H' → tz D σ' H') : tSeq (tFor wi (gName j) tb) tz D σ H :=
  s_forE (D := { D with nx := tz D }) Pr hi h0 hs hd
theorem rv_mulS {x : Str} {c n : Nat} (hx : x = ⟨#[c]⟩) (h2 : 2 ≤ n) (hn : n ≤ sizeLine) {H : Hp} : RV rMulS (.str x) (.int (n : Int)) H (.str (repS c n)) := fun H1 _ Q q => ⟨c, n, by rw [hx], rfl, h2, hn, q H1 (Ex.refl _)⟩
theorem eu_rep {n : Nat} {v : V} (h : Ev te σ H v) (h2 : 2 ≤ n) (hn : n ≤ 16777216) : EvU (tOp (rRep1 K) (tTup (tCons te tNil)) (tC (.int (n : Int)))) σ H (List.replicate n v) := fun H1 e Q q =>
  h H1 e _ fun H2 e2 => ⟨(by show 1 ≤ sizeLine; decide), fun p hp => ⟨p, n, v, rfl, rfl, st_of upd_same, h2, hn, fun r hr => q r _ (fresh_back (e2.trans (Ex.new hp)) hr) ((e2.trans (Ex.new hp)).trans (Ex.new hr)) upd_same⟩⟩
theorem lc_atA {J : It} {G : Hp → Prop} (w : Walk J xs.length G (YAt xs)) {j : Nat} {H1 : Hp} {Q : Addr → Hp → Prop} (f : V → Bool) (F : V → V) (hn : xs.length ≤ 1000000)
    (hG : ∀ H, Ex H1 H → G H) (hw : ∀ x, wipe ((wipe σ vs).set j (some x)) vs = wipe σ vs)
    (ht : ∀ x ∈ xs, EvT tt ((wipe σ vs).set j (some x)) H1 (f x)) (he : ∀ x ∈ xs, f x = true → Ev te ((wipe σ vs).set j (some x)) H1 (F x))
    (k : ∀ D H', H1 D = none → Ex H1 H' → H' D = some (.lst ((xs.filter f).map F)) → Q D H') :
    ∀ D, H1 D = none → ∃ W : Nat → Nat → Hp → Prop, (∃ m, W 0 m (upd H1 D (.lst []))) ∧ ∀ i m H, W i m H →
      (J.stop i H ∧ Q D H) ∨ (J.go i H ∧ ∃ Nx : Hp → Prop, (∀ H', Nx H' → ∃ m', m' < m ∧ W (i + 1) m' H') ∧ ∀ x H', J.yld i H x H' → gName j x (wipe σ vs) H' fun σ2 H2 => wipe σ2 vs = wipe σ vs ∧ tt σ2 H2 fun b H3 =>
        if b = true then te σ2 H3 fun y H4 => ∃ acc, H4 D = some (.lst acc) ∧ acc.length < sizeLine ∧ Nx (upd H4 D (.lst (acc ++ [y]))) else Nx H3) :=
  lc_at (Q := fun v H => match v with | .ref D => Q D H | _ => False) w f F hn hG hw ht he k
theorem rep_int (n : Nat) (i : Int) : List.replicate n (V.int i) = (List.replicate n i).map V.int := by rw [List.map_replicate]
end
end BJ

/-! own exceptions made with keywords; exceptions as values -/
namespace BJ
open PySem PySem.Spec Builtin Builtin.ObjectAttr
open PySem.W (Looks Frag findIn subIn nsIn typeIn keepIn codeIn hasDictIn clsIn takerIn excInitIn excOver excObj KxsFacts ksFn ksEnv ks_superIn isFn looks_findIn looks_clsIn InstAt kxs_mw)
open HandSPX
section
variable {M : Model} {A : Around} {E : Value → Shared → Prop} {h : Heap} {g : Array GenState} {d : Drawn} {t : Nat} {os : OsState}
variable {nm q : Str} {C N : Addr} {bs bm bmB : List Value} {hdct : Bool} {sn : List Str} {sub : List Value} {ab : Bool} {col : Option Bool} {dd : Option Addr} {k0 k1 k2 k3 k5 : Option Value} {B newId initId : String}
theorem check_new_kw (F : ExcBaseFacts B newId initId bmB) (hT : ∀ X : String, bm.contains (.type X) = bmB.contains (.type X)) {kw : List (Str × Value)} {Q : Unit → Shared → Prop}
    (hC : h.get? C = some (excClassObj nm q C N bs bm hdct sn sub ab col dd k0 k1 k2 k3 k5 newId)) (hq : Q () ⟨h, g, d, t, os⟩) : wpAny M A (checkBuiltinCall newId ⟨[.ref C], kw⟩) Q E ⟨h, g, d, t, os⟩ := by
  have hcont : (Value.ref C :: bm).contains (.type B) = true := by
    rw [List.contains_cons, hT, F.hasB, Bool.or_true]
  have hstar := F.noStar
  simp only [checkBuiltinCall, F.newKind, F.newSplit, F.newRow]
  repeat (first
    | refine wpAny_loadPart_at hC ?_
    | (refine wpAny_isSubtype_exc hC ?_; rw [hcont])
    | refine wpAny_staticBase_exc hC ?_
    | refine wpAny_madeBy_exc hC ?_
    | simp only [bne_self_eq_false, Bool.false_eq_true, if_false]
    | wp_step)
  exact hq
end
section
variable {prog : Program} {w : World} {A : Around} {E : Value → Shared → Prop} {R : Result → Shared → Prop} {h : Heap} {g : Array GenState} {d : Drawn} {t : Nat} {os : OsState}
variable {nm q : Str} {C N : Addr} {bs bm bmB : List Value} {hdct : Bool} {sn : List Str} {sub : List Value} {ab : Bool} {col : Option Bool} {dd : Option Addr} {k0 k1 k2 k3 k5 : Option Value} {B newId initId : String}
theorem new_kw (F : ExcBaseFacts B newId initId bmB) (hT : ∀ X : String, bm.contains (.type X) = bmB.contains (.type X)) {kw : List (Str × Value)}
    (hC : h.get? C = some (excClassObj nm q C N bs bm hdct sn sub ab col dd k0 k1 k2 k3 k5 newId))
    (hq : R (.ok (.ret (.ref (h.objs.size + 1)))) ⟨(h.push { cls := .type "tuple", data := .seq #[] }).push (excO C h.objs.size), g, d, t, os⟩) :
    codeAny (model prog w) A (.builtin newId ⟨[.ref C], kw⟩) R ⟨h, g, d, t, os⟩ := by
  have hends := F.ends
  have hcB : (Value.ref C :: bm).contains (.type B) = true := by
    rw [List.contains_cons, hT, F.hasB, Bool.or_true]
  have hcA : (Value.ref C :: bm).contains (.type "AttributeError") = false := by
    rw [List.contains_cons, hT, F.noAttr]; rfl
  have hcN : (Value.ref C :: bm).contains (.type "NameError") = false := by
    rw [List.contains_cons, hT, F.noName]; rfl
  refine codeAny_builtinAt F.entry ?_
  unfold Builtin.«BaseException.__new__»
  refine wpAt_bind ?_
  show wpAt _ _ _ (stack >>= _) _ _ _
  refine wpAt_bind (wpAt_stack fun p below => wpAt_of_wpAny ?_)
  wp_walk
  refine wpAt_of_wpAny ?_
  rw [F.owner]
  repeat (first
    | with_reducible refine wpAny_madeHere_exc F.canon hC ?_
    | with_reducible refine wpAny_loadPart_at hC ?_
    | (with_reducible refine wpAny_isSubtype_exc hC ?_; first | rw [hcB] | rw [hcA] | rw [hcN])
    | wp_step)
  show R _ _
  rw [Heap.size_push]
  exact hq
theorem type_call_kw (F : ExcBaseFacts B newId initId bmB) (hT : ∀ X : String, bm.contains (.type X) = bmB.contains (.type X)) {kw : List (Str × Value)} {fI : Addr} {Q : Fin → Shared → Prop}
    (hC : h.get? C = some (excClassObj nm q C N bs bm hdct sn sub ab col dd k0 k1 k2 k3 k5 newId))
    (hi : Looks (model prog w) h (typeLookup (.ref C) "__init__") (some (.ref fI))) (hb : ∀ self, Looks (model prog w) h (bindSpecial (.ref fI) self) (.ref fI, [self]))
    (hq : codeAny (model prog w) A (.call (.ref fI) ⟨[.ref (h.objs.size + 1)], kw⟩)
      (fun r s' => match r with | .ok (.ret v) => v = .none ∧ Q (.done (.ret (.ref (h.objs.size + 1)))) s' | .ok _ => False | .error e => E e s')
      ⟨(h.push (PySem.W.kdv_tup [])).push (excO C h.objs.size), g, d, t, os⟩) :
    wpAny (model prog w) A (Builtin.«type.__call__» ⟨[.ref C], kw⟩) Q E ⟨h, g, d, t, os⟩ := by
  repeat (first
    | with_reducible refine wpAny_loadPart_at hC ?_
    | with_reducible refine wpAny_madeBy_exc hC ?_
    | wp_step)
  refine codeAny_call_builtin_code (Code.quiet_builtin _ F.quiet) (check_new_kw F hT hC ?_)
  refine new_kw F hT hC ?_
  show wpAny _ _ _ _ _ _
  have k : ∀ b o, h.get? b = some o → ((h.push (PySem.W.kdv_tup [])).push (excO C h.objs.size)).get? b = some o := fun b o e => Heap.get?_push_of_some _ (Heap.get?_push_of_some _ e)
  have hC₁ := k _ _ hC
  have hget : ((h.push (PySem.W.kdv_tup [])).push (excO C h.objs.size)).get? (h.objs.size + 1) = some (excO C h.objs.size) := by heap_get
  have hcC : (Value.ref C :: bm).contains (.ref C) = true := by simp
  have i1 := hi.keeps k
  have b1 := (hb (.ref (h.objs.size + 1))).keeps k
  unfold isInstance
  repeat (first
    | with_reducible refine wpAny_loadPart_at hget ?_
    | (with_reducible refine wpAny_isSubtype_exc hC₁ ?_; rw [hcC])
    | wp_step)
  show wpAny _ _ (typeLookup (.ref C) _) _ _ _
  refine i1.at ?_
  refine wpAny_holding (wpAny_bind (b1.at ?_))
  refine wpAny_bind (wpAny_call (codeAny_mono hq fun r s' z => ?_))
  rcases r with e | (v | _ | _ | _)
  case error => exact z
  case ok.ret =>
    obtain ⟨rfl, z⟩ := z
    first
      | exact wpAny_pure (wpAny_pure z)
      | (wp_walk; exact z)
  all_goals exact z.elim
theorem check_tc_kw {M : Model} {E : Value → Shared → Prop} {kw : List (Str × Value)} {Q : Unit → Shared → Prop} (hC : h.get? C = some (excClassObj nm q C N bs bm hdct sn sub ab col dd k0 k1 k2 k3 k5 newId))
    (hq : Q () ⟨h, g, d, t, os⟩) : wpAny M A (checkBuiltinCall "type.__call__" ⟨[.ref C], kw⟩) Q E ⟨h, g, d, t, os⟩ := by
  have f3 := tc_sub
  have hTy : (⟨h, g, d, t, os⟩ : Shared).TypeIs (.ref C) "type" := ⟨_, hC, rfl⟩
  simp only [checkBuiltinCall, tc_kind, tc_split]
  repeat (any_goals (first
    | assumption
    | with_reducible refine wpAny_loadPart_at hC ?_
    | with_reducible refine wpAny_onRaise ?_
    | with_reducible refine wpAny_map ?_
    | wp_step))
theorem call_kw (F : ExcBaseFacts B newId initId bmB) (hT : ∀ X : String, bm.contains (.type X) = bmB.contains (.type X)) {kw : List (Str × Value)} {fI : Addr}
    (hC : h.get? C = some (excClassObj nm q C N bs bm hdct sn sub ab col dd k0 k1 k2 k3 k5 newId))
    (hi : Looks (model prog w) h (typeLookup (.ref C) "__init__") (some (.ref fI))) (hb : ∀ self, Looks (model prog w) h (bindSpecial (.ref fI) self) (.ref fI, [self]))
    (hq : codeAny (model prog w) (A.under (.builtin "type.__call__" ⟨[.ref C], kw⟩)) (.call (.ref fI) ⟨[.ref (h.objs.size + 1)], kw⟩) (PySem.W.InitBack (h.objs.size + 1) R)
      ⟨(h.push (PySem.W.kdv_tup [])).push (excO C h.objs.size), g, d, t, os⟩) :
    codeAny (model prog w) A (.call (.ref C) ⟨[], kw⟩) R ⟨h, g, d, t, os⟩ := by
  have f1 := tc_lookup
  have f2 := tc_bind (.ref C)
  have hTy : (⟨h, g, d, t, os⟩ : Shared).TypeIs (.ref C) "type" := ⟨_, hC, rfl⟩
  refine codeAny_of_tree ?_
  show wpAny _ _ (callAny (.ref C) _) _ _ _
  repeat (any_goals (first
    | assumption
    | with_reducible refine wpAny_loadPart_at hC ?_
    | wp_step))
  refine ⟨rfl, ?_⟩
  refine codeAny_call_builtin_at (Code.quiet_builtin _ (by decide +kernel)) entry_typeCall (check_tc_kw hC (type_call_kw F hT hC hi hb ?_))
  refine codeAny_mono hq fun r s' z => ?_
  rcases r with e | (v | _ | _ | _) <;> exact z
end
end BJ
namespace BJ
open PySem PySem.Spec PyProof.Rows L2 Builtin Builtin.ObjectAttr
open PySem.W (Looks Frag findIn subIn nsIn typeIn keepIn codeIn hasDictIn clsIn takerIn excInitIn excOver excObj KxsFacts ksFn ksEnv ks_superIn isFn looks_findIn looks_clsIn InstAt kxs_mw)
/-- how keywords ks bind to the fields (rev: the other way round) -/
def gR (rev : Bool) {α : Type} (ws : List α) : List α := if rev then ws.reverse else ws
theorem vals_rev : ∀ {vs : List V} {us : List Value}, Vals vs us → Vals vs.reverse us.reverse
  | _, _, .nil => .nil
  | _, _, .cons h t => by
    rw [List.reverse_cons, List.reverse_cons]
    exact (vals_rev t).append (.cons h .nil)
theorem gR_vals {rev : Bool} {vs : List V} {us : List Value} (h : Vals vs us) : Vals (gR rev vs) (gR rev us) := by
  cases rev with
  | true => exact vals_rev h
  | false => exact h
theorem gR_len {rev : Bool} {α : Type} (ws : List α) : (gR rev ws).length = ws.length := by cases rev <;> simp [gR]
structure IniKw (K : Frag) (fI : Addr) (fs ks : List Str) (rev : Bool) : Prop where
  len : ks.length = fs.length
  bind : ∀ fd, (∃ oc od osl, K.lookup fI = some ⟨oc, od, .func fd, osl⟩) → ∀ (u : Value) (ws : List Value), ws.length = fs.length → bindArgs fd ⟨[u], ks.zip ws⟩ = pure ((("self" : Str), u) :: fs.zip (gR rev ws))
section
variable {prog : Program} {w : World} {A : Around} {E : Value → Shared → Prop} {R : Result → Shared → Prop} {s : Shared} {K : Frag} {mg : Str → Option Value} {base : Heap}
  {B initId newId : String} {bm : List Value} {C fI cc cda x : Addr} {cn qual t : Str} {fs ks : List Str} {rev : Bool}
theorem err_madeK (T : ErrK prog K mg C fI cc cda B initId newId bm cn fs) (N : IniK K fI cc cda qual t fs) (N2 : IniKw K fI fs ks rev) (M0 : Mod K mg base) {ws : List Value} (hul : ws.length = fs.length)
    (kb : ∀ b o, base.get? b = some o → s.heap.get? b = some o) (hroom : A.depth + 1 < recursionLimit)
    (hq : ∀ h' tk e d, ErrMade s.heap h' e C d (putM fs (fun f => ((fs.zip (gR rev ws)).lookup f).getD .none) fun _ => none) → R (.ok (.ret (.ref e))) { s with heap := h', toks := tk }) :
    codeAny (model prog w) A (.call (.ref C) ⟨[], ks.zip ws⟩) R s := by
  have X : K.In s.heap := M0.kin.keeps kb
  obtain ⟨nm, N', qn, bs, bm', hdct, sn, sub, ab, col, dd, k0, k1, k2, k3, k5, hC, hT⟩ := PySem.W.excInit_of X T.ini
  obtain ⟨oI, hoI, hcI⟩ := err_fn T X
  obtain ⟨hp, g, dr, tk, os⟩ := s
  have old : ∀ b o, hp.get? b = some o → ((hp.push (PySem.W.kdv_tup [])).push (HandSPX.excO C hp.objs.size)).get? b = some o := fun b o e => Heap.get?_push_of_some _ (Heap.get?_push_of_some _ e)
  have hget : ((hp.push (PySem.W.kdv_tup [])).push (HandSPX.excO C hp.objs.size)).get? (hp.objs.size + 1) = some (HandSPX.excO C hp.objs.size) := by heap_get
  have hnx : K.lookup (hp.objs.size + 1) = none := by
    cases e : K.lookup (hp.objs.size + 1) with
    | none => rfl
    | some o => exact absurd (Nat.lt_of_succ_lt (Heap.lt_size (show hp.get? _ = some o from X _ _ e))) (Nat.lt_irrefl _)
  refine call_kw T.fam.FB hT hC (looks_findIn X T.iC) (fun self => PySem.W.exc_bind hoI hcI self) ?_
  refine err_init (x := hp.objs.size + 1) (t0 := hp.objs.size) (us := gR rev ws) (s := ⟨(hp.push (PySem.W.kdv_tup [])).push (HandSPX.excO C hp.objs.size), g, dr, tk, os⟩) T N M0 (by rw [gR_len, hul]) (fun b o e => old b o (kb b o e)) hget hnx ?_
    (fun fd hfd => BindsTo.of_eq (N2.bind fd hfd _ ws hul)) fun h' tk' d t1 k' dz hx n' => ?_
  · show A.depth + 1 < recursionLimit
    exact hroom
  · have dz' : hp.objs.size + 1 + 1 ≤ d := by
      have q := dz
      rw [Heap.size_push, Heap.size_push] at q
      exact q
    exact ⟨rfl, hq h' tk' (hp.objs.size + 1) d ⟨fun b o e => k' b o (Nat.ne_of_lt (Nat.lt_succ_of_lt (Heap.lt_size e))) (old b o e), Nat.le_succ _, ⟨_, hx⟩, Nat.le_trans (Nat.le_trans (Nat.le_succ _) (Nat.le_succ _)) dz', (Nat.ne_of_lt (Nat.lt_of_succ_le dz')).symm, n'⟩⟩
end
section
variable {X : Cx} {C fI cc cda : Addr} {B initId newId : String} {bm : List Value} {cn qual t : Str} {fs ks : List Str} {rev : Bool} {pins : List (Addr × Obj)} {σ : L2.St} {H : Hp} {s : Shared}
/-- a made exception is tracked -/
theorem Inv.made {h' : Heap} {a d : Addr} {tk' : Nat} {vs : List V} {us : List Value} (I : Inv X pins σ H s) (M : ErrMade s.heap h' a C d (putM fs (fun f => ((fs.zip us).lookup f).getD .none) fun _ => none)) (r : Vals vs us) (hvl : vs.length = fs.length) :
    ∃ H2, Inv X pins σ H2 { s with heap := h', toks := tk' } ∧ Evl.Ex H H2 ∧ H a = none ∧ ExcAt H2 a C d (fs.zip vs) := by
  obtain ⟨t0, ha'⟩ := M.obj
  obtain ⟨G', g1, g2⟩ := restrict h' fun b => decide (b ≠ a)
  have gk : ∀ b, b ≠ a → G'.get? b = h'.get? b := fun b hb => g1 b (decide_eq_true hb)
  have ge : G'.get? a = none := g2 a (by simp)
  have gold : ∀ b o, s.heap.get? b = some o → G'.get? b = some o := fun b o q => (gk b (Nat.ne_of_lt (Nat.lt_of_lt_of_le (Heap.lt_size q) M.new))).trans (M.keep b o q)
  have ob : ObjOk X.prog X.w (upd H d (.xd (fs.zip vs))) G' d (.xd (fs.zip vs)) := ⟨_, M.ns.at (fun o q => (gk d M.dne).trans q), relO_putM r hvl⟩
  have J : Inv X pins σ (upd H d (.xd (fs.zip vs))) { s with heap := G', toks := tk' } := I.laid (t' := tk') gold M.dnew ob
  have subs : ∀ b o, G'.get? b = some o → h'.get? b = some o := fun b o q => by
    by_cases hb : b = a
    · rw [hb, ge] at q; cases q
    · exact (gk b hb).symm.trans q
  have ha0 : H a = none := I.hok.fresh M.new
  have hd0 : H d = none := I.hok.fresh M.dnew
  have na : upd H d (.xd (fs.zip vs)) a = none := by rw [upd_ne (Ne.symm M.dne)]; exact ha0
  have J2 : Inv X pins σ (upd (upd H d (.xd (fs.zip vs))) a (ExcK a (.ref C) (some d))) { s with heap := h', toks := tk' } := J.laidN (h' := h') (t' := tk') subs ge na (excK_ok ha' ⟨rfl, rfl⟩ rfl)
  exact ⟨_, J2, (Evl.Ex.new hd0).trans (Evl.Ex.new na), ha0, upd_same, by rw [upd_ne M.dne]; exact upd_same⟩
/-- C(e, ..), the exception as a value -/
def tErrE (C : Addr) (fs : List Str) (ta : TA) : TE := fun σ H Q => ta σ H fun vs H1 => vs.length = fs.length ∧ ∀ a d H2, H1 a = none → Evl.Ex H1 H2 → ExcAt H2 a C d (fs.zip vs) → Q (.ref a) H2
theorem pe_err {e : Expr} {es : List Expr} {ta : TA} {p pos : Pos} (T : ErrK X.prog X.K X.mg C fI cc cda B initId newId bm cn fs) (N : IniK X.K fI cc cda qual t fs) (kC : keepIn X.K (.ref C) = true)
    {k : Nat} (hr : Room k X.A) (ha : PA X (e :: es) ta) (hg : Gl X cn) (hdb : (cn == ("__debug__" : Str)) = false := by decide)
    (he : starEach (e :: es) X.env = (false, eval e X.env) :: starEach es X.env := by rfl) (hpl : (backTo pos (starEach es X.env)).any (·.1) = false := by rfl) :
    PE X (.Call (.Name cn p) (e :: es) [] pos) (tErrE C fs ta) where
  run := by
    intro pins s σ H Q I h
    refine wpAny_Call_Name_kw (ld_glob I hg T.gC ?_ hdb)
    refine PySem.W.callWith_K (h₀ := X.base) I.ok.mod.kin kC (thn (ha.run pos pins s σ H _ I h) ?_) he hpl
    rintro us s1 ⟨vs, H1, I1, r1, hvl, q1⟩
    refine ⟨I1.kIn, ?_⟩
    show wpAny _ _ (call (.ref C) us) _ _ _
    have hul : us.length = fs.length := r1.length.symm.trans hvl
    have hbk := I1.bk
    refine wpAny_call (err_made T N I1.mod hul hbk (by have := hr.dp; omega) fun h' tk' a d M => ?_)
    obtain ⟨H2, J, e2, n2, at2⟩ := Inv.made (tk' := tk') I1 M r1 hvl
    exact ⟨.ref a, H2, J, rfl, q1 a d H2 n2 e2 at2⟩
/-- C(k = e, ..) -/
def tErrKw (C : Addr) (fs : List Str) (rev : Bool) (tk : TA) : TE := fun σ H Q => tk σ H fun zs H1 => zs.length = fs.length ∧ ∀ a d H2, H1 a = none → Evl.Ex H1 H2 → ExcAt H2 a C d (fs.zip (gR rev zs)) → Q (.ref a) H2
theorem pe_errK {kws : List Keyword} {tk : TA} {p pos : Pos} (T : ErrK X.prog X.K X.mg C fI cc cda B initId newId bm cn fs) (N : IniK X.K fI cc cda qual t fs) (N2 : IniKw X.K fI fs ks rev) (kC : keepIn X.K (.ref C) = true)
    {k : Nat} (hr : Room k X.A) (hkw : PK X kws tk) (hg : Gl X cn)
    (hall : (backToKw pos (keywordEach kws X.env)).all (·.1.isSome) = true := by rfl) (hks : (backToKw pos (keywordEach kws X.env)).filterMap (·.1) = ks := by rfl)
    (hdb : (cn == ("__debug__" : Str)) = false := by decide)
    (hpl : ((backTo pos (starEach [] X.env)).any (·.1) || (backToKw pos (keywordEach kws X.env)).any (·.1.isNone)) = false := by rfl) :
    PE X (.Call (.Name cn p) [] kws pos) (tErrKw C fs rev tk) where
  run := by
    intro pins s σ H Q I h
    refine wpAny_Call_Name_kw (ld_glob I hg T.gC ?_ hdb)
    refine PySem.W.callWith_KW0 (h₀ := X.base) I.ok.mod.kin kC hall (thn (hkw.run pos pins s σ H _ I h) ?_) hpl
    rintro ws s2 ⟨zs, H2, I2, rz, hvl, q2⟩
    rw [hks]
    have hul : ws.length = fs.length := rz.length.symm.trans hvl
    refine ⟨I2.kIn, wpAny_call (err_madeK T N N2 I2.mod hul I2.bk (by have := hr.dp; omega) fun h' tk' a d M => ?_)⟩
    obtain ⟨H3, J, e3, n3, at3⟩ := Inv.made (tk' := tk') I2 M (gR_vals rz) (by rw [gR_len, hvl])
    exact ⟨.ref a, H3, J, rfl, q2 a d H3 n3 e3 at3⟩
end
end BJ

/-! data with dicts in it, its repr; list.count(True) -/
namespace BJ
open PySem PySem.Spec PyProof.Rows L2 Evl
open PySem.W (Frag kitOne kitAny)
def keyD : Key → PyData
  | .inl i => .int i
  | .inr x => .str x
mutual
/-- data: atoms, lists, tuples, dicts whose keys are ints or texts -/
inductive Dz (K : Frag) (H : Hp) : V → PyData → Prop
  | non : Dz K H .non .none
  | bl (b : Bool) : Dz K H (.bl b) (.bool b)
  | int (i : Int) : Dz K H (.int i) (.int i)
  | str (x : Str) : Dz K H (.str x) (.str x)
  | lst {a : Addr} {xs : List V} {ds : List PyData} : SqL K H a xs → sysModules < a → DzAll K H xs ds → Dz K H (.ref a) (.list ds)
  | tup {a : Addr} {xs : List V} {ds : List PyData} : SqT K H a xs → DzAll K H xs ds → Dz K H (.ref a) (.tuple ds)
  | dict {a : Addr} {kvs : List (Key × V)} {ds : List PyData} : H a = some (.dK kvs) → DzAll K H (kvs.map (·.2)) ds → Dz K H (.ref a) (.dict ((kvs.map fun p => keyD p.1).zip ds))
inductive DzAll (K : Frag) (H : Hp) : List V → List PyData → Prop
  | nil : DzAll K H [] []
  | cons {v : V} {vs : List V} {d : PyData} {ds : List PyData} : Dz K H v d → DzAll K H vs ds → DzAll K H (v :: vs) (d :: ds)
end
mutual
theorem dz_ex {K : Frag} {H H' : Hp} (e : Ex H H') : ∀ {x : V} {d : PyData}, Dz K H x d → Dz K H' x d
  | _, _, .non => .non
  | _, _, .bl b => .bl b
  | _, _, .int i => .int i
  | _, _, .str x => .str x
  | _, _, .lst h1 hs h2 => .lst (ex_l e h1) hs (dzAll_ex e h2)
  | _, _, .tup h1 h2 => .tup (ex_t e h1) (dzAll_ex e h2)
  | _, _, .dict h1 h2 => .dict (e _ _ h1) (dzAll_ex e h2)
theorem dzAll_ex {K : Frag} {H H' : Hp} (e : Ex H H') : ∀ {xs : List V} {ds : List PyData}, DzAll K H xs ds → DzAll K H' xs ds
  | _, _, .nil => .nil
  | _, _, .cons h1 h2 => .cons (dz_ex e h1) (dzAll_ex e h2)
end
theorem dzAll_len {K : Frag} {H : Hp} : ∀ {xs : List V} {ds : List PyData}, DzAll K H xs ds → xs.length = ds.length
  | _, _, .nil => rfl
  | _, _, .cons _ h => by rw [List.length_cons, List.length_cons, dzAll_len h]
theorem dzAll_rep {K : Frag} {H : Hp} {x : V} {d : PyData} (h : Dz K H x d) : ∀ n, DzAll K H (List.replicate n x) (List.replicate n d)
  | 0 => .nil
  | n + 1 => .cons h (dzAll_rep h n)
theorem dz_ty {K : Frag} {H : Hp} {x : V} {d : PyData} (h : Dz K H x d) : TyX K H x (.type (tyN d)) := by
  cases h with
  | non => exact .base .non
  | bl b => exact .base (.bl b)
  | int i => exact .base (.int i)
  | str x => exact .base (.str x)
  | lst h _ _ => exact ty_lst h
  | tup h _ => exact ty_tup h
  | dict h _ => exact .base (.dK h)
theorem key_reads {h : Heap} : ∀ {es : List DictEntry} {kvs : List (Key × Value)} {P : Program} {w : World}, Pairs (mixKind P w) es kvs → ReadsAll h (es.map (·.key)) (kvs.map fun p => keyD p.1) [] ∧ es.map (·.val) = kvs.map (·.2)
  | _, _, _, _, .nil => ⟨.nil, rfl⟩
  | _, _, _, _, .cons (e := e) (kv := kv) h1 h2 h3 => by
    obtain ⟨ih1, ih2⟩ := key_reads (h := h) h3
    refine ⟨?_, by rw [List.map_cons, List.map_cons, ih2, h2]⟩
    rw [List.map_cons, List.map_cons]
    obtain ⟨k, v⟩ := kv
    have rd : Reads h e.key (keyD k) [] := by
      rcases keyIs_shape h1 with ⟨i, t, rfl, h⟩ | ⟨x, t, rfl, h⟩
      · rw [h]; exact .int i t
      · rw [h]; exact .str x t
    exact .cons (as := []) (bs := []) rd ih1
section
variable {X : Cx} {pins : List (Addr × Obj)} {σ : L2.St} {H : Hp} {s : Shared}
theorem kv_of {kvs : List (Key × V)} {vs : List (Key × Value)} (h : KV kvs vs) : kvs.map (·.1) = vs.map (·.1) ∧ Vals (kvs.map (·.2)) (vs.map (·.2)) := by
  induction h with
  | nil => exact ⟨rfl, .nil⟩
  | cons h t ih => exact ⟨by rw [List.map_cons, List.map_cons, ih.1, h.1], .cons h.2 ih.2⟩
theorem dz_go {ds : List PyData} (ih : ∀ d ∈ ds, ∀ (v : V) (u : Value), Dz X.K H v d → RelV v u → ∃ as, Reads s.heap u d as ∧ sysModules ∉ as) :
    ∀ (es : List PyData) (ws : List V) (us : List Value), (∀ d ∈ es, d ∈ ds) → DzAll X.K H ws es → Vals ws us → ∃ bs, ReadsAll s.heap us es bs ∧ sysModules ∉ bs
  | [], _, _, _, h, r => by
    cases h
    cases r
    exact ⟨_, .nil, by simp⟩
  | d :: es, _, _, hm, h, r => by
    cases h with
    | cons h1 h2 =>
      cases r with
      | cons r1 r2 =>
        obtain ⟨as, q1, n1⟩ := ih d (hm d List.mem_cons_self) _ _ h1 r1
        obtain ⟨bs, q2, n2⟩ := dz_go ih es _ _ (fun d hd => hm d (List.mem_cons_of_mem _ hd)) h2 r2
        exact ⟨_, .cons q1 q2, fun z => (List.mem_append.mp z).elim n1 n2⟩
theorem dz_reads_n (I : Inv X pins σ H s) : ∀ (n : Nat) (d : PyData), sizeOf d ≤ n → ∀ (v : V) (u : Value), Dz X.K H v d → RelV v u → ∃ as, Reads s.heap u d as ∧ sysModules ∉ as := by
  intro n
  induction n with
  | zero =>
    intro d h
    cases d <;> simp at h
  | succ n ihn =>
    intro d hn v u h r
    cases h with
    | non =>
      cases r
      exact ⟨_, Reads.none, by simp⟩
    | bl b =>
      cases r
      exact ⟨_, Reads.bool b, by simp⟩
    | int i =>
      obtain ⟨t, rfl⟩ := r
      exact ⟨_, Reads.int i t, by simp⟩
    | str x =>
      obtain ⟨t, rfl⟩ := r
      exact ⟨_, Reads.str x t, by simp⟩
    | @lst a xs ds hq hs ha =>
      cases r
      obtain ⟨its, rv, ⟨o, n, ho, hc, _, hd⟩, _⟩ := I.list hq
      obtain ⟨as, hr, hno⟩ := dz_go (fun d hd => ihn d (by have := List.sizeOf_lt_of_mem hd; simp at hn; omega)) ds _ its (fun _ h => h) ha rv
      refine ⟨_, Reads.list ho hc hd hr, fun hm => ?_⟩
      rcases List.mem_cons.mp hm with e | hm
      · exact absurd e (Nat.ne_of_lt hs)
      · exact hno hm
    | @tup a xs ds hq ha =>
      cases r
      obtain ⟨its, rv, ⟨o, ho, hc, n, hd⟩, _⟩ := I.tuple hq
      obtain ⟨as, hr, hno⟩ := dz_go (fun d hd => ihn d (by have := List.sizeOf_lt_of_mem hd; simp at hn; omega)) ds _ its (fun _ h => h) ha rv
      exact ⟨_, Reads.tuple ho hc hd hr, hno⟩
    | @dict a kvs ds hq ha =>
      cases r
      obtain ⟨_, hsys, vs, hkv, o, es, ep, h1, h2, h3, _, h5, _⟩ := (show ObjOk X.prog X.w H s.heap a (.dK kvs) from I.hok a _ hq)
      obtain ⟨k1, k2⟩ := kv_of hkv
      obtain ⟨r1, r2⟩ := key_reads (h := s.heap) h5
      have hl : kvs.length = ds.length := by rw [← dzAll_len ha, List.length_map]
      have e1 : (((kvs.map fun p => keyD p.1).zip ds).map (·.1)) = vs.map fun p => keyD p.1 := by
        rw [List.map_fst_zip (by rw [List.length_map]; omega)]
        have := congrArg (List.map keyD) k1
        rw [List.map_map, List.map_map] at this
        exact this
      have e2 : (((kvs.map fun p => keyD p.1).zip ds).map (·.2)) = ds := List.map_snd_zip (by rw [List.length_map]; omega)
      have hsz : ∀ d ∈ ds, sizeOf d ≤ n := fun d hd => by
        have m1 : d ∈ ((kvs.map fun p => keyD p.1).zip ds).map (·.2) := by rw [e2]; exact hd
        obtain ⟨p, hp, rfl⟩ := List.mem_map.mp m1
        have := List.sizeOf_lt_of_mem hp
        obtain ⟨p1, p2⟩ := p
        simp only [PyData.dict.sizeOf_spec, Prod.mk.sizeOf_spec] at this hn
        show sizeOf p2 ≤ n
        omega
      obtain ⟨bs, q2, n2⟩ := dz_go (fun d hd => ihn d (hsz d hd)) ds _ _ (fun _ h => h) ha k2
      refine ⟨_, Reads.dict (as := []) (bs := bs) h1 h2.1 h3 (by rw [e1]; exact r1) (by rw [e2, r2]; exact q2), fun hm => ?_⟩
      rcases List.mem_cons.mp hm with e | hm
      · rw [← e] at hsys
        simp at hsys
      · exact n2 (by simpa using hm)
theorem dz_reads (I : Inv X pins σ H s) (d : PyData) (v : V) (u : Value) (h : Dz X.K H v d) (r : RelV v u) : ∃ as, Reads s.heap u d as ∧ sysModules ∉ as := dz_reads_n I _ d (Nat.le_refl _) v u h r
end
/-- what repr asks of data, dicts among it -/
structure ShowsZ (d : PyData) : Prop where
  s : d.showable = true
  p : d.depth ≤ 40
  z : d.shown.length ≤ sizeLine
section
variable {X : Cx} {K : Frag}
def rReprZ (K : Frag) : List V → Hp → VK → Prop := fun xs H Q => ∃ (x : V) (d : PyData), xs = [x] ∧ Dz K H x d ∧ ShowsZ d ∧ Q (.str d.shown) H
theorem call_reprZ {k : Nat} (hK : X.K = K) (hr : Room k X.A) (hG : X.A.guards = some []) : CallR X (.builtin "repr") (rReprZ K) := by
  subst hK
  rintro pins s σ H xs us Q I r ⟨x, d, rfl, hd, sh, q⟩
  obtain ⟨u, rfl, r1⟩ := vals1 r
  obtain ⟨as, hrd, hn⟩ := dz_reads I d x u hd r1
  have fin : ∀ (h' : Heap) (t : Tok) (tk : Nat), (∀ b o, s.heap.get? b = some o → h'.get? b = some o) → EP X pins σ Q (.str d.shown t) { s with heap := h', toks := tk } := fun h' t tk kk => ⟨.str d.shown, H, I.kept (t' := tk) kk, ⟨t, rfl⟩, q⟩
  have hsz := sh.z
  have hdep := sh.p
  cases hrd with
  | none => exact PySem.P.repr_of_none (by simpa [PyData.shown] using fin s.heap _ _ fun _ _ e => e)
  | bool b => exact PySem.P.repr_of_bool (by cases b <;> simpa [PyData.shown] using fin s.heap _ _ fun _ _ e => e)
  | int i t => exact PySem.P.repr_of_int (by simpa [PyData.showable] using sh.s) (by simpa [PyData.shown] using fin s.heap _ _ fun _ _ e => e)
  | str y t => exact PySem.P.repr_of_str (by simpa [PyData.shown] using fin s.heap _ _ fun _ _ e => e) (by simpa [PyData.shown] using hsz)
  | list h1 h2 h3 h4 => exact repr_of_reads' (.list h1 h2 h3 h4) sh.s (fun _ => hn) hG (by have := hr.un; omega) (fun _ _ e => e) (fun h' t tk kk => fin h' t tk kk) hsz
  | tuple h1 h2 h3 h4 => exact repr_of_reads' (.tuple h1 h2 h3 h4) sh.s (fun _ => hn) hG (by have := hr.un; omega) (fun _ _ e => e) (fun h' t tk kk => fin h' t tk kk) hsz
  | dict h1 h2 h3 h4 h5 => exact repr_of_reads' (.dict h1 h2 h3 h4 h5) sh.s (fun _ => hn) hG (by have := hr.un; omega) (fun _ _ e => e) (fun h' t tk kk => fin h' t tk kk) hsz

/-! ### bs.count(b), a list of bools -/
def eqb (k : Bool) (v : Value) : Bool := match v with
  | .bool n => n == k
  | _ => false
theorem bools_of_vals : ∀ {bs : List Bool} {us : List Value}, Vals (bs.map V.bl) us → us = bs.map Value.bool
  | [], _, h => by cases h; rfl
  | b :: bs, _, .cons h t => by
    cases (show _ = Value.bool b from h)
    rw [bools_of_vals t]
    rfl
theorem eqb_count (k : Bool) : ∀ bs : List Bool, (bs.map Value.bool).countP (eqb k) = bs.count k
  | [] => rfl
  | b :: bs => by
    rw [List.map_cons, List.countP_cons, List.count_cons, eqb_count k bs]
    rfl
def rCntB (K : Frag) : V → List V → Hp → VK → Prop := fun x xs H Q => ∃ (p : Addr) (bs : List Bool) (k : Bool), x = .ref p ∧ xs = [.bl k] ∧ SqL K H p (bs.map V.bl) ∧ Q (.int (bs.count k : Nat)) H
theorem mt_bcount : MtR X "list.count" (rCntB X.K) := by
  intro pins s σ H x xs v us Q I rx rxs h
  obtain ⟨p, bs, k, rfl, rfl, hs, q⟩ := h
  cases rx
  obtain ⟨u, rfl, ru⟩ := rxs.one
  cases (show u = Value.bool k from ru)
  obtain ⟨its, rv, ⟨⟨cls, dd, data, sl⟩, n, ho, hc, hdn, hd⟩, hlen⟩ := I.list hs
  simp only at hc hd
  subst hc hd
  have hi := bools_of_vals rv
  subst hi
  refine call_meets PySem.F.slot_list_count ⟨_, ho, rfl⟩ PySem.F.entry_list_count (PySem.F.args_list_count_2 _ _)
    (SeqAt.list_countAt p (bs.map Value.bool).toArray n dd sl (.bool k) (eqb k)) ⟨ho, fun y hy => ?_, ?_⟩
  · have hy' : y ∈ bs.map Value.bool := by simpa using hy
    obtain ⟨b, _, rfl⟩ := List.mem_map.mp hy'
    exact SeqAt.EqAt.bool_bool b k
  · refine ⟨.int (bs.count k : Nat), H, I.tok _, ⟨s.toks, ?_⟩, q⟩
    show Value.int (((bs.map Value.bool).toArray.toList.countP (eqb k) : Nat) : Int) s.toks = Value.int ((bs.count k : Nat) : Int) s.toks
    rw [show (bs.map Value.bool).toArray.toList = bs.map Value.bool from rfl, eqb_count]
end
end BJ

/-! lists of exceptions -/
namespace BJ
open PySem PySem.Spec PyProof.Rows L2 Evl
open PySem.W (Frag kitOne kitAny)
theorem excAt_ex {H H' : Hp} (e : Ex H H') {a C d : Addr} {fs : List (Str × V)} (h : ExcAt H a C d fs) : ExcAt H' a C d fs := ⟨e _ _ h.1, e _ _ h.2⟩
/-- the values vs are exceptions of the classes cs, their fields in turn the values ws -/
inductive EL (H : Hp) (ws : List V) : List (Addr × List Str) → List V → Prop
  | nil : EL H ws [] []
  | cons {C : Addr} {fs : List Str} {cs : List (Addr × List Str)} {e d : Addr} {vs : List V} : ExcAt H e C d (fs.zip ws) → EL H ws cs vs → EL H ws ((C, fs) :: cs) (.ref e :: vs)
theorem EL.mono {H H' : Hp} {ws : List V} (x : Ex H H') {cs : List (Addr × List Str)} {vs : List V} (h : EL H ws cs vs) : EL H' ws cs vs := by
  induction h with
  | nil => exact .nil
  | cons h t ih => exact .cons (excAt_ex x h) ih
theorem EL.append {H : Hp} {ws : List V} {cs cs' : List (Addr × List Str)} {vs vs' : List V} (h : EL H ws cs vs) (h' : EL H ws cs' vs') : EL H ws (cs ++ cs') (vs ++ vs') := by
  induction h with
  | nil => exact h'
  | cons h t ih => exact .cons h ih
theorem EL.length {H : Hp} {ws : List V} {cs : List (Addr × List Str)} {vs : List V} (h : EL H ws cs vs) : vs.length = cs.length := by
  induction h with
  | nil => rfl
  | cons h t ih => rw [List.length_cons, List.length_cons, ih]
theorem EL.get {H : Hp} {ws : List V} {cs : List (Addr × List Str)} {vs : List V} (h : EL H ws cs vs) : ∀ (i : Nat) (C : Addr) (fs : List Str), cs[i]? = some (C, fs) → ∃ e d, vs[i]? = some (.ref e) ∧ ExcAt H e C d (fs.zip ws) := by
  induction h with
  | nil => intro i C fs h; simp at h
  | cons h t ih =>
    intro i C fs hi
    cases i with
    | zero =>
      simp at hi
      obtain ⟨rfl, rfl⟩ := hi
      exact ⟨_, _, rfl, h⟩
    | succ i =>
      simp only [List.getElem?_cons_succ] at hi
      exact ih i C fs hi
section
variable {K : Frag} {σ : L2.St} {H : Hp} {te : TE} {ta tr : TA} {ws : List V} {cs cs' : List (Addr × List Str)}
def EvAE (ta : TA) (σ : L2.St) (H : Hp) (ws : List V) (cs : List (Addr × List Str)) : Prop := ∀ H1, Ex H H1 → ∀ Q : List V → Hp → Prop, (∀ vs H2, Ex H1 H2 → EL H2 ws cs vs → Q vs H2) → ta σ H1 Q
def EvLE (te : TE) (σ : L2.St) (H : Hp) (ws : List V) (cs : List (Addr × List Str)) : Prop := ∀ H1, Ex H H1 → ∀ Q : VK, (∀ p vs H2, Ex H1 H2 → H2 p = some (.lst vs) → EL H2 ws cs vs → Q (.ref p) H2) → te σ H1 Q
theorem eae_nil : EvAE tNil σ H ws [] := fun H1 _ _ q => q [] H1 (Ex.refl _) .nil
/-- C(x, ..), then the rest: the values given are the first of ws -/
theorem eae_cons {C : Addr} {fs : List Str} {zs : List V} (h : EvA ta σ H zs) (hl : zs.length = fs.length) (hz : fs.zip zs = fs.zip ws) (hr : EvAE tr σ H ws cs) : EvAE (tCons (tErrE C fs ta) tr) σ H ws ((C, fs) :: cs) := fun H1 e Q q =>
  h H1 e _ fun H2 e2 => ⟨hl, fun a d H3 ha e3 hat => hr H3 ((e.trans e2).trans e3) _ fun vs H4 e4 el => q _ H4 ((e2.trans e3).trans e4) (.cons (excAt_ex e4 (hz ▸ hat)) el)⟩
theorem ele_lst (h : EvAE ta σ H ws cs) (hl : cs.length ≤ 100000) : EvLE (tLst ta) σ H ws cs := fun H1 e Q q =>
  h H1 e _ fun vs H2 e2 el => ⟨sz_of (by rw [el.length]; exact hl), fun p hp => q p vs _ (e2.trans (Ex.new hp)) upd_same (el.mono (Ex.new hp))⟩
theorem ele_cat {t1 t2 : TE} (h1 : EvLE t1 σ H ws cs) (h2 : EvLE t2 σ H ws cs') (hl : cs.length + cs'.length ≤ 100000) : EvLE (tOp (rCatS K) t1 t2) σ H ws (cs ++ cs') := fun H1 e Q q =>
  h1 H1 e _ fun p vs H2 e2 hp el => h2 H2 (e.trans e2) _ fun p' vs' H3 e3 hp' el' => ⟨p, p', vs, vs', rfl, rfl, .inl (.inl (e3 _ _ hp)), .inl (.inl hp'), sz_of (by rw [el.length, el'.length]; exact hl), fun l hl' =>
    q l _ _ ((e2.trans e3).trans (Ex.new hl')) upd_same (((el.mono e3).append el').mono (Ex.new hl'))⟩
theorem ele_var {i : Nat} {p : Addr} {vs : List V} (h : σ[i]? = some (some (.ref p))) (hp : H p = some (.lst vs)) (el : EL H ws cs vs) : EvLE (tVar i) σ H ws cs := fun H1 e Q q => ⟨_, h, q p vs H1 (Ex.refl _) (e _ _ hp) (el.mono e)⟩
/-- list + list that evaluate -/
theorem el_cat {t1 t2 : TE} {xs ys : List V} (h1 : EvL t1 σ H xs) (h2 : EvL t2 σ H ys) (hl : xs.length + ys.length ≤ 100000) : EvL (tOp (rCatS K) t1 t2) σ H (xs ++ ys) := fun H1 e Q q =>
  h1 H1 e _ fun p H2 n2 e2 hp => h2 H2 (e.trans e2) _ fun p' H3 n3 e3 hp' => ⟨p, p', xs, ys, rfl, rfl, .inl (.inl (e3 _ _ hp)), .inl (.inl hp'), sz_of hl, fun l hl' => q l _ (fresh_back (e2.trans e3) hl') ((e2.trans e3).trans (Ex.new hl')) upd_same⟩
/-- a variable that holds a list, as the first of a sum -/
theorem el_catV {t2 : TE} {i : Nat} {p : Addr} {xs ys : List V} (h : σ[i]? = some (some (.ref p))) (hp : H p = some (.lst xs)) (h2 : EvL t2 σ H ys) (hl : xs.length + ys.length ≤ 100000) : EvL (tOp (rCatS K) (tVar i) t2) σ H (xs ++ ys) := fun H1 e Q q =>
  ⟨_, h, h2 H1 e _ fun p' H3 n3 e3 hp' => ⟨p, p', xs, ys, rfl, rfl, .inl (.inl (e3 _ _ (e _ _ hp))), .inl (.inl hp'), sz_of hl, fun l hl' => q l _ (fresh_back e3 hl') (e3.trans (Ex.new hl')) upd_same⟩⟩
/-- isinstance(e, C) of a held exception -/
theorem rc_isE {e C D d : Addr} {fs : List (Str × V)} {b : Bool} (h : ExcAt H e C d fs) (R : ErrR K C) (k : kitOne K (.ref C) (.ref D) = some b) : RC (rIsG K) [.ref e, .ref D] H (.bl b) :=
  fun H1 x Q q => ⟨_, _, .ref C, .ref D, b, rfl, .own D, .exc (excAt_ex x h) R, k, q H1 (Ex.refl _)⟩
theorem rc_isEt {e C d : Addr} {n : String} {fs : List (Str × V)} {b : Bool} (h : ExcAt H e C d fs) (R : ErrR K C) (k : kitOne K (.ref C) (.type n) = some b) : RC (rIsG K) [.ref e, .ty n] H (.bl b) :=
  fun H1 x Q q => ⟨_, _, .ref C, .type n, b, rfl, .ty n, .exc (excAt_ex x h) R, k, q H1 (Ex.refl _)⟩
/-- e.f -/
theorem ev_exf {e C d : Addr} {f : Str} {fs : List (Str × V)} {v : V} (he : Ev te σ H (.ref e)) (h : ExcAt H e C d fs) (R : ErrR K C) (nf : PySem.W.findIn K (.ref C) f = some none) (hl : fs.lookup f = some v) : Ev (tExf K te f) σ H v := fun H1 x Q q =>
  he H1 x _ fun H2 x2 => ⟨e, C, d, fs, v, rfl, excAt_ex (x.trans x2) h, R, nf, hl, q H2 x2⟩
end
end BJ

/-! new lists of which it is known that they are not the modules' dict -/
namespace BJ
open PySem PySem.Spec PyProof.Rows L2 Evl
open PySem.W (Frag kitOne kitAny)
section
variable {X : Cx}
/-- list + list -/
def rCatN (K : Frag) : R2 := fun x y H Q => ∃ l b xs zs, x = .ref l ∧ y = .ref b ∧ Scr K H l xs ∧ Scr K H b zs ∧ xs.length + zs.length ≤ sizeLine ∧ ∀ p, H p = none → sysModules < p → Q (.ref p) (upd H p (.lst (xs ++ zs)))
theorem op_catN : OpR X (binaryOp .Add) (rCatN X.K) := by
  rintro pins s σ H x y v u Q I rx ry ⟨l, b, xs, zs, rfl, rfl, hH, hB, hz, q⟩
  cases rx
  cases ry
  obtain ⟨its, n, r, e, hl⟩ := hH.at I
  obtain ⟨its2, n2, r2, e2, hl2⟩ := hB.at I
  have q1 := r.length
  have q2 := r2.length
  refine PySem.P.add_list e e2 ?_ (by rw [List.size_toArray, List.size_toArray]; omega)
  rw [show its.toArray ++ its2.toArray = (its ++ its2).toArray from by simp]
  exact ⟨.ref _, _, I.lnew (t' := s.toks) (r.append r2) (by rw [List.length_append]; omega), rfl, q _ I.fresh I.big⟩
/-- [..] -/
def tLstN (t : TA) : TE := fun σ H Q => t σ H fun xs H1 => xs.length ≤ sizeLine ∧ ∀ p, H1 p = none → sysModules < p → Q (.ref p) (upd H1 p (.lst xs))
theorem pe_lstN {es : List Expr} {t : TA} {pos : Pos} (h : PA X es t) : PE X (.List es pos) (tLstN t) where
  run := by
    intro pins s σ H Q I hq
    refine wpAny_List_spliced (thn (h.run pos pins s σ H _ I hq) ?_)
    rintro us s1 ⟨xs, H1, I1, r, z, q⟩
    refine ⟨by rw [← r.length]; exact z, ?_⟩
    refine ⟨.ref s1.heap.objs.size, upd H1 s1.heap.objs.size (.lst xs), I1.laid (t' := s1.toks) (fun b u e => Heap.get?_push_of_some _ e) (Nat.le_refl _) ?_, rfl, q _ (I1.hok.fresh (Nat.le_refl _)) I1.big⟩
    exact ⟨z, us, 0, r, Heap.get?_push_size _ rfl⟩
/-- [x] * n -/
def rRepN : R2 := fun x y H Q => ∃ (l : Addr) (n : Nat) (v : V), x = .ref l ∧ y = .int (n : Int) ∧ H l = some (.lst [v]) ∧ n ≤ 1000000 ∧ ∀ p, H p = none → sysModules < p → Q (.ref p) (upd H p (.lst (List.replicate n v)))
theorem op_repN : OpR X (binaryOp .Mult) rRepN := by
  rintro pins s σ H x y v u Q I rx ry ⟨l, m, w, rfl, rfl, hH, hm, q⟩
  cases rx
  obtain ⟨t, rfl⟩ := ry
  obtain ⟨z, its, n, r, hl, e⟩ := I.lstM hH
  have h1 : (1 : Nat) = its.length := hl
  obtain ⟨k, hk⟩ : ∃ k : Int, k = (m : Int) := ⟨_, rfl⟩
  have hkm : k.toNat = m := by omega
  rw [← hk]
  have hms : its.toArray.size * k.toNat ≤ sizeLine := by
    rw [List.size_toArray, ← h1, hkm, sizeLine_eq]
    omega
  have c1 : ¬ (!Builtin.List.listFitsIndex k) = true := by
    rw [fitsIndex_both (by omega) (by omega)]
    exact Bool.false_ne_true
  have c2 : ¬ its.toArray.size * k.toNat > (2 ^ 63 - 1) / 8 := by
    rw [List.size_toArray, ← h1, hkm]
    omega
  have c3 : ¬ Builtin.List.listTooLong (its.toArray.size * k.toNat) = true := by
    rw [notLongL hms]
    exact Bool.false_ne_true
  have ez : List.foldl (fun x1 x2 => x1 ++ x2) #[] (List.replicate (if its.toArray.isEmpty = true then 0 else k.toNat) its.toArray) = (List.replicate m its).flatten.toArray := by
    cases its with
    | nil => simp at h1
    | cons a r' => rw [if_neg (by simp), size_rep, hkm]
  refine wpAny_binaryOp_repeat_ref (T := "list") (U := "int") (by decide) ⟨_, e, rfl⟩ (fun s' => typeIs_int s' k t) noFill_list_mul F.fills_int_mul F.slot_int_rmul repeat_list F.slot_int_index.lookup
    (call_meets F.slot_int_rmul (typeIs_int s k t) F.entry_int_rmul (F.args_int_rmul_2 _ _)
      (int___rmul___int_list k t l its.toArray n) ⟨e, rfl, ⟨_, e, rfl⟩, call_meets F.slot_list_mul ⟨_, e, rfl⟩ F.entry_list_mul (F.args_list_mul_2 _ _)
        (AutoListH.list___mul___list_int_3 l its.toArray n k t c1 c2 c3) ⟨e, ?_⟩⟩)
  rw [ez]
  have rr : Vals (List.replicate m w) (List.replicate m its).flatten := by
    cases r with
    | cons rw' rn =>
      cases rn
      rw [flat1]
      exact vals_rep rw' m
  exact ⟨.ref _, _, I.lnew (t' := s.toks) rr (by rw [List.length_replicate]; rw [List.size_toArray, ← h1, hkm] at hms; omega), rfl, q _ I.fresh I.big⟩
end
section
variable {K : Frag} {σ : L2.St} {H : Hp} {te : TE}
def EvLN (te : TE) (σ : L2.St) (H : Hp) (xs : List V) : Prop := ∀ H1, Ex H H1 → ∀ Q : VK, (∀ p H2, H1 p = none → sysModules < p → Ex H1 H2 → H2 p = some (.lst xs) → Q (.ref p) H2) → te σ H1 Q
theorem eln_catV {t2 : TE} {i : Nat} {p : Addr} {xs ys : List V} (h : σ[i]? = some (some (.ref p))) (hp : H p = some (.lst xs)) (h2 : EvL t2 σ H ys) (hl : xs.length + ys.length ≤ 100000) : EvLN (tOp (rCatN K) (tVar i) t2) σ H (xs ++ ys) := fun H1 e Q q =>
  ⟨_, h, h2 H1 e _ fun p' H3 n3 e3 hp' => ⟨p, p', xs, ys, rfl, rfl, .inl (.inl (e3 _ _ (e _ _ hp))), .inl (.inl hp'), sz_of hl, fun l hl' hs => q l _ (fresh_back e3 hl') hs (e3.trans (Ex.new hl')) upd_same⟩⟩
theorem EvLN.l {xs : List V} (h : EvLN te σ H xs) : EvL te σ H xs := fun H1 e Q q => h H1 e Q fun p H2 n _ e2 hp => q p H2 n e2 hp
/-- [x] * n -/
theorem eln_rep {n : Nat} {v : V} (h : Ev te σ H v) (hn : n ≤ 1000000) : EvLN (tOp rRepN (tLst (tCons te tNil)) (tC (.int (n : Int)))) σ H (List.replicate n v) := fun H1 e Q q =>
  h H1 e _ fun H2 e2 => ⟨(by show 1 ≤ sizeLine; decide), fun p hp => ⟨p, n, v, rfl, rfl, upd_same, hn, fun r hr hs => q r _ (fresh_back (e2.trans (Ex.new hp)) hr) hs ((e2.trans (Ex.new hp)).trans (Ex.new hr)) upd_same⟩⟩
end
end BJ

/-! the law's call where the text makes lambdas: the tables of the code objects are tracked from the start -/
namespace BJ
open PySem PySem.Spec PyProof.Rows L2 LamX
open PySem.W (Frag)
/-- the tables, and the script unless it is written -/
def hpT (K : Frag) (T : List Addr) (a : Addr) (u : HO) : Hp := fun b => if b ∈ T then some (.tbl #[]) else if K.lookup a = none ∧ b = a then some u else none
theorem hpT_in {K : Frag} {T : List Addr} {a b : Addr} {u : HO} (h : b ∈ T) : hpT K T a u b = some (.tbl #[]) := if_pos h
theorem hpT_a {K : Frag} {T : List Addr} {a : Addr} {u : HO} (h : a ∉ T) (hk : K.lookup a = none) : hpT K T a u a = some u := (if_neg h).trans (if_pos ⟨hk, rfl⟩)
theorem hpT_some {K : Frag} {T : List Addr} {a b : Addr} {u v : HO} (h : hpT K T a u b = some v) : (b ∈ T ∧ v = .tbl #[]) ∨ (b ∉ T ∧ K.lookup a = none ∧ b = a ∧ v = u) := by
  unfold hpT at h
  by_cases hb : b ∈ T
  · rw [if_pos hb] at h
    cases h
    exact .inl ⟨hb, rfl⟩
  · rw [if_neg hb] at h
    by_cases h2 : K.lookup a = none ∧ b = a
    · rw [if_pos h2] at h
      cases h
      exact .inr ⟨hb, h2.1, h2.2, rfl⟩
    · rw [if_neg h2] at h
      cases h
theorem lawGT {P : Program} {w : World} {K : Frag} {mg mb : Str → Option Value} {k : Nat} {fa a : Addr} {cs : List (Addr × Addr)} {sp : Sp} {s₁ : Shared} {vs : List Value} {ns : List Int}
    (KX : K.In s₁.heap) (hns : s₁.heap.Ns mainGlobals mg) (hb : s₁.heap.Ns builtinsNs mb) (hbb : ∀ x : Str, x ≠ "__name__" → mb x = bootBuiltins x) (hlim : s₁.heap.NoLimit) (hg : s₁.gens = #[])
    (hT : ∀ p ∈ cs, s₁.heap.get? p.2 = some { cls := .none, data := .fields #[] }) (nT : ∀ p ∈ cs, K.lookup p.2 = none) (C : ∀ p ∈ cs, PySem.W.CodeHd s₁.heap p.1 p.2)
    (hbm : ∃ (bm : Addr) (ob : Obj), mg "__builtins__" = some (.ref bm) ∧ bm ≠ builtinsNs ∧ s₁.heap.get? bm = some ob ∧ ob.cls = .type "module" ∧ ob.dict = some builtinsNs ∧ ob.data = .plain)
    (ha : s₁.heap.get? a = some { cls := .type "list", data := .seq vs.toArray }) (hi : IntsAre vs ns) (hl : ns.length ≤ sizeLine) (hr : Room k callerA)
    (F : ∀ base : Heap, K.In base → base.Ns mainGlobals mg → (∀ p ∈ cs, TabB base mg p.1 p.2) → CallP P w K mg base k (.ref fa) sp)
    (hsp : ∀ H : Hp, (∀ p ∈ cs, H p.2 = some (.tbl #[])) → Scr K H a (ns.map V.int) → sp [.ref a] H (fun v _ => v = .bl true) fun _ _ _ => False) :
    codeAny (model P w) callerA (.call (.ref fa) ⟨[.ref a], []⟩) (fun r s' => r = .ok (.ret (.bool true)) ∧ OldK s₁.heap s'.heap ∧ s'.os = s₁.os ∧ AllBare s'.gens) s₁ := by
  have rv := vals_ints hi
  have lenV := hi.length
  generalize hTe : cs.map (·.2) = T
  have memT : ∀ p ∈ cs, p.2 ∈ T := fun p hp => hTe ▸ List.mem_map.mpr ⟨p, hp, rfl⟩
  have fromT : ∀ b ∈ T, ∃ p ∈ cs, p.2 = b := fun b hb => List.mem_map.mp (hTe ▸ hb)
  have isT : ∀ b ∈ T, s₁.heap.get? b = some { cls := .none, data := .fields #[] } := fun b hb => by
    obtain ⟨p, hp, rfl⟩ := fromT b hb
    exact hT p hp
  have aT : a ∉ T := fun z => by
    have q := (isT a z).symm.trans ha
    cases q
  obtain ⟨H, hH⟩ : ∃ H : Hp, H = hpT K T a (.frz { cls := .type "list", data := .seq vs.toArray } (.lst (ns.map V.int))) := ⟨_, rfl⟩
  -- what is tracked is a table or the script
  have free : ∀ {b : Addr} {o : Obj}, s₁.heap.get? b = some o → o.data ≠ .fields #[] → o.data ≠ .seq vs.toArray → H b = none := fun {b o} e h1 h2 => by
    cases q : H b with
    | none => rfl
    | some u =>
      rw [hH] at q
      rcases hpT_some q with ⟨hb', _⟩ | ⟨_, _, rfl, _⟩
      · rw [isT b hb'] at e
        cases e
        exact (h1 rfl).elim
      · rw [ha] at e
        cases e
        exact (h2 rfl).elim
  have keepB : ∀ {b : Addr} {o : Obj}, s₁.heap.get? b = some o → H b = none → (hidT s₁.heap H).get? b = some o := fun e n => hidT_get e n
  have nsK : ∀ {b : Addr} {m : Str → Option Value}, s₁.heap.Ns b m → (hidT s₁.heap H).Ns b m := by
    rintro b m ⟨o, es, ep, e, d, r⟩
    exact ⟨o, es, ep, keepB e (free e (fun z => by rw [d] at z; cases z) fun z => by rw [d] at z; cases z), d, r⟩
  have kin : K.In (hidT s₁.heap H) := by
    intro b o e
    refine keepB (KX b o e) ?_
    cases q : H b with
    | none => rfl
    | some u =>
      rw [hH] at q
      rcases hpT_some q with ⟨hb', _⟩ | ⟨_, hk, rfl, _⟩
      · obtain ⟨p, hp, rfl⟩ := fromT b hb'
        rw [nT p hp] at e
        cases e
      · rw [hk] at e
        cases e
  obtain ⟨mc, l1, l2⟩ := id hlim
  have md : Mod K mg (hidT s₁.heap H) := ⟨kin, nsK hns, ⟨mb, nsK hb, hbb⟩, ⟨mc, nsK l1, l2⟩⟩
  have TB : ∀ p ∈ cs, TabB (hidT s₁.heap H) mg p.1 p.2 := fun p hp => by
    have hTp := hT p hp
    obtain ⟨og, esg, epg, eg, dg, _⟩ := id hns
    refine ⟨?_, ?_, fun z => ?_⟩
    · obtain ⟨o, us, file, tf, flags, tg, inF, text, tt, e1, r1, r2, r3, r⟩ := C p hp
      exact ⟨o, us, file, tf, flags, tg, inF, text, tt, keepB e1 (free e1 (fun z => by rw [r2] at z; cases z; simp at r3) fun z => by rw [r2] at z; cases z), r1, r2, r3, r⟩
    · obtain ⟨bm, ob, b1, b2, b3, b4, b5, b6⟩ := hbm
      refine ⟨bm, ob, b1, b2, fun q => ?_, fun q => ?_, keepB b3 (free b3 (fun z => by rw [b6] at z; cases z) fun z => by rw [b6] at z; cases z), b4, b5, b6⟩
      · rw [q, eg] at b3
        cases b3
        rw [dg] at b6
        cases b6
      · rw [q, hTp] at b3
        cases b3
        cases b6
    · rw [z, hTp] at eg
      cases eg
      cases dg
  have hok : HOk P w H s₁.heap := fun b u z => by
    rw [hH] at z
    rcases hpT_some z with ⟨hb', rfl⟩ | ⟨_, _, rfl, rfl⟩
    · exact isT b hb'
    · exact ⟨ha, by rw [List.length_map]; exact hl, vs, _, rv, ha⟩
  have hS : Scr K H a (ns.map V.int) := by
    cases hk : K.lookup a with
    | some o =>
      have e := KX a o hk
      rw [ha] at e
      cases e
      exact .inr ⟨vs, 0, hk, rv, by rw [List.length_map]; exact hl⟩
    | none => exact .inl (.inr ⟨_, by rw [hH]; exact hpT_a aT hk⟩)
  have hHT : ∀ p ∈ cs, H p.2 = some (.tbl #[]) := fun p hp => by rw [hH]; exact hpT_in (memT p hp)
  have e0 : Env0 P w K mg (hidT s₁.heap H) callerA [] s₁ H :=
    ⟨rfl, md, fun b o e => of_hidT e, Nat.le_of_eq (hidT_size _ _), trivial, (fun b hb => absurd (show b ∈ ([] : List Addr) from hb) (by simp)), hok, AllBare.of_eq hg⟩
  refine codeAny_mono (F _ kin (nsK hns) TB callerA [] s₁ H [.ref a] [] [.ref a] [] _ _ hr rfl e0 (.cons rfl .nil) .nil ⟨rfl, hsp H hHT hS⟩) ?_
  intro r s' h
  match r, h with
  | .error e, ⟨_, _, _, _, _, _, _, _, _, _, _, _, z⟩ => exact z.elim
  | .ok (.ret u), ⟨v, H', os, bare, un, hok', r', q⟩ =>
    obtain rfl : v = .bl true := q
    obtain rfl : u = Value.bool true := r'
    have key : ∀ b o, b ∉ T → s₁.heap.get? b = some o → s'.heap.get? b = some o := fun b o nb e => by
      cases q : H b with
      | none => exact un.keep b o e q (fun z => nomatch (show b ∈ ([] : List Addr) from z)) (fun z => nomatch z)
      | some u =>
        have q' := q
        rw [hH] at q'
        rcases hpT_some q' with ⟨hb', _⟩ | ⟨_, _, rfl, rfl⟩
        · exact absurd hb' nb
        · have e1 := (hok b _ q).1
          have e2 := (hok' b _ (un.frzs b _ _ q)).1
          rw [e] at e1
          cases e1
          exact e2
    have grown : ∀ p ∈ cs, ∃ more : Array Value, s'.heap.get? p.2 = some { cls := .none, data := .fields more } := fun p hp => by
      obtain ⟨more, z⟩ := un.tbls p.2 #[] (hHT p hp)
      exact ⟨_, hok' p.2 _ z⟩
    refine ⟨rfl, ⟨fun b o e => ?_, fun b o e => ?_⟩, os, bare⟩
    · by_cases hb' : b ∈ T
      · obtain ⟨p, hp, rfl⟩ := fromT b hb'
        obtain ⟨more, hm⟩ := grown p hp
        rw [hT p hp] at e
        cases e
        exact .inr (.inl ⟨((C p hp).tab (hT p hp)).isCodeTable, rfl, #[], more, rfl, by rw [Array.empty_append]; exact hm⟩)
      · exact .inl (key b o hb' e)
    · by_cases hb' : b ∈ T
      · obtain ⟨p, hp, rfl⟩ := fromT b hb'
        obtain ⟨more, hm⟩ := grown p hp
        exact ⟨_, hm⟩
      · exact ⟨o, key b o hb' e⟩
open PySem.W in
/-- the end of a proof, the text making lambdas -/
theorem walkGT {l : OpenLaw} {n k : Nat} {q : Program} {loose : List Str} {XP : (Str → Option Value) → Heap → Prop} {YP : World → Heap → Prop} {d : DefRec} {K : Params → Frag}
    (hn : l.most = some n) (hn2 : n ≤ sizeLine) (hdf : d.params.defaults = []) (hr : Room k callerA) (hY : ∀ (w : World) (h : Heap), YP w h → (K w.params).In h)
    (F : ∀ (w : World) (mg : Str → Option Value) (fa : Addr) (h : Heap), YP w h → (K w.params).In h → h.Ns mainGlobals mg → mg d.name = some (.ref fa) →
      ∃ (cs : List (Addr × Addr)) (sp : Sp), (∀ p ∈ cs, h.get? p.2 = some { cls := .none, data := .fields #[] }) ∧ (∀ p ∈ cs, (K w.params).lookup p.2 = none) ∧ (∀ p ∈ cs, PySem.W.CodeHd h p.1 p.2) ∧
        (∀ (H : Hp) (a : Addr) (ns : List Int), ns.length ≤ n → (∀ z ∈ ns, Builtin.Int.intBits z ≤ 1048576) → (∀ p ∈ cs, H p.2 = some (.tbl #[])) → Scr (K w.params) H a (ns.map V.int) → sp [.ref a] H (fun v _ => v = .bl true) fun _ _ _ => False) ∧
        ∀ base : Heap, (K w.params).In base → base.Ns mainGlobals mg → (∀ p ∈ cs, TabB base mg p.1 p.2) → CallP l.prog w (K w.params) mg base k (.ref fa) sp) :
    WalkO q loose XP YP l.row.toRowW d [] (fun f vs => PySem.call f vs) := by
  refine Att.attach_callB hn hdf fun w s₀ s₁ mg mb fa o pm cd doc a vs ns G Y ho hd hcd hmg hobj hints hlen hbits hg => ?_
  have KX := hY w _ Y
  obtain ⟨cs, sp, hT, nT, C, hsp, hF⟩ := F w mg fa _ Y KX G.T.g hmg
  exact lawGT KX G.T.g G.T.b G.T.builtins G.T.nolimit hg hT nT C G.T.bmain hobj hints (Nat.le_trans hlen hn2) hr hF fun H hH hS => hsp H a ns hlen hbits hH hS
end BJ

/-! defs whose promise holds for every Around (they call no repr); written dicts of text keys -/
namespace BJ
open PySem PySem.Spec PyProof.Rows L2 Evl
open PySem.W (Frag)
/-- a promise for every Around -/
def CallO (P : Program) (w : World) (K : Frag) (mg : Str → Option Value) (base : Heap) (k : Nat) (u : Value) (sp : Sp) : Prop :=
  ∀ (A : Around) (outer : List Env) (s : Shared) (H : Hp) (us : List Value) (vs : List V) (Q : VK) (E : XK),
    Room k A → Env0 P w K mg base A outer s H → Vals vs us → sp vs H Q E → codeAny (model P w) A (.call u ⟨us, []⟩) (CR (L2.CX P w) outer P w H s Q E) s
section
variable {P : Program} {w : World} {K : Frag} {mg : Str → Option Value} {base : Heap}
theorem CallO.mono {j k : Nat} {u : Value} {sp : Sp} (F : CallO P w K mg base j u sp) (h : j ≤ k) : CallO P w K mg base k u sp := fun A o s H us vs Q E hr => F A o s H us vs Q E (hr.mono h)
theorem CallO.p {k : Nat} {u : Value} {sp : Sp} (F : CallO P w K mg base k u sp) : CallP P w K mg base k u sp := by
  rintro A outer s H us ws vs zs Q E room hg e0 rel relz ⟨rfl, prom⟩
  cases relz
  exact F A outer s H us vs Q E room e0 rel prom
theorem FnG.ofOk {k : Nat} {f : Addr} {fd : FuncData} {ps : List Str} {sp : Sp} (F : FnOk P w K mg base (L2.CX P w) k f fd ps sp) : FnG P w K mg base k f fd ps sp :=
  ⟨F.len, fun A o s H a us vs Q E hr _ => F.run A o s H a us vs Q E hr⟩
/-- the rule for a def, for every Around -/
theorem DefAt.okX {x qual : Str} {st : Stmt} {f : Addr} {N ps : List Str} {k : Nat} {sp : Sp} (D : DefAt K x qual st f ps) (S : FnScope N ps (defScope st))
    (len : ∀ vs H Q E, sp vs H Q E → vs.length = ps.length)
    (hbody : ∀ (cdv : Value) (A : Around) (outer : List Env) (s : Shared) (H : Hp) (vs : List V) (Q : VK) (E : XK),
      Room k (A.deeper (envOfC qual (defScope st) s.heap.objs.size f cdv)) → sp vs H Q E →
      ∃ t, PSs (cxOf (L2.CX P w) P w K mg base N qual (defScope st) f cdv A outer s H E) (defBody st) t ∧ t { nx := fun _ H' => Q .non H', rt := Q } (start N vs) H) :
    ∃ fd, FnOk P w K mg base (L2.CX P w) (k + 1) f fd ps sp ∧ Binds K fd ps [] ∧ Fun K x qual st f fd := by
  obtain ⟨fd, F, hb⟩ := D.fn
  exact ⟨fd, F.okX S len hbody, hb, F⟩
theorem fnO {x qual : Str} {st : Stmt} {f : Addr} {k : Nat} {ps : List Str} {sp : Sp} (h : ∃ fd, FnOk P w K mg base (L2.CX P w) k f fd ps sp ∧ Binds K fd ps [] ∧ Fun K x qual st f fd) : CallO P w K mg base k (.ref f) sp := by
  obtain ⟨fd, F, hb, _⟩ := h
  intro A outer s H us vs Q E room e0 rel prom
  have hl : (us ++ []).length = ps.length := by
    rw [List.append_nil]
    exact rel.length.symm.trans (F.len _ _ _ _ prom)
  have KX : K.In s.heap := e0.mod.kin.keeps fun b o e => (e0.bs b o e).1
  have b := hb s us KX hl
  rw [List.append_nil] at b
  exact F.run A outer s H ⟨us, []⟩ us vs Q E room e0 b rel prom
theorem fnOG {x qual : Str} {st : Stmt} {f : Addr} {k : Nat} {ps : List Str} {sp : Sp} (h : ∃ fd, FnOk P w K mg base (L2.CX P w) k f fd ps sp ∧ Binds K fd ps [] ∧ Fun K x qual st f fd) : ∃ fd, FnG P w K mg base k f fd ps sp ∧ Binds K fd ps [] ∧ Fun K x qual st f fd := by
  obtain ⟨fd, F, r⟩ := h
  exact ⟨fd, FnG.ofOk F, r⟩
end
section
variable {X : Cx} {k : Nat} {u : Value} {sp : Sp} {W : WX} {x : Str} {p pos : Pos} {e : Expr} {es : List Expr} {t : TA}
theorem run_callO {pins : List (Addr × Obj)} {σ : L2.St} {H : Hp} {s : Shared} {Q : VK} {us : List Value} {vs : List V}
    (F : CallO X.prog X.w X.K X.mg X.base k u sp) (hr : Room k X.A) (tkW : Takes X W) (I : Inv X pins σ H s) (r : Vals vs us) (h : sp vs H Q fun cls d H' => W cls d σ H') :
    wpAny (model X.prog X.w) X.A (call u us) (EP X pins σ Q) X.xe s := by
  refine wpAny_call (codeAny_mono (F X.A X.stack s H us vs Q _ hr I.env0 r h) ?_)
  intro res s' hq
  match res, hq with
  | .error e, hq => exact tkW e s' (XE.of_call I (fun _ _ _ z => z) hq)
  | .ok (.ret u), hq => exact I.after hq
/-- f(e, ..) by such a promise -/
theorem pe_co (F : CallO X.prog X.w X.K X.mg X.base k u sp) (hr : Room k X.A) (hg : Gl X x) (hm : X.mg x = some u)
    (hk : PySem.W.keepIn X.K u = true) (tkW : Takes X W) (ha : PA X (e :: es) t) (hdb : (x == ("__debug__" : Str)) = false := by decide)
    (he : starEach (e :: es) X.env = (false, eval e X.env) :: starEach es X.env := by rfl)
    (hpl : (backTo pos (starEach es X.env)).any (·.1) = false := by rfl) : PE X (.Call (.Name x p) (e :: es) [] pos) (tCa sp W t) where
  run := by
    intro pins s σ H Q I h
    refine wpAny_Call_Name_kw (ld_glob I hg hm ?_ hdb)
    refine PySem.W.callWith_K (h₀ := X.base) I.ok.mod.kin hk (thn (ha.run pos pins s σ H _ I h) ?_) he hpl
    rintro us s1 ⟨vs, H1, I1, r, q⟩
    exact ⟨I1.kIn, run_callO F hr tkW I1 r q⟩
end
/-- the written dict at a, its keys texts -/
structure KD (K : Frag) (w : World) (a : Addr) : Prop where
  ex : ∃ es n, K.lookup a = some ⟨.type "dict", none, .dict es n, #[]⟩ ∧ PySem.W.KeysLit w.params es.toList
  low : (a == sysModules) = false
section
variable {X : Cx}
/-- text in d, d written -/
def rInKD (K : Frag) (w : World) (neg : Bool) : R2 := fun x y H Q => ∃ (z : Str) (a : Addr) (r : Option Value), x = .str z ∧ y = .ref a ∧ KD K w a ∧ PySem.W.nsIn K a z = some r ∧ Q (.bl (if neg then !r.isSome else r.isSome)) H
theorem op_inKD : OpR X (compareOp .In) (rInKD X.K X.w false) := by
  rintro pins s σ H x y v u Q I rx ry ⟨z, a, r, rfl, rfl, ⟨⟨es, n, hl, hk⟩, low⟩, hn, q⟩
  obtain ⟨t, rfl⟩ := rx
  cases (show u = Value.ref a from ry)
  have hm := PySem.W.mapOf_K (prog := X.prog) (w := X.w) I.kIn hl hk
  refine wpAny_in_of (strKind_is X.prog X.w z t) low hm ⟨_, H, I.tok _, ?_, q⟩
  have e := PySem.W.find_K hl hn
  show Value.bool _ = Value.bool _
  rw [e]
  rfl
end
end BJ

/-! written tuples of tuples, written dicts of text keys: what they hold, read off the written part -/
namespace BJ
open PySem PySem.Spec PyProof.Rows L2 Evl
open PySem.W (Frag)
def atomV : Value → Option V
  | .int i _ => some (.int i)
  | .str x _ => some (.str x)
  | _ => none
theorem atomV_rel {u : Value} {v : V} (h : atomV u = some v) : RelV v u := by
  cases u <;> simp [atomV] at h
  · subst h; exact ⟨_, rfl⟩
  · subst h; exact ⟨_, rfl⟩
def tupIn (K : Frag) (a : Addr) : Option (List Value) := match K.lookup a with
  | some ⟨c, _, .seq its _, _⟩ => if (c == .type "tuple") && decide (its.size ≤ 1000) then some its.toList else none
  | _ => none
theorem tupIn_at {K : Frag} {a : Addr} {l : List Value} (h : tupIn K a = some l) : ∃ (o : Obj) (its : Array Value) (n : Nat), K.lookup a = some o ∧ o.cls = .type "tuple" ∧ o.data = .seq its n ∧ its.size ≤ sizeLine ∧ its.toList = l := by
  unfold tupIn at h
  split at h
  · rename_i c dd its n sl e
    split at h
    · rename_i hc
      rw [Bool.and_eq_true] at hc
      cases h
      exact ⟨_, its, n, e, eq_of_beq hc.1, rfl, Nat.le_trans (of_decide_eq_true hc.2) (by decide), rfl⟩
    · cases h
  · cases h
/-- a tuple of atoms -/
def rowIn (K : Frag) : Value → Option (List V)
  | .ref b => (tupIn K b).bind fun l => l.mapM atomV
  | _ => none
def rowsIn (K : Frag) (a : Addr) : Option (List (List V)) := (tupIn K a).bind fun l => l.mapM (rowIn K)
theorem mapM_vals : ∀ {l : List Value} {vs : List V}, l.mapM atomV = some vs → Vals vs l
  | [], vs, h => by
    simp at h
    subst h
    exact .nil
  | u :: l, vs, h => by
    rw [List.mapM_cons] at h
    simp only [Option.bind_eq_bind, Option.bind_eq_some_iff, Option.pure_def, Option.some.injEq] at h
    obtain ⟨v, hv, ws, hw, rfl⟩ := h
    exact .cons (atomV_rel hv) (mapM_vals hw)
theorem rowIn_at {K : Frag} {u : Value} {r : List V} (h : rowIn K u = some r) : ∃ b, u = .ref b ∧ ∀ H : Hp, SqT K H b r := by
  cases u with
  | ref b =>
    obtain ⟨l, h1, h2⟩ := Option.bind_eq_some_iff.mp (show (tupIn K b).bind (fun l => l.mapM atomV) = some r from h)
    obtain ⟨o, its, n, e1, e2, e3, e4, rfl⟩ := tupIn_at h1
    exact ⟨b, rfl, fun H => .inr ⟨o, its, n, e1, e2, e3, e4, mapM_vals h2⟩⟩
  | _ => simp [rowIn] at h
theorem mapM_rows {K : Frag} : ∀ {l : List Value} {rows : List (List V)}, l.mapM (rowIn K) = some rows → ∃ bs : List Addr, Vals (bs.map V.ref) l ∧ bs.length = rows.length ∧ ∀ (i : Nat) (r : List V), rows[i]? = some r → ∃ b, bs[i]? = some b ∧ ∀ H : Hp, SqT K H b r
  | [], rows, h => by
    simp at h
    subst h
    exact ⟨[], .nil, rfl, fun i r h => by simp at h⟩
  | u :: l, rows, h => by
    rw [List.mapM_cons] at h
    simp only [Option.bind_eq_bind, Option.bind_eq_some_iff, Option.pure_def, Option.some.injEq] at h
    obtain ⟨v, hv, ws, hw, rfl⟩ := h
    obtain ⟨bs, hv2, hl, hget⟩ := mapM_rows hw
    obtain ⟨b, rfl, hb⟩ := rowIn_at hv
    refine ⟨b :: bs, .cons rfl hv2, by rw [List.length_cons, List.length_cons, hl], fun i r hi => ?_⟩
    cases i with
    | zero =>
      simp at hi
      subst hi
      exact ⟨b, rfl, hb⟩
    | succ i =>
      simp only [List.getElem?_cons_succ] at hi ⊢
      exact hget i r hi
theorem rowsIn_at {K : Frag} {a : Addr} {rows : List (List V)} (h : rowsIn K a = some rows) : ∃ bs : List Addr, (∀ H : Hp, SqT K H a (bs.map V.ref)) ∧ bs.length = rows.length ∧ ∀ (i : Nat) (r : List V), rows[i]? = some r → ∃ b, bs[i]? = some b ∧ ∀ H : Hp, SqT K H b r := by
  unfold rowsIn at h
  simp only [Option.bind_eq_some_iff] at h
  obtain ⟨l, h1, h2⟩ := h
  obtain ⟨o, its, n, e1, e2, e3, e4, rfl⟩ := tupIn_at h1
  obtain ⟨bs, hv, hl, hg⟩ := mapM_rows h2
  exact ⟨bs, fun H => .inr ⟨o, its, n, e1, e2, e3, e4, hv⟩, hl, hg⟩
/-- the written dict at a, its keys texts, its values atoms, in their order -/
structure KDL (K : Frag) (P : Params) (a : Addr) (L : List (Str × V)) : Prop where
  ex : ∃ es n, K.lookup a = some ⟨.type "dict", none, .dict es n, #[]⟩ ∧ PySem.W.KeysLit P es.toList ∧ es.toList.any (·.refKey) = false ∧ es.toList.map (fun e => (match e.key with | .str x _ => x | _ => Str.empty, atomV e.val)) = L.map fun p => (p.1, some p.2)
  low : (a == sysModules) = false
theorem KDL.kd {K : Frag} {w : World} {a : Addr} {L : List (Str × V)} (h : KDL K w.params a L) : KD K w a := by
  obtain ⟨⟨es, n, h1, h2, _⟩, h3⟩ := h
  exact ⟨⟨es, n, h1, h2⟩, h3⟩
theorem find_of : ∀ {es : List DictEntry} {L : List (Str × V)} {P : Params}, PySem.W.KeysLit P es → es.map (fun e => (match e.key with | .str x _ => x | _ => Str.empty, atomV e.val)) = L.map (fun p => (p.1, some p.2)) → ∀ z : Str,
    match es.find? (·.key.isStr z), L.lookup z with
    | some e, some v => atomV e.val = some v
    | none, none => True
    | _, _ => False
  | [], [], _, _, _, z => trivial
  | e :: es, [], _, _, h, z => by simp at h
  | [], p :: L, _, _, h, z => by simp at h
  | e :: es, (x, v) :: L, P, ⟨⟨y, t, hk, hh⟩, hr⟩, h, z => by
    rw [List.map_cons, List.map_cons] at h
    injection h with h1 h2
    have ih := find_of hr h2 z
    rw [hk] at h1
    simp only [Prod.mk.injEq] at h1
    obtain ⟨rfl, h1⟩ := h1
    have ek : e.key.isStr z = (y == z) := by rw [hk]; rfl
    by_cases hz : z = y
    · subst hz
      rw [List.find?_cons_of_pos (by rw [ek]; simp), lookup_cons_if, if_pos rfl]
      exact h1
    · rw [List.find?_cons_of_neg (by rw [ek]; simpa using fun q => hz q.symm), lookup_cons_if, if_neg hz]
      exact ih
theorem KDL.look {K : Frag} {P : Params} {a : Addr} {L : List (Str × V)} (h : KDL K P a L) (z : Str) : match L.lookup z with
    | some v => ∃ u, PySem.W.nsIn K a z = some (some u) ∧ RelV v u
    | none => PySem.W.nsIn K a z = some none := by
  obtain ⟨⟨es, n, h1, h2, h3, h4⟩, _⟩ := h
  have f := find_of h2 h4 z
  have e : PySem.W.nsIn K a z = (match es.toList.find? (·.key.isStr z) with | some e => some (some e.val) | none => some none) := by
    unfold PySem.W.nsIn
    rw [h1]
    dsimp only
    rw [h3]
    rfl
  rw [e]
  cases hf : es.toList.find? (·.key.isStr z) with
  | some en =>
    rw [hf] at f
    cases hl : L.lookup z with
    | some v =>
      rw [hl] at f
      exact ⟨_, rfl, atomV_rel f⟩
    | none => rw [hl] at f; exact f.elim
  | none =>
    rw [hf] at f
    cases hl : L.lookup z with
    | some v => rw [hl] at f; exact f.elim
    | none => rfl
end BJ

/-! a def whose code object is known (it makes lambdas); its table -/
namespace BJ
open PySem PySem.Spec PyProof.Rows L2 Evl
open PySem.W (Frag)
structure DefAtC (K : Frag) (x qual : Str) (st : Stmt) (f c : Addr) (ps : List Str) : Prop where
  fn : ∃ (oc : Value) (od : Option Addr) (kV doc pm : Value) (an : Option Addr) (ct : Value) (osl : Array (Option Value)),
    K.lookup f = some ⟨oc, od, .func (PySem.W.fnOf x qual (defArgs st) (defBody st) (defScope st) .none kV doc pm an (.ref c) ct), osl⟩ ∧ PySem.W.codeIn K (.ref c) qual = true ∧
      Binds K (PySem.W.fnOf x qual (defArgs st) (defBody st) (defScope st) .none kV doc pm an (.ref c) ct) ps []
section
variable {P : Program} {w : World} {K : Frag} {mg : Str → Option Value} {base : Heap}
theorem DefAtC.ok {x qual : Str} {st : Stmt} {f c : Addr} {N ps : List Str} {k : Nat} {sp : Sp} (D : DefAtC K x qual st f c ps) (S : FnScope N ps (defScope st))
    (len : ∀ vs H Q E, sp vs H Q E → vs.length = ps.length)
    (hbody : ∀ (A : Around) (outer : List Env) (s : Shared) (H : Hp) (vs : List V) (Q : VK) (E : XK),
      Room k (A.deeper (envOfC qual (defScope st) s.heap.objs.size f (.ref c))) → A.guards = some [] → sp vs H Q E →
      ∃ t, PSs (cxOf (L2.CX P w) P w K mg base N qual (defScope st) f (.ref c) A outer s H E) (defBody st) t ∧ t { nx := fun _ H' => Q .non H', rt := Q } (start N vs) H) :
    CallP P w K mg base (k + 1) (.ref f) sp := by
  obtain ⟨oc, od, kV, doc, pm, an, ct, osl, lk, hcd, hb⟩ := D.fn
  have F : FnG P w K mg base (k + 1) f (PySem.W.fnOf x qual (defArgs st) (defBody st) (defScope st) .none kV doc pm an (.ref c) ct) ps sp :=
    fnG_of lk hcd S len fun A outer s H vs Q E hr hg hsp => hbody A outer s H vs Q E hr hg hsp
  have q := F.callP (dvs := []) hb .nil
  rintro A outer s H us ws vs zs Q E room hg e0 rel relz ⟨hz, prom⟩
  exact q A outer s H us ws vs zs Q E room hg e0 rel relz ⟨hz, show sp (vs ++ []) H Q E by rw [List.append_nil]; exact prom⟩
end
/-- the table's address in the code object at c -/
def tabOf (K : Frag) (c : Addr) : Option Addr := match K.lookup c with
  | some ⟨_, _, .fields vs, _⟩ => (match vs.getD 11 .none with | .ref p => some p | _ => none)
  | _ => none
end BJ

/-! x(lambda: body), the def that gets it knowing its own slots where the lambda's call raises -/
namespace BJ
open PySem PySem.Spec PyProof.Rows L2 LamX Evl
open PySem.W (Frag)
section
variable {X : Cx} {pins : List (Addr × Obj)} {σ : L2.St} {H : Hp} {s : Shared}
/-- call(), in the def that got the lambda; what is raised is wished at that def's slots -/
theorem pe_act2 {CXg : CXT} {Eg : XK} {Ng : List Str} {qg : Str} {sg : Scope} {g f c' : Addr} {cdg pm ctv : Value} {params : Arguments} {body : Expr} {scope : Scope} {k i : Nat} {a : Str}
    {pn : List (Addr × Obj)} {xe : Value → Shared → Prop} {W : WX} {t : XK → TE} {p1 p2 : Pos} (I : Inv X pins σ H s) (L : LamS X.env.scope scope)
    (hf : s.heap.get? f = some (PySem.W.kla_obj "<lambda>" (X.env.qual ++ "<lambda>") params body scope (cloFrom X.env.cells scope.names []) pm c' ctv)) (hfn : H f = none) (hfr : f ∉ frs X.stack)
    (hbind : bindArgs (PySem.W.kla_fn "<lambda>" (X.env.qual ++ "<lambda>") params body scope (cloFrom X.env.cells scope.names []) pm (.ref c') ctv) ⟨[], []⟩ = pure [])
    (tk : Takes ((cxOf CXg X.prog X.w X.K X.mg X.base Ng qg sg g cdg X.A X.stack s H Eg).tr pn xe) W) (hr : Room (k + 1) (X.A.deeper (envOfC qg sg s.heap.objs.size g cdg)))
    (hbody : ∀ (E : XK) (A : Around) (outer : List Env) (s : Shared) (H : Hp), Room k (A.deeper (lamEnv X scope s.heap.objs.size f c')) → PE (lamCx X A outer s H E scope f c') body (t E))
    (hN : Ng[i]? = some a) (hv : Vis sg a) (hd : (a == ("__debug__" : Str)) = false := by decide) (hcd : (a == ("__classdict__" : Str)) = false := by decide) :
    PE ((cxOf CXg X.prog X.w X.K X.mg X.base Ng qg sg g cdg X.A X.stack s H Eg).tr pn xe) (.Call (.Name a p1) [] [] p2)
      (fun σZ HZ Q => σZ[i]? = some (some (.ref f)) ∧ HZ c' = some (CodeO c' (X.env.qual ++ "<lambda>")) ∧ t (fun cls d H' => W cls d σZ H') σ HZ Q) where
  run := by
    rintro pinsZ sZ σZ HZ Q IZ ⟨hs, hc, ht⟩
    refine wpAny_Call_Name_kw (thn ((pe_var (pos := p1) (i := i) hN hv hd hcd).run pinsZ sZ σZ HZ (fun v H1 => v = .ref f ∧ H1 = HZ) IZ ⟨.ref f, hs, rfl, rfl⟩) ?_)
    rintro u s1 ⟨v, H1, I1, r1, rfl, eH⟩
    rw [eH] at I1
    cases (show u = Value.ref f from r1)
    have nof : f ∉ ([] : List Addr) := fun z => nomatch z
    have atF := I1.base.keep f _ hf hfn hfr nof
    refine PySem.W.callWith_F0 ⟨_, _, _, _, atF⟩ ?_
    have un : Un (frs X.stack) [] H HZ s.heap s1.heap := I1.base
    obtain ⟨⟨oc, cvs, ct, hoc, hdc, hvc⟩, _, _⟩ := I1.hok c' _ hc
    have go : codeAny (model X.prog X.w) (X.A.deeper (envOfC qg sg s.heap.objs.size g cdg)) (.call (.ref f) ⟨[], []⟩)
        (CR (L2.CX X.prog X.w) (envOfC qg sg s.heap.objs.size g cdg :: X.stack) X.prog X.w HZ s1 Q fun cls d H' => W cls d σZ H') s1 := by
      refine PySem.W.kla_callFunE hr.depth atF rfl L.co L.gen rfl ⟨c', oc, cvs, ct, rfl, hoc, hdc, hvc⟩ ?_
      rw [hbind]
      refine wpAny_pure (wpAny_newFunctionEnv (fun y hy => (L.own y hy).2) (fun y hy => absurd hy (by simp)) (fun h₁ hns hsb => ⟨I1.nolimit.fresh _ hsb, ?_⟩) L.kind)
      show codeAny _ _ (.expr body (lamEnv X scope s1.heap.objs.size f c')) _ _
      have grow : ∀ b o, s1.heap.get? b = some o → h₁.get? b = some o := fun b o e =>
        hsb.extBut b o (Nat.ne_of_lt (Heap.lt_size e)) (Heap.get?_push_of_some _ e)
      have J := lam_start2 (E := fun cls d H' => W cls d σZ H') (f := f) (c' := c') I L I1.env0 hr.hd un hns grow (tk := s1.toks + ([] : List (Str × Value)).length)
      refine PySem.W.kla_codeExpr (wpAny_mono ((hbody (fun cls d H' => W cls d σZ H') _ _ s1 HZ (hr.deeper _)).run [] _ _ HZ Q J ht) ?_ fun e s' hq => hq)
      rintro v s' ⟨w', H', J', rv, q⟩
      exact ⟨w', H', J'.os, J'.bare, J'.base, J'.hok, rv, q⟩
    refine wpAny_call (codeAny_mono go ?_)
    intro res s' hq
    match res, hq with
    | .error e, hq => exact tk e s' (XE.of_call I1 (fun _ _ _ z => z) hq)
    | .ok (.ret u), hq => exact I1.after hq
end
/-- what such a def gives, the lambda's call known by tl -/
def Gives2 (X : Cx) (Ng : List Str) (x : Str) (sg : Scope) (g : Addr) (cdg : Value) (bg : List Stmt) (a : Str) (q : Str) (TT : (XK → Hp → VK → Prop) → Hp → VK → Prop) : Prop :=
  ∀ (f c' : Addr) (s : Shared) (H : Hp) (Q : VK) (tl : XK → Hp → VK → Prop),
    (∀ (W : WX) (pn : List (Addr × Obj)) (xe : Value → Shared → Prop) (p1 p2 : Pos), Takes ((cxOf CX0 X.prog X.w X.K X.mg X.base Ng x sg g cdg X.A X.stack s H E0).tr pn xe) W →
      PE ((cxOf CX0 X.prog X.w X.K X.mg X.base Ng x sg g cdg X.A X.stack s H E0).tr pn xe) (.Call (.Name a p1) [] [] p2)
        (fun σZ HZ Q => σZ[0]? = some (some (.ref f)) ∧ HZ c' = some (CodeO c' q) ∧ tl (fun cls d H' => W cls d σZ H') HZ Q)) →
    H c' = some (CodeO c' q) → TT tl H Q →
    ∃ t, PSs (cxOf CX0 X.prog X.w X.K X.mg X.base Ng x sg g cdg X.A X.stack s H E0).nox bg t ∧ t { nx := fun _ H' => Q .non H', rt := Q } (L2.start Ng [.ref f]) H
section
variable {X : Cx}
/-- x(lambda: body) -/
theorem pe_lam2 {T : List (Addr × Str)} {TT : (XK → Hp → VK → Prop) → Hp → VK → Prop} {x a : Str} {g c P : Addr} {k : Nat} {pg : Arguments} {bg : List Stmt} {sg : Scope} {dV kV doc pm cdv ct oc : Value} {an od : Option Addr}
    {osl : Array (Option Value)} {Ng : List Str} {params : Arguments} {body : Expr} {scope : Scope} {t : XK → TE} {p lpos pos : Pos} (hg : Gl X x) (hm : X.mg x = some (.ref g)) (hk : PySem.W.keepIn X.K (.ref g) = true)
    (lk : X.K.lookup g = some ⟨oc, od, .func (PySem.W.fnOf x x pg bg sg dV kV doc pm an cdv ct), osl⟩) (hcg : PySem.W.codeIn X.K cdv x = true) (hb : L2.Binds X.K (PySem.W.fnOf x x pg bg sg dV kV doc pm an cdv ct) [a] [])
    (Sg : FnScope Ng [a] sg) (hNg : Ng[0]? = some a) (hva : Vis sg a) (hG : Gives2 X Ng x sg g cdv bg a (X.env.qual ++ "<lambda>") TT) (TB : TabB X.base X.mg c P) (hcode : X.env.code = .ref c)
    (hmT : (P, X.env.qual ++ "<lambda>") ∈ T) (hu : ∀ p ∈ T, p.1 = P → p.2 = X.env.qual ++ "<lambda>") (hr : Room (k + 2) X.A) (L : LamS X.env.scope scope) (hdef : defaultsOf params X.env = ([], []))
    (hbind : ∀ (q : Str) (cl : List (Str × Addr)) (pm cv ctv : Value), bindArgs (PySem.W.kla_fn "<lambda>" q params body scope cl pm cv ctv) ⟨[], []⟩ = pure [])
    (hbody : ∀ (E : XK) (A : Around) (outer : List Env) (s : Shared) (H : Hp) (f c' : Addr), Room k (A.deeper (lamEnv X scope s.heap.objs.size f c')) → PE (lamCx X A outer s H E scope f c') body (t E))
    (hdb : (x == ("__debug__" : Str)) = false := by decide) (hd : (a == ("__debug__" : Str)) = false := by decide) (hcd : (a == ("__classdict__" : Str)) = false := by decide) :
    PE X (.Call (.Name x p) [.Lambda params body scope lpos] [] pos) (tLam T TT t) where
  run := by
    rintro pins s σ H Q I ⟨hT, h⟩
    refine wpAny_Call_Name_kw (ld_glob I hg hm ?_ hdb)
    refine PySem.W.callWith_K (h₀ := X.base) I.ok.mod.kin hk ?_ (by rfl) (by rfl)
    show wpAny _ _ (spliced ((false, eval (.Lambda params body scope lpos) X.env) :: backTo pos (starEach [] X.env))) _ _ s
    refine Calls.spliced_cons (lam_make2 I TB hcode hmT hu hT hdef (L.has I.ok) ?_)
    intro f c' pm' ctv H1 s' I1 eN T1 hf hfn hfr hco
    refine Calls.spliced_nil ⟨I1.kIn, ?_⟩
    have go : codeAny (model X.prog X.w) X.A (.call (.ref g) ⟨[.ref f], []⟩) (CR CX0 X.stack X.prog X.w H1 s' Q E0) s' := by
      refine run_ofS (N := Ng) (ps := [a]) (us := [.ref f]) (vs := [.ref f]) lk hcg Sg hr I1.env0 (hb s' [.ref f] I1.kIn rfl) (.cons rfl .nil) rfl fun hr' => ?_
      obtain ⟨t', ht', hq'⟩ := hG f c' s' H1 Q (fun E H' Q' => t E σ H' Q') (fun W pn xe p1 p2 tk =>
        pe_act2 (i := 0) I1 L hf hfn hfr (hbind _ _ _ _ _) tk hr' (fun E A outer s H hr2 => hbody E A outer s H f c' hr2) hNg hva hd hcd) hco (h H1 eN T1)
      exact ⟨t', ht'.nox, hq'⟩
    refine wpAny_call (codeAny_mono go ?_)
    intro res s2 hq
    match res, hq with
    | .error e, hq => exact (show False from hq).elim
    | .ok (.ret u), hq => exact I1.after hq
end
end BJ

/-! a def whose body has a token (str.replace asks it); the part of a heap that stands while numbers are drawn and lambdas made -/
namespace BJ
open PySem PySem.Spec PyProof.Rows L2 Evl LamX
open PySem.W (Frag)
section
variable {X : Cx} {e : Expr} {es : List Expr} {te : TE} {t : TA} {pos : Pos}
theorem PAT.of' (h : PA X es t) : PAT X es t := fun pos pins s σ H Q _ I q => h.run pos pins s σ H Q I q
theorem pat_cons2 (h1 : PET X e te) (hr : PAT X es t) (hs : starEach (e :: es) X.env = (false, eval e X.env) :: starEach es X.env := by rfl) : PAT X (e :: es) (tCons te t) := by
  intro pos pins s σ H Q h0 I h
  rw [hs]
  show wpAny _ _ (spliced ((false, eval e X.env) :: backTo pos (starEach es X.env))) _ _ s
  refine Calls.spliced_cons (wpAny_mono (PySem.wpAny_toks (h1 pins s σ H _ h0 I h)) (fun u s1 q => ?_) fun _ _ z => z.2)
  obtain ⟨hk, x, H1, I1, r1, q1⟩ := q
  exact thn (hr pos pins s1 σ H1 _ (Nat.le_trans h0 hk) I1 q1) fun us s2 ⟨xs, H2, I2, r2, q2⟩ => ⟨x :: xs, H2, I2, .cons r1 r2, q2⟩
theorem pet_lst2 (h : PAT X es t) : PET X (.List es pos) (tLst t) := by
  intro pins s σ H Q h0 I hq
  refine wpAny_List_spliced (thn (h pos pins s σ H _ h0 I hq) fun us s1 ⟨xs, H1, I1, r, z, q⟩ => ⟨by rw [← r.length]; exact z, ?_⟩)
  have hf : H1 s1.heap.objs.size = none := I1.hok.fresh (Nat.le_refl _)
  refine ⟨.ref s1.heap.objs.size, upd H1 s1.heap.objs.size (.lst xs), I1.laid (t' := s1.toks) (fun b u e => Heap.get?_push_of_some _ e) (Nat.le_refl _) ?_, rfl, q _ hf⟩
  exact ⟨z, us, 0, r, Heap.get?_push_size _ rfl⟩
theorem pst_set2 {i : Nat} {x : Str} {pos' : Pos} (hN : X.N.Nodup) (hi : X.N[i]? = some x) (hx : Loc X.env.scope x) (he : PET X e te) (hs : swapsWith e (some (.Name x pos')) pos.line X.env = pure false := by rfl) (hf : X.fn x = true ∨ X.env.scope.names.lookup x = some .local := by first | exact .inl rfl | exact .inr rfl | assumption) :
    PST X (.Assign [.Name x pos'] e pos) (tAsg te (gName i)) := by
  intro pins s σ H D h0 I h
  refine wpAny_Assign_Name (thn (he pins s σ H _ h0 I h) fun v s1 ⟨y, H1, I1, r1, q1⟩ => ?_) hs
  exact store_ok I1 hN hi hx r1 (fun s2 I2 => ⟨_, H1, I2, q1⟩) hf
end
section
variable {P : Program} {w : World} {K : Frag} {mg : Str → Option Value} {base : Heap}
/-- the rule for a def of at least one parameter, none of its names a cell: a token is out when the body begins -/
theorem DefAt.okT {x qual : Str} {st : Stmt} {f : Addr} {N ps : List Str} {k : Nat} {sp : Sp} (D : DefAt K x qual st f ps) (S : FnScope N ps (defScope st)) (hnc : ∀ y ∈ (defScope st).names, y.2 ≠ .cell) (hps : 1 ≤ ps.length)
    (len : ∀ vs H Q E, sp vs H Q E → vs.length = ps.length)
    (hbody : ∀ (cdv : Value) (A : Around) (outer : List Env) (s : Shared) (H : Hp) (vs : List V) (Q : VK) (E : XK),
      Room k (A.deeper (envOfC qual (defScope st) s.heap.objs.size f cdv)) → sp vs H Q E →
      ∃ t, PSsT (cxOf (L2.CX P w) P w K mg base N qual (defScope st) f cdv A outer s H E) (defBody st) t ∧ t { nx := fun _ H' => Q .non H', rt := Q } (start N vs) H) :
    ∃ fd, FnOk P w K mg base (L2.CX P w) (k + 1) f fd ps sp ∧ Binds K fd ps [] ∧ Fun K x qual st f fd := by
  obtain ⟨fd, F, hb⟩ := D.fn
  refine ⟨fd, ?_, hb, F⟩
  obtain ⟨oc, od, kV, doc, pm, an, cdv, ct, osl, rfl, lk, hcd⟩ := F.ex
  exact fn_ofT lk hcd S hnc hps len fun A outer s H vs Q E hr hsp => hbody cdv A outer s H vs Q E hr hsp
end
/-! ### what stands while numbers are drawn and lambdas made -/
def cutH (d : Addr) (H : Hp) : Hp := fun p => if p = d then none else match H p with
  | some (.tbl _) => none
  | o => o
/-- S: the draws' dict is not in it, nor a table -/
structure Stab (d : Addr) (S : Hp) : Prop where
  off : S d = none
  tbl : ∀ p ps, S p ≠ some (.tbl ps)
theorem cut_stab (d : Addr) (H : Hp) : Stab d (cutH d H) := ⟨if_pos rfl, fun p ps h => by
  unfold cutH at h
  split at h
  · cases h
  · split at h
    · cases h
    · rename_i hh
      exact hh _ h⟩
theorem cut_ex (d : Addr) (H : Hp) : Ex (cutH d H) H := fun p o h => by
  unfold cutH at h
  split at h
  · cases h
  · split at h
    · cases h
    · exact h
theorem cut_at {d p : Addr} {H : Hp} {o : HO} (h : H p = some o) (hp : p ≠ d) (ht : ∀ ps, o ≠ .tbl ps) : cutH d H p = some o := by
  unfold cutH
  rw [if_neg hp, h]
  cases o <;> first | rfl | exact absurd rfl (ht _)
theorem Stab.to_cut {d : Addr} {S H : Hp} (st : Stab d S) (e : Ex S H) : Ex S (cutH d H) := fun p o h => cut_at (e p o h) (fun q => by rw [q, st.off] at h; cases h) (fun ps q => st.tbl p ps (q ▸ h))
theorem Stab.but {d : Addr} {S H H' : Hp} (st : Stab d S) (e : Ex S H) (b : SameBut d H H') : Ex S H' := fun p o h => b p o (fun q => by rw [q, st.off] at h; cases h) (e p o h)
theorem Stab.extN {d : Addr} {S H H' : Hp} (st : Stab d S) (e : Ex S H) (b : ExtN H H') : Ex S H' := fun p o h => b p o (e p o h) (fun ps q => st.tbl p ps (q ▸ h))
theorem Dr.extN {H H' : Hp} {d c : Addr} {cells : List Int} {n : Nat} (D : Dr H d c cells n) (s : ExtN H H') : Dr H' d c cells n := by
  obtain ⟨⟨a, l, u, h1, h2⟩, hl, hn, hz⟩ := D
  exact ⟨⟨a, l, u, s _ _ h1 (fun ps z => nomatch z), h2⟩, s _ _ hl (fun ps z => nomatch z), hn, hz⟩
theorem Tabs.but {T : List (Addr × Str)} {d : Addr} {H H' : Hp} {kvs : List (Key × V)} (t : Tabs T H) (hd : H d = some (.dK kvs)) (b : SameBut d H H') : Tabs T H' := fun p hp => by
  obtain ⟨ps, h1, h2, h3⟩ := t p hp
  refine ⟨ps, b _ _ (ne_of h1 hd (fun z => nomatch z)) h1, h2, fun pos cv hc => ?_⟩
  obtain ⟨c, e1, e2⟩ := h3 pos cv hc
  exact ⟨c, e1, b _ _ (ne_of e2 hd (fun z => nomatch z)) e2⟩
theorem Dr.atd {H : Hp} {d c : Addr} {cells : List Int} {n : Nat} (D : Dr H d c cells n) : ∃ kvs, H d = some (.dK kvs) := by
  obtain ⟨a, l, u, h, _⟩ := D.dict
  exact ⟨_, h⟩
end BJ

/-! calls by promises for every Around: keywords, stars, a class, a method, a property, a classmethod; the receiver's class is told by the reading -/
namespace BJ
open PySem PySem.Spec PyProof.Rows L2 Evl StX ClX
open PySem.W (Frag)
abbrev SpK := List V → List V → Hp → VK → XK → Prop
/-- a promise for every Around, with the keywords ks -/
def CallX (P : Program) (w : World) (K : Frag) (mg : Str → Option Value) (base : Heap) (k : Nat) (u : Value) (ks : List Str) (sp : SpK) : Prop :=
  ∀ (A : Around) (outer : List Env) (s : Shared) (H : Hp) (us ws : List Value) (vs zs : List V) (Q : VK) (E : XK),
    Room k A → Env0 P w K mg base A outer s H → Vals vs us → Vals zs ws → sp vs zs H Q E → codeAny (model P w) A (.call u ⟨us, ks.zip ws⟩) (CR (L2.CX P w) outer P w H s Q E) s
section
variable {P : Program} {w : World} {K : Frag} {mg : Str → Option Value} {base : Heap}
theorem CallX.mono {j k : Nat} {u : Value} {ks : List Str} {sp : SpK} (F : CallX P w K mg base j u ks sp) (h : j ≤ k) : CallX P w K mg base k u ks sp := fun A o s H us ws vs zs Q E hr => F A o s H us ws vs zs Q E (hr.mono h)
theorem CallX.imp {k : Nat} {u : Value} {ks : List Str} {sp sp' : SpK} (F : CallX P w K mg base k u ks sp) (h : ∀ vs zs H Q E, sp' vs zs H Q E → sp vs zs H Q E) : CallX P w K mg base k u ks sp' := fun A o s H us ws vs zs Q E hr e r rz q => F A o s H us ws vs zs Q E hr e r rz (h _ _ _ _ _ q)
theorem CallO.imp {k : Nat} {u : Value} {sp sp' : Sp} (F : BJ.CallO P w K mg base k u sp) (h : ∀ vs H Q E, sp' vs H Q E → sp vs H Q E) : BJ.CallO P w K mg base k u sp' := fun A o s H us vs Q E hr e r q => F A o s H us vs Q E hr e r (h _ _ _ _ q)
theorem CallO.x {k : Nat} {u : Value} {sp : Sp} (F : BJ.CallO P w K mg base k u sp) : CallX P w K mg base k u [] fun vs zs H Q E => zs = [] ∧ sp vs H Q E := by
  rintro A o s H us ws vs zs Q E hr e r rz ⟨rfl, q⟩
  cases rz
  exact F A o s H us vs Q E hr e r q
theorem CallX.o {k : Nat} {u : Value} {sp : SpK} (F : CallX P w K mg base k u [] sp) : BJ.CallO P w K mg base k u fun vs H Q E => sp vs [] H Q E := fun A o s H us vs Q E hr e r q => F A o s H us [] vs [] Q E hr e r .nil q
theorem CallX.g {k : Nat} {u : Value} {ks : List Str} {sp : SpK} (F : CallX P w K mg base k u ks sp) : CallG P w K mg base k u ks sp := fun A o s H us ws vs zs Q E hr _ e r rz q => F A o s H us ws vs zs Q E hr e r rz q
/-- from a def's promise by a way its parameters are bound -/
theorem callX_of {k : Nat} {f : Addr} {fd : FuncData} {ps ks : List Str} {sp : Sp} {n : Nat} {g : List Value → List Value → List Value} {gV : List V → List V → List V} (F : FnOk P w K mg base (L2.CX P w) k f fd ps sp)
    (hb : KBn K fd ps n ks g gV) : CallX P w K mg base k (.ref f) ks fun vs zs H Q E => vs.length = n ∧ zs.length = ks.length ∧ sp (gV vs zs) H Q E := by
  rintro A outer s H us ws vs zs Q E hr e0 r rz ⟨hn, hm, q⟩
  have KX : K.In s.heap := e0.mod.kin.keeps fun b o e => (e0.bs b o e).1
  have r2 := hb.rel r rz
  have hl : (g us ws).length = ps.length := r2.length.symm.trans (F.len _ _ _ _ q)
  exact F.run A outer s H ⟨us, ks.zip ws⟩ (g us ws) (gV vs zs) Q E hr e0 (hb.to s us ws KX (r.length.symm.trans hn) (rz.length.symm.trans hm)) r2 q
/-- a class by its __init__ -/
def spMk (C : Addr) (sp : SpK) : SpK := fun vs zs H Q E => ∀ x dx, H x = none → H dx = none → dx ≠ x → sysModules < x → sp (.ref x :: vs) zs (upd (upd H dx (.own x)) x (.ins C dx [])) (fun v H2 => v = .non ∧ Q (.ref x) H2) E
theorem CallX.make {k : Nat} {C f : Addr} {ks : List Str} {sp : SpK} (M : Mk K C f) (F : CallX P w K mg base k (.ref f) ks sp) : CallX P w K mg base (k + 1) (.ref C) ks (spMk C sp) := by
  intro A outer s H us ws vs zs Q E hr e0 r rz h
  have KX : K.In s.heap := e0.mod.kin.keeps fun b o e => (e0.bs b o e).1
  have n1 : H s.heap.objs.size = none := e0.hok.fresh (Nat.le_refl _)
  have n2 : H (s.heap.objs.size + 1) = none := e0.hok.fresh (Nat.le_succ _)
  have big := env0_big e0
  have hq := h (s.heap.objs.size + 1) s.heap.objs.size n2 n1 (Nat.ne_of_lt (Nat.lt_succ_self _)) (Nat.lt_succ_of_lt big)
  have e1' : (s.heap.push PySem.W.emptyDict).get? s.heap.objs.size = some PySem.W.emptyDict := Heap.get?_push_size s.heap rfl
  have z1 : (s.heap.push PySem.W.emptyDict).objs.size = s.heap.objs.size + 1 := Heap.size_push _ _
  have e2' : ((s.heap.push PySem.W.emptyDict).push (PySem.W.instObj C s.heap.objs.size)).get? (s.heap.objs.size + 1) = some (PySem.W.instObj C s.heap.objs.size) := by
    have := Heap.get?_push_size (s.heap.push PySem.W.emptyDict) (o := PySem.W.instObj C s.heap.objs.size) rfl
    rwa [Heap.size_push] at this
  have e3 : (s.heap.push PySem.W.emptyDict).Ns s.heap.objs.size (fun _ => none) := ⟨PySem.W.emptyDict, #[], _, e1', rfl, (fun e he => absurd he (by simp)), fun _ => rfl⟩
  have E1 := env0_laid (o := PySem.W.emptyDict) (u := .own (s.heap.objs.size + 1)) e0 ⟨_, e1'⟩
  have ne : s.heap.objs.size ≠ s.heap.objs.size + 1 := Nat.ne_of_lt (Nat.lt_succ_self _)
  have E2 : Env0 P w K mg base A outer { s with heap := (s.heap.push PySem.W.emptyDict).push (PySem.W.instObj C s.heap.objs.size) } (upd (upd H s.heap.objs.size (.own (s.heap.objs.size + 1))) (s.heap.objs.size + 1) (.ins C s.heap.objs.size [])) := by
    have new : ObjOk P w (upd (upd H s.heap.objs.size (.own (s.heap.objs.size + 1))) (s.heap.push PySem.W.emptyDict).objs.size (.ins C s.heap.objs.size [])) ((s.heap.push PySem.W.emptyDict).push (PySem.W.instObj C s.heap.objs.size)) (s.heap.push PySem.W.emptyDict).objs.size (.ins C s.heap.objs.size []) := by
      rw [z1]
      exact ⟨by rw [upd_ne ne, upd_same], Nat.zero_le _, ne, e2', fun _ => none, (Heap.Ns1.of_empty e3).at fun o q => Heap.get?_push_of_some _ q, fun _ => True.intro, fun y hy => absurd rfl hy⟩
    have := env0_laid (s := { s with heap := s.heap.push PySem.W.emptyDict }) (o := PySem.W.instObj C s.heap.objs.size) (u := .ins C s.heap.objs.size []) E1 new
    have e : ({ s with heap := s.heap.push PySem.W.emptyDict } : Shared).heap.objs.size = s.heap.objs.size + 1 := z1
    rw [e] at this
    exact this
  have un : Un (frs outer) [] H (upd (upd H s.heap.objs.size (.own (s.heap.objs.size + 1))) (s.heap.objs.size + 1) (.ins C s.heap.objs.size [])) s.heap ((s.heap.push PySem.W.emptyDict).push (PySem.W.instObj C s.heap.objs.size)) := by
    have u1 := un_laid (fs := frs outer) (s := s) (o := PySem.W.emptyDict) (u := .own (s.heap.objs.size + 1)) n1
    have u2 := un_laid (fs := frs outer) (s := { s with heap := s.heap.push PySem.W.emptyDict }) (H := upd H s.heap.objs.size (.own (s.heap.objs.size + 1))) (o := PySem.W.instObj C s.heap.objs.size) (u := .ins C s.heap.objs.size []) (by
      show upd H s.heap.objs.size (.own (s.heap.objs.size + 1)) (s.heap.push PySem.W.emptyDict).objs.size = none
      rw [z1, upd_ne ne.symm]
      exact n2)
    have e : ({ s with heap := s.heap.push PySem.W.emptyDict } : Shared).heap.objs.size = s.heap.objs.size + 1 := z1
    rw [e] at u2
    exact u1.trans u2
  refine make_map (f := f) KX M.makes M.init (beq_iff_eq.mp M.fn) (codeAny_mono (F _ outer _ _ (Value.ref (s.heap.objs.size + 1) :: us) ws (V.ref (s.heap.objs.size + 1) :: vs) zs _ E (hr.make C us (ks.zip ws)) (E2.make C us (ks.zip ws)) (.cons rfl r) rz hq) fun res s' hq' => ?_)
  cases res with
  | error e => exact cxUp (P := P) (w := w) outer s H { s with heap := (s.heap.push PySem.W.emptyDict).push (PySem.W.instObj C s.heap.objs.size) } _ E e s' un (fun b o q => Heap.get?_push_of_some _ (Heap.get?_push_of_some _ q)) rfl hq'
  | ok fl =>
    cases fl with
    | ret u =>
      obtain ⟨v, H', os, bare, u3, hok, rv, ev, q3⟩ := hq'
      subst ev
      exact ⟨rv, V.ref (s.heap.objs.size + 1), H', os, bare, un.trans u3, hok, rfl, q3⟩
    | next => exact False.elim hq'
    | brk => exact False.elim hq'
    | cont => exact False.elim hq'
end

section
variable {X : Cx} {k : Nat} {u : Value} {ks : List Str} {sp : Sp} {spk : SpK} {W : WX} {x m f : Str} {p p2 pos apos : Pos} {e o : Expr} {es : List Expr} {kws : List Keyword} {ta te : TE} {t tk : TA} {pl : Sem Bool}
theorem run_callX {pins : List (Addr × Obj)} {σ : L2.St} {H : Hp} {s : Shared} {Q : VK} {us ws : List Value} {vs zs : List V}
    (F : CallX X.prog X.w X.K X.mg X.base k u ks spk) (hr : Room k X.A) (tkW : Takes X W) (I : Inv X pins σ H s) (r : Vals vs us) (rz : Vals zs ws) (h : spk vs zs H Q fun cls d H' => W cls d σ H') :
    wpAny (model X.prog X.w) X.A (call u us (ks.zip ws)) (EP X pins σ Q) X.xe s := by
  refine wpAny_call (codeAny_mono (F X.A X.stack s H us ws vs zs Q _ hr I.env0 r rz h) ?_)
  intro res s' hq
  match res, hq with
  | .error e, hq => exact tkW e s' (XE.of_call I (fun _ _ _ z => z) hq)
  | .ok (.ret u), hq => exact I.after hq
/-- f(e, .., k = v, ..) | f(k = v, ..) | f() -/
theorem pe_cx (F : CallX X.prog X.w X.K X.mg X.base k u ks spk) (hr : Room k X.A) (hg : Gl X x) (hm : X.mg x = some u)
    (hk : PySem.W.keepIn X.K u = true) (tkW : Takes X W) (ha : PA X (e :: es) t) (hkw : PK X kws tk)
    (hall : (backToKw pos (keywordEach kws X.env)).all (·.1.isSome) = true := by rfl) (hks : (backToKw pos (keywordEach kws X.env)).filterMap (·.1) = ks := by rfl)
    (hdb : (x == ("__debug__" : Str)) = false := by decide) (he : starEach (e :: es) X.env = (false, eval e X.env) :: starEach es X.env := by rfl)
    (hpl : ((backTo pos (starEach (e :: es) X.env)).any (·.1) || (backToKw pos (keywordEach kws X.env)).any (·.1.isNone)) = false := by rfl) :
    PE X (.Call (.Name x p) (e :: es) kws pos) (tCaK spk W t tk) where
  run := by
    intro pins s σ H Q I h
    refine wpAny_Call_Name_kw (ld_glob I hg hm ?_ hdb)
    refine PySem.W.callWith_KW (h₀ := X.base) I.ok.mod.kin hk hall (thn (ha.run pos pins s σ H _ I h) ?_) hpl he
    rintro us s1 ⟨vs, H1, I1, r, q⟩
    refine thn (hkw.run pos pins s1 σ H1 _ I1 q) ?_
    rintro ws s2 ⟨zs, H2, I2, rz, q2⟩
    rw [hks]
    exact ⟨I2.kIn, run_callX F hr tkW I2 r rz q2⟩
theorem pe_cx0 (F : CallX X.prog X.w X.K X.mg X.base k u ks spk) (hr : Room k X.A) (hg : Gl X x) (hm : X.mg x = some u)
    (hk : PySem.W.keepIn X.K u = true) (tkW : Takes X W) (hkw : PK X kws tk)
    (hall : (backToKw pos (keywordEach kws X.env)).all (·.1.isSome) = true := by rfl) (hks : (backToKw pos (keywordEach kws X.env)).filterMap (·.1) = ks := by rfl)
    (hdb : (x == ("__debug__" : Str)) = false := by decide)
    (hpl : ((backTo pos (starEach [] X.env)).any (·.1) || (backToKw pos (keywordEach kws X.env)).any (·.1.isNone)) = false := by rfl) :
    PE X (.Call (.Name x p) [] kws pos) (tCaK spk W tNil tk) where
  run := by
    intro pins s σ H Q I h
    refine wpAny_Call_Name_kw (ld_glob I hg hm ?_ hdb)
    refine PySem.W.callWith_KW0 (h₀ := X.base) I.ok.mod.kin hk hall (thn (hkw.run pos pins s σ H _ I h) ?_) hpl
    rintro ws s2 ⟨zs, H2, I2, rz, q2⟩
    rw [hks]
    exact ⟨I2.kIn, run_callX (us := []) (vs := []) F hr tkW I2 .nil rz q2⟩
theorem pe_co0 (F : BJ.CallO X.prog X.w X.K X.mg X.base k u sp) (hr : Room k X.A) (hg : Gl X x) (hm : X.mg x = some u)
    (hk : PySem.W.keepIn X.K u = true) (tkW : Takes X W) (hdb : (x == ("__debug__" : Str)) = false := by decide) : PE X (.Call (.Name x p) [] [] pos) (tCa sp W tNil) where
  run := by
    intro pins s σ H Q I h
    refine wpAny_Call_Name_kw (ld_glob I hg hm ?_ hdb)
    exact PySem.W.callWith_K0 I.kIn hk (BJ.run_callO (us := []) (vs := []) F hr tkW I .nil h)
/-- v(*e), v() where v is a name of the def that holds a def or a class of the text -/
def tVs (X : Cx) (W : WX) (i : Nat) (te : TE) : TE := fun σ H Q => ∃ (u : Addr) (k : Nat) (sp : Sp), σ[i]? = some (some (.ref u)) ∧ PySem.W.keepIn X.K (.ref u) = true ∧ BJ.CallO X.prog X.w X.K X.mg X.base k (.ref u) sp ∧ Room k X.A ∧
  te σ H fun y H1 => ∃ a xs, y = V.ref a ∧ (SqT X.K H1 a xs ∨ SqL X.K H1 a xs) ∧ sp xs H1 Q fun cls d H' => W cls d σ H'
theorem pe_vs {i : Nat} {sp_ : Pos} (hN : X.N[i]? = some x) (hv : Vis X.env.scope x) (tkW : Takes X W) (he : PE X e te) (hd : (x == ("__debug__" : Str)) = false := by decide) (hcd : (x == ("__classdict__" : Str)) = false := by decide)
    (hst : starEach [.Starred e sp_] X.env = [(true, eval e X.env)] := by rfl) :
    PE X (.Call (.Name x p) [.Starred e sp_] [] pos) (tVs X W i te) where
  run := by
    rintro pins s σ H Q I ⟨u, k, sp, hi, hk, F, hr, h⟩
    refine wpAny_Call_Name_kw (thn ((pe_var (pos := p) (i := i) hN hv hd hcd).run pins s σ H (fun v H1 => v = .ref u ∧ H1 = H) I ⟨.ref u, hi, rfl, rfl⟩) ?_)
    rintro uu s1 ⟨v, H1, I1, r1, rfl, eH⟩
    subst eH
    cases (show uu = Value.ref u from r1)
    refine PySem.W.callWith_S (h₀ := X.base) I1.ok.mod.kin hk (thn (he.run pins s1 σ H1 _ I1 h) fun v s2 ⟨y, H2, I2, ry, a, xs, ey, hxs, q⟩ => ?_) hst
    subst ey
    obtain rfl : v = Value.ref a := ry
    exact star_any I2 hxs fun us s3 I3 rv => ⟨I3.kIn, BJ.run_callO F hr tkW I3 rv q⟩
def tV0 (X : Cx) (W : WX) (i : Nat) : TE := fun σ H Q => ∃ (u : Addr) (k : Nat) (sp : Sp), σ[i]? = some (some (.ref u)) ∧ PySem.W.keepIn X.K (.ref u) = true ∧ BJ.CallO X.prog X.w X.K X.mg X.base k (.ref u) sp ∧ Room k X.A ∧ sp [] H Q fun cls d H' => W cls d σ H'
theorem pe_v0 {i : Nat} (hN : X.N[i]? = some x) (hv : Vis X.env.scope x) (tkW : Takes X W) (hd : (x == ("__debug__" : Str)) = false := by decide) (hcd : (x == ("__classdict__" : Str)) = false := by decide) :
    PE X (.Call (.Name x p) [] [] pos) (tV0 X W i) where
  run := by
    rintro pins s σ H Q I ⟨u, k, sp, hi, hk, F, hr, h⟩
    refine wpAny_Call_Name_kw (thn ((pe_var (pos := p) (i := i) hN hv hd hcd).run pins s σ H (fun v H1 => v = .ref u ∧ H1 = H) I ⟨.ref u, hi, rfl, rfl⟩) ?_)
    rintro uu s1 ⟨v, H1, I1, r1, rfl, eH⟩
    subst eH
    cases (show uu = Value.ref u from r1)
    exact PySem.W.callWith_K0 I1.kIn hk (BJ.run_callO (us := []) (vs := []) F hr tkW I1 .nil h)
/-- o.m(..): the receiver's class and the method's promise are told by the reading -/
def tMe (X : Cx) (m : Str) (W : WX) (ta : TE) (t tk : TA) (ks : List Str) : TE := fun σ H Q => ta σ H fun x H1 => ∃ (a C dx g : Addr) (fs : List (Str × V)) (k : Nat) (spk : SpK), x = .ref a ∧ H1 a = some (.ins C dx fs) ∧ fs.lookup m = none ∧ Cls X.K C ∧ Meth X.K C m g ∧
  CallX X.prog X.w X.K X.mg X.base k (.ref g) ks spk ∧ Room k X.A ∧ t σ H1 fun vs H2 => tk σ H2 fun zs H3 => spk (x :: vs) zs H3 Q fun cls d H' => W cls d σ H'
theorem pe_me (he : PE X o ta) (tkW : Takes X W) (ha : PA X (e :: es) t) (hkw : PK X kws tk)
    (hall : (backToKw pos (keywordEach kws X.env)).all (·.1.isSome) = true := by rfl) (hks : (backToKw pos (keywordEach kws X.env)).filterMap (·.1) = ks := by rfl)
    (hst : starEach (e :: es) X.env = (false, eval e X.env) :: starEach es X.env := by rfl)
    (hpl : ((backTo pos (starEach (e :: es) X.env)).any (·.1) || (backToKw pos (keywordEach kws X.env)).any (·.1.isNone)) = false := by rfl)
    (ht : eval (.Call (.Attribute o m apos) (e :: es) kws pos) X.env = (do
      let ov ← eval o X.env
      standAt apos.atName
      let (f, first) ← holding [ov] (getMethod ov m pl)
      callWith pos f first (backTo pos (starEach (e :: es) X.env)) (backToKw pos (keywordEach kws X.env))) := by rfl) :
    PE X (.Call (.Attribute o m apos) (e :: es) kws pos) (tMe X m W ta t tk ks) := by
  refine ⟨fun pins s σ H Q I h => ?_⟩
  refine PySem.W.methodCall_KW (pl := pl) (thn (he.run pins s σ H _ I h) fun u s1 ⟨x, H1, I1, rx, a, C, dx, g, fs, k, spk, ex, ea, l, c, hm, F, hr, q⟩ => ?_) ht
  subst ex
  obtain rfl : u = Value.ref a := rx
  refine getmeth_ok I1 ea c hm l ?_
  refine PySem.W.callWith_KW (first := [.ref a]) (h₀ := X.base) I.ok.mod.kin hm.kp hall (thn (ha.run pos pins s1 σ H1 _ I1 q) fun us s2 ⟨vs, H2, I2, r, q2⟩ => ?_) hpl hst
  refine thn (hkw.run pos pins s2 σ H2 _ I2 q2) ?_
  rintro ws s3 ⟨zs, H3, I3, rz, q3⟩
  rw [hks]
  exact ⟨I3.kIn, run_callX (us := .ref a :: us) (vs := .ref a :: vs) F hr tkW I3 (.cons rfl r) rz q3⟩
theorem pe_me0 (he : PE X o ta) (tkW : Takes X W) (hkw : PK X kws tk)
    (hall : (backToKw pos (keywordEach kws X.env)).all (·.1.isSome) = true := by rfl) (hks : (backToKw pos (keywordEach kws X.env)).filterMap (·.1) = ks := by rfl)
    (hpl : ((backTo pos (starEach [] X.env)).any (·.1) || (backToKw pos (keywordEach kws X.env)).any (·.1.isNone)) = false := by rfl)
    (ht : eval (.Call (.Attribute o m apos) [] kws pos) X.env = (do
      let ov ← eval o X.env
      standAt apos.atName
      let (f, first) ← holding [ov] (getMethod ov m pl)
      callWith pos f first (backTo pos (starEach [] X.env)) (backToKw pos (keywordEach kws X.env))) := by rfl) :
    PE X (.Call (.Attribute o m apos) [] kws pos) (tMe X m W ta tNil tk ks) := by
  refine ⟨fun pins s σ H Q I h => ?_⟩
  refine PySem.W.methodCall_KW (pl := pl) (thn (he.run pins s σ H _ I h) fun u s1 ⟨x, H1, I1, rx, a, C, dx, g, fs, k, spk, ex, ea, l, c, hm, F, hr, q⟩ => ?_) ht
  subst ex
  obtain rfl : u = Value.ref a := rx
  refine getmeth_ok I1 ea c hm l ?_
  refine PySem.W.callWith_KW0 (first := [.ref a]) (h₀ := X.base) I.ok.mod.kin hm.kp hall (thn (hkw.run pos pins s1 σ H1 _ I1 q) ?_) hpl
  rintro ws s3 ⟨zs, H3, I3, rz, q3⟩
  rw [hks]
  exact ⟨I3.kIn, run_callX (us := [.ref a]) (vs := [.ref a]) F hr tkW I3 (.cons rfl .nil) rz q3⟩
/-- o.f, a property: its def raises nothing -/
def tPr (X : Cx) (f : Str) (ta : TE) : TE := fun σ H Q => ta σ H fun x H1 => ∃ (a C dx p g : Addr) (fs : List (Str × V)) (k : Nat) (sp : Sp), x = .ref a ∧ H1 a = some (.ins C dx fs) ∧ Cls X.K C ∧ PropOf X.K C f p g ∧
  BJ.CallO X.prog X.w X.K X.mg X.base k (.ref g) sp ∧ Room (k + 1) X.A ∧ sp [x] H1 Q fun _ _ _ => False
theorem pe_pr (he : PE X o ta) (hab : attributeBase o f X.env (eval o X.env) = eval o X.env := by rfl) : PE X (.Attribute o f pos) (tPr X f ta) := by
  refine ⟨fun pins s σ H Q I h => ?_⟩
  refine attr_of hab (thn (he.run pins s σ H _ I h) fun u s1 ⟨x, H1, I1, rx, a, C, dx, p, g, fs, k, sp, ex, ea, c, hp, F, hr, q⟩ => ?_)
  subst ex
  obtain rfl : u = Value.ref a := rx
  obtain ⟨mA, O, _, _, _, _⟩ := ins_get I1.hok ea
  obtain ⟨od, J, _⟩ := O.look
  obtain ⟨rest, hrec⟩ := hp.rec_
  have I2 := I1.tok (s1.toks + 1)
  have hc : (PySem.W.clsIn X.K C).isSome = true := by
    obtain ⟨cd, hc, _⟩ := PySem.W.any_some c.hd
    rw [hc]
    rfl
  refine PySem.W.get_bind I1.kIn J (PySem.W.plainGet_of (c.get f)).1 (PySem.W.findObj_data hc hp.at_ hp.get hp.tak) (PySem.W.plainGet_of (c.get f)).2 (wpAny_call (PySem.W.prop_get (s := { s1 with toks := s1.toks + 1 }) I1.kIn hrec ?_))
  refine codeAny_mono (F X.A.in1 X.stack { s1 with toks := s1.toks + 1 } H1 [.ref a] [.ref a] Q _ hr.in1 I2.env0.in1 (.cons rfl .nil) q) fun r s' hq => ?_
  cases r with
  | error er =>
    obtain ⟨_, _, _, _, _, _, _, _, _, _, _, _, z⟩ := hq
    exact z.elim
  | ok fl =>
    cases fl with
    | ret u =>
      obtain ⟨v, H', I3, rv, q3⟩ := I2.after hq
      show wpAny _ _ (handedOut u) _ _ _
      rw [PySem.W.handedOut_of (handed_of rv)]
      exact wpAny_pure ⟨v, H', I3, rv, q3⟩
    | next => exact False.elim hq
    | brk => exact False.elim hq
    | cont => exact False.elim hq
/-- C.m(..), a classmethod of the class at C -/
def tCm (sp : SpK) (C : Addr) (W : WX) (ta : TE) (t tk : TA) : TE := fun σ H Q => ta σ H fun x H1 => x = .ref C ∧ t σ H1 fun vs H2 => tk σ H2 fun zs H3 => sp (.ref C :: vs) zs H3 Q fun cls d H' => W cls d σ H'
theorem run_cmX {C g : Addr} {pins : List (Addr × Obj)} {σ : L2.St} {H : Hp} {s : Shared} {q : Addr} {Q : VK} {us ws : List Value} {vs zs : List V} (F : CallX X.prog X.w X.K X.mg X.base k (.ref g) ks spk) (hr : Room k X.A) (tkW : Takes X W) (I : Inv X ((q, PySem.W.methodObj (.ref g) (.ref C)) :: pins) σ H s)
    (r : Vals vs us) (rz : Vals zs ws) (h : spk (.ref C :: vs) zs H Q fun cls d H' => W cls d σ H') : wpAny (model X.prog X.w) X.A (call (.ref q) us (ks.zip ws)) (EP X pins σ Q) X.xe s := by
  have z : wpAny (model X.prog X.w) X.A (call (.ref q) us (ks.zip ws)) (EP X ((q, PySem.W.methodObj (.ref g) (.ref C)) :: pins) σ Q) X.xe s := by
    refine wpAny_call (PySem.W.method_call (pin_at I) (codeAny_mono (F X.A X.stack s H (.ref C :: us) ws (.ref C :: vs) zs Q _ hr I.env0 (.cons rfl r) rz h) ?_))
    intro res s' hq
    match res, hq with
    | .error e, hq => exact tkW e s' (XE.of_call I (fun _ _ _ z => z) hq)
    | .ok (.ret u), hq => exact I.after hq
  exact thn z fun _ _ y => unpinE y
theorem pe_cm {C p g : Addr} {mc : Value} (he : PE X o ta) (r : CRead X.K C mc) (c : CMet X.K C mc m p g) (F : CallX X.prog X.w X.K X.mg X.base k (.ref g) ks spk) (hr : Room k X.A) (tkW : Takes X W) (ha : PA X (e :: es) t) (hkw : PK X kws tk)
    (hall : (backToKw pos (keywordEach kws X.env)).all (·.1.isSome) = true := by rfl) (hks : (backToKw pos (keywordEach kws X.env)).filterMap (·.1) = ks := by rfl)
    (hst : starEach (e :: es) X.env = (false, eval e X.env) :: starEach es X.env := by rfl)
    (hpl : ((backTo pos (starEach (e :: es) X.env)).any (·.1) || (backToKw pos (keywordEach kws X.env)).any (·.1.isNone)) = false := by rfl)
    (ht : eval (.Call (.Attribute o m apos) (e :: es) kws pos) X.env = (do
      let ov ← eval o X.env
      standAt apos.atName
      let (f, first) ← holding [ov] (getMethod ov m pl)
      callWith pos f first (backTo pos (starEach (e :: es) X.env)) (backToKw pos (keywordEach kws X.env))) := by rfl) :
    PE X (.Call (.Attribute o m apos) (e :: es) kws pos) (tCm spk C W ta t tk) := by
  refine ⟨fun pins s σ H Q I h => ?_⟩
  refine PySem.W.methodCall_KW (pl := pl) (thn (he.run pins s σ H _ I h) fun u s1 ⟨x, H1, I1, rx, ex, q⟩ => ?_) ht
  subst ex
  obtain rfl : u = Value.ref C := rx
  refine getmethcm_ok I1 r c fun s2 I2 => ?_
  refine PySem.W.callWith_of hpl (PySem.W.keeps_M (self := .ref C) c.fi) (evalArgs_kw2 hall (thn (ha.run pos _ s2 σ H1 _ I2 q) fun us s3 ⟨vs, H2, I3, rv, q2⟩ => ?_) hst)
  refine thn (hkw.run pos _ s3 σ H2 _ I3 q2) ?_
  rintro ws s4 ⟨zs, H3, I4, rz, q3⟩
  rw [hks]
  exact ⟨⟨pin_at I4, I4.kIn⟩, run_cmX F hr tkW I4 rv rz q3⟩
theorem pe_cm0 {C p g : Addr} {mc : Value} (he : PE X o ta) (r : CRead X.K C mc) (c : CMet X.K C mc m p g) (F : CallX X.prog X.w X.K X.mg X.base k (.ref g) ks spk) (hr : Room k X.A) (tkW : Takes X W) (hkw : PK X kws tk)
    (hall : (backToKw pos (keywordEach kws X.env)).all (·.1.isSome) = true := by rfl) (hks : (backToKw pos (keywordEach kws X.env)).filterMap (·.1) = ks := by rfl)
    (hpl : ((backTo pos (starEach [] X.env)).any (·.1) || (backToKw pos (keywordEach kws X.env)).any (·.1.isNone)) = false := by rfl)
    (ht : eval (.Call (.Attribute o m apos) [] kws pos) X.env = (do
      let ov ← eval o X.env
      standAt apos.atName
      let (f, first) ← holding [ov] (getMethod ov m pl)
      callWith pos f first (backTo pos (starEach [] X.env)) (backToKw pos (keywordEach kws X.env))) := by rfl) :
    PE X (.Call (.Attribute o m apos) [] kws pos) (tCm spk C W ta tNil tk) := by
  refine ⟨fun pins s σ H Q I h => ?_⟩
  refine PySem.W.methodCall_KW (pl := pl) (thn (he.run pins s σ H _ I h) fun u s1 ⟨x, H1, I1, rx, ex, q⟩ => ?_) ht
  subst ex
  obtain rfl : u = Value.ref C := rx
  refine getmethcm_ok I1 r c fun s2 I2 => ?_
  refine PySem.W.callWith_of hpl (PySem.W.keeps_M (self := .ref C) c.fi) (evalArgs_kw2_nil hall (thn (hkw.run pos _ s2 σ H1 _ I2 q) ?_))
  rintro ws s4 ⟨zs, H3, I4, rz, q3⟩
  rw [hks]
  exact ⟨⟨pin_at I4, I4.kIn⟩, run_cmX (us := []) (vs := []) F hr tkW I4 .nil rz q3⟩
end
end BJ

/-! generators whose body is one «yield from»; what consumes them may change objects of its own between two items -/
namespace BJ
open PySem PySem.Spec PyProof.Rows L2 Evl GenW
open PySem.W (Frag)
/-- while a generator sleeps only the objects at ws change -/
structure Doze (ws : List Addr) (s t : Shared) : Prop where
  os : t.os = s.os
  bare : AllBare t.gens
  keep : ∀ b o, b ∉ ws → s.heap.get? b = some o → t.heap.get? b = some o
/-- what stands around a generator that was made at sc, its object go at a: the heap was H, is H' -/
structure Cn (P : Program) (w : World) (outer : List Env) (H H' : Hp) (sc : Shared) (ws : List Addr) (a : Addr) (go : Obj) (s : Shared) : Prop where
  os : s.os = sc.os
  bare : AllBare s.gens
  un : Un (frs outer) [] H H' sc.heap s.heap
  hok : HOk P w H' s.heap
  lim : s.heap.NoLimit
  gen : s.heap.get? a = some go
  off : ∀ b ∈ ws, H' b = none
section
variable {P : Program} {w : World} {outer : List Env} {H H' : Hp} {sc s t : Shared} {ws : List Addr} {a : Addr} {go : Obj}
/-- the objects at ch change, none of them known to anybody -/
theorem Cn.step (c : Cn P w outer H H' sc ws a go s) {ch : List Addr} (ho : t.os = s.os) (hb : AllBare t.gens) (k : ∀ b o, b ∉ ch → s.heap.get? b = some o → t.heap.get? b = some o)
    (hf : ∀ b ∈ ch, sc.heap.objs.size ≤ b ∧ H' b = none ∧ b ≠ cStatics ∧ b ≠ a) : Cn P w outer H H' sc ws a go t := by
  have old : ∀ b o, sc.heap.get? b = some o → b ∉ ch := fun b o e hm => absurd (Nat.lt_of_lt_of_le (Heap.lt_size e) (hf b hm).1) (Nat.lt_irrefl _)
  refine ⟨ho.trans c.os, hb, ⟨fun b o e n h1 h2 => k b o (old b o e) (c.un.keep b o e n h1 h2), fun b o e n h1 h2 => ?_, c.un.free, fun b o e hx => ?_, c.un.tups, c.un.frzs, c.un.tbls⟩, fun b u q => ?_, ?_, k a go (fun hm => (hf a hm).2.2.2 rfl) c.gen, c.off⟩
  · obtain ⟨sl, q⟩ := c.un.slot b o e n h1 h2
    exact ⟨sl, k b _ (old b o e) q⟩
  · obtain ⟨o', q⟩ := c.un.there b o e hx
    exact ⟨o', k b _ (old b o e) q⟩
  · refine (c.hok b u q).stay (fun x y hc e => k x y (fun hm => ?_) e) (fun _ z => z) (fun _ _ z => z)
    have n := (hf x hm).2.1
    rcases hc with z | z
    · rw [z, q] at n
      cases n
    · rw [z] at n
      cases n
  · obtain ⟨mc, hns, hnn⟩ := c.lim
    exact ⟨mc, hns.at' fun o e => k _ o (fun hm => (hf _ hm).2.2.1 rfl) e, hnn⟩
end
/-- the protocol of a generator that hands out xs: item n from the end -/
def YItm (P : Program) (w : World) (outer : List Env) (H : Hp) (sc : Shared) (ws : List Addr) (a : Addr) (go : Obj) (xs : List V) (Q : Hp → Prop) : Protocol := fun n s₀ v s kap =>
  ∃ (x : V) (H' : Hp), xs[xs.length - (n + 1)]? = some x ∧ RelV x v ∧ n < xs.length ∧ Cn P w outer H H' sc ws a go s ∧ Q H' ∧ (∀ b ∈ ws, ∀ o, s₀.heap.get? b = some o → s.heap.get? b = some o) ∧ ∀ t, Doze ws s t → kap (.send .none) t
def YEnd (P : Program) (w : World) (outer : List Env) (H : Hp) (sc : Shared) (ws : List Addr) (a : Addr) (go : Obj) (Q : Hp → Prop) : GenEnd := fun n s₀ r s =>
  (r = .ok (.ret .none) ∨ r = .ok .next) ∧ n = 0 ∧ ∃ H', Cn P w outer H H' sc ws a go s ∧ Q H' ∧ ∀ b ∈ ws, ∀ o, s₀.heap.get? b = some o → s.heap.get? b = some o
section
variable {X : Cx} {A : Around} {outer : List Env} {H H' : Hp} {sc : Shared} {ws : List Addr} {a it : Addr} {go : Obj} {fs : List Frame} {xs : List V} {St : Nat → Heap → Prop} {Q : Hp → Prop} {R : GenEnd}
/-- it hands out what is left of xs -/
theorem seg_yg (q : QIt X H' it xs St) (hq : Q H') (hw : ∀ b ∈ ws, sc.heap.objs.size ≤ b ∧ b ≠ cStatics ∧ b ≠ a) (hit : sc.heap.objs.size ≤ it) (hH : H' it = none) (hs : it ≠ cStatics) (hia : it ≠ a) (hiw : it ∉ ws)
    (ho : (A.over (.builtin "proto.yield_from" ⟨[.ref it, .bool false, .none], []⟩) fs).handled = none) (hsp : splitAtGen fs = none) (hgd : fs.any Frame.guarded = false)
    (hend : ∀ (s₀ s : Shared), Cn X.prog X.w outer H H' sc ws a go s → (∀ b ∈ ws, ∀ o, s₀.heap.get? b = some o → s.heap.get? b = some o) →
      Seg (model X.prog X.w) A R (YItm X.prog X.w outer H sc ws a go xs Q) 0 s₀ (.builtin "proto.yield_from" ⟨[.ref it, .bool false, .none], []⟩) (.pure (.done (.ret .none))) fs s) :
    ∀ (n : Nat) (s₀ s : Shared), n ≤ xs.length → Cn X.prog X.w outer H H' sc ws a go s → (∀ b ∈ ws, ∀ o, s₀.heap.get? b = some o → s.heap.get? b = some o) → St (xs.length - n) s.heap →
      Seg (model X.prog X.w) A R (YItm X.prog X.w outer H sc ws a go xs Q) n s₀ (.builtin "proto.yield_from" ⟨[.ref it, .bool false, .none], []⟩) ((model X.prog X.w).den (.builtin "proto.yield_from" ⟨[.ref it, .bool false, .none], []⟩)) fs s := by
  obtain ⟨T, hT, hcl, hng⟩ := q.ty
  have turn : ∀ {s : Shared} {h' : Heap} {tk : Nat}, Cn X.prog X.w outer H H' sc ws a go s → (∀ b o, b ≠ it → s.heap.get? b = some o → h'.get? b = some o) → Cn X.prog X.w outer H H' sc ws a go { s with heap := h', toks := tk } := fun {s h' tk} c k =>
    c.step (t := { s with heap := h', toks := tk }) (ch := [it]) rfl c.bare (fun b o hb e => k b o (fun z => hb (by rw [z]; exact List.mem_singleton.mpr rfl)) e) (fun b hb => by rw [List.mem_singleton.mp hb]; exact ⟨hit, hH, hs, hia⟩)
  intro n
  induction n with
  | zero =>
    intro s₀ s hn c k0 st
    rw [Nat.sub_zero] at st
    rw [den_yf]; unfold Builtin.«proto.yield_from»; (try dsimp only); refine seg_bind (wpAny_pure ?_); (try dsimp only)
    refine seg_bind (wpAny_attempt (wpAny_holding ?_)); rw [if_neg Bool.false_ne_true, if_pos (show (Value.none == Value.none) = true from rfl)]
    refine wpAny_bind (wpAny_rule (wpAny_bind ?_)); refine q.done _ s _ _ ho st fun e h' tk hS hk => ?_
    obtain ⟨x, o, vs, rfl, hoa, hcls, hdat, h5⟩ := hS
    (try dsimp only); refine seg_bind (wpAny_endsTurn hoa hcls ?_); (try dsimp only); rw [if_pos rfl]
    (first | refine seg_bind (wpAny_rule ?_) | (rw [if_neg Bool.false_ne_true]; refine seg_bind (wpAny_rule ?_)) | (rw [if_neg Bool.false_ne_true]; refine seg_bind (wpAny_pure ?_); refine seg_bind (wpAny_rule ?_)))
    refine seg_bind (wpAny_field hoa hdat h5 ?_)
    exact hend s₀ _ (turn c hk) fun b hb o e => hk b o (fun z => hiw (z ▸ hb)) (k0 b hb o e)
  | succ n ih =>
    intro s₀ s hn c k0 st
    obtain ⟨x, hx⟩ : ∃ x, xs[xs.length - (n + 1)]? = some x := ⟨xs[xs.length - (n + 1)]'(by omega), List.getElem?_eq_getElem (by omega)⟩
    rw [den_yf]; unfold Builtin.«proto.yield_from»; (try dsimp only); refine seg_bind (wpAny_pure ?_); (try dsimp only)
    refine seg_bind (wpAny_attempt (wpAny_holding ?_)); rw [if_neg Bool.false_ne_true, if_pos (show (Value.none == Value.none) = true from rfl)]
    refine wpAny_bind (wpAny_rule (wpAny_bind ?_)); refine q.item _ _ x s _ _ ho hx st fun v h' tk rv st' hk => ?_
    have e1 : xs.length - (n + 1) + 1 = xs.length - n := by omega
    rw [e1] at st'
    have c' := turn (tk := tk) c hk
    obtain ⟨oi, hoi, hoc⟩ := hT _ h' st'
    refine wpAny_pure ?_; (try dsimp only); refine seg_bind (wpAny_typeOf (T := T) ⟨oi, hoi, hoc⟩ ?_); (try dsimp only)
    (first | (refine seg_bind (wpAny_of_eq hcl ?_); refine seg_bind (wpAny_pure ?_)) | refine seg_bind (wpAny_bind (wpAny_of_eq hcl (wpAny_pure ?_))) | refine seg_bind (wpAny_of_eq hcl ?_))
    (try dsimp only); refine seg_bind (wpAny_sleptOver hoi hoc hng ?_); refine seg_yield hsp rfl hgd ?_
    refine ⟨x, H', hx, rv, by omega, c', hq, fun b hb o e => hk b o (fun z => hiw (z ▸ hb)) (k0 b hb o e), fun t z => ?_⟩
    have st2 : St (xs.length - n) t.heap := q.frame _ h' t.heap st' fun b o hb e => z.keep b o (fun hm => by
      rcases hb with y | y
      · exact hiw (y ▸ hm)
      · exact y (c'.off b hm)) e
    obtain ⟨oj, hoj, hojc⟩ := hT _ t.heap st2
    show Seg _ _ _ _ n t _ (Builtin.Generator.sleptOver (.ref it) false >>= fun _ => _) fs t
    refine seg_bind (wpAny_sleptOver hoj hojc hng ?_); (try dsimp only); refine seg_bind (wpAny_pure ?_)
    have c2 : Cn X.prog X.w outer H H' sc ws a go t := c'.step (ch := ws) z.os z.bare z.keep fun b hb => ⟨(hw b hb).1, c'.off b hb, (hw b hb).2.1, (hw b hb).2.2⟩
    exact seg_again (plainId_quiet plain_yf _) (ih t t (by omega) c2 (fun _ _ _ e => e) st2)
end
end BJ

/-! the call of such a generator's def -/
namespace BJ
open PySem PySem.Spec PyProof.Rows L2 Evl GenW
open PySem.W (Frag)
/-- a generator def's promise: the arguments, the heap, what it hands out, what is wanted of the heap -/
abbrev SpY := List V → Hp → List V → (Hp → Prop) → Prop
/-- a generator that has not begun, and how it goes on -/
def YMade (P : Program) (w : World) (k : Nat) (outer : List Env) (H : Hp) (s : Shared) (xs : List V) (Q : Hp → Prop) (u : Value) (s' : Shared) : Prop :=
  ∃ (a : Addr) (g : Nat) (c : Code) (go : Obj), u = .ref a ∧ s.heap.objs.size ≤ a ∧ a < s'.heap.objs.size ∧ s'.heap.get? a = some go ∧ (∀ h : Heap, h.get? a = some go → h.IsGen a g) ∧ s'.gens[g]? = some (.fresh c) ∧ s'.os = s.os ∧ AllBare s'.gens ∧ s'.heap.NoLimit ∧
    (∀ b o, s.heap.get? b = some o → s'.heap.get? b = some o) ∧ ∀ (A : Around) (ws : List Addr) (t : Shared), Room k A → A.frames = some outer → (∀ b ∈ ws, s'.heap.objs.size ≤ b) → (∀ b o, s'.heap.get? b = some o → t.heap.get? b = some o) →
      (∀ b ∈ ws, ∃ o, t.heap.get? b = some o ∧ ∀ v, o.data ≠ .cell v) → t.os = s.os → AllBare t.gens → Seg (model P w) A (YEnd P w outer H s ws a go Q) (YItm P w outer H s ws a go xs Q) xs.length t c ((model P w).den c) [] t
def YFn (P : Program) (w : World) (K : Frag) (mg : Str → Option Value) (base : Heap) (k : Nat) (f : Addr) (sp : SpY) : Prop :=
  ∀ (A : Around) (outer : List Env) (s : Shared) (H : Hp) (us : List Value) (vs xs : List V) (Q : Hp → Prop), Room k A → Env0 P w K mg base A outer s H → Vals vs us → sp vs H xs Q →
    codeAny (model P w) A (.call (.ref f) ⟨us, []⟩) (fun r s' => match r with | .ok (.ret u) => YMade P w k outer H s xs Q u s' | _ => False) s
section
variable {P : Program} {w : World} {K : Frag} {mg : Str → Option Value} {base : Heap}
theorem yfn_of {k : Nat} {f : Addr} {name qual : Str} {params : Arguments} {body : List Stmt} {e : Expr} {yp pos : Pos} {scope : Scope} {dV kV doc pm cdv ct oc : Value} {an od : Option Addr} {osl : Array (Option Value)} {N ps : List Str} {sp : SpY}
    (lk : K.lookup f = some ⟨oc, od, .func (PySem.W.fnOf name qual params body scope dV kV doc pm an cdv ct), osl⟩) (hbo : body = [.Expr (.YieldFrom e yp) pos]) (hcd : PySem.W.codeIn K cdv qual = true) (S : GScope N ps scope) (hi : ∀ n : Addr, interactive (envOfC qual scope n f cdv) = false) (hb : Binds K (PySem.W.fnOf name qual params body scope dV kV doc pm an cdv ct) ps [])
    (len : ∀ vs H xs Q, sp vs H xs Q → vs.length = ps.length)
    (hbody : ∀ (A : Around) (outer : List Env) (s : Shared) (H : Hp) (vs xs : List V) (Q : Hp → Prop) (pn : List (Addr × Obj)), Room k (A.deeper (envOfC qual scope s.heap.objs.size f cdv)) → sp vs H xs Q →
      ∃ t, YfE (gcxOf P w K mg base N qual scope f cdv A outer s H (fun _ _ _ => False) pn).nox e t ∧ t (L2.start N vs) H fun ys H' => ys = xs ∧ Q H') : YFn P w K mg base (k + 1) f sp := by
  subst hbo
  intro A outer s H us vs xs Q hr e0 r hsp
  have hl := len _ _ _ _ hsp
  have KX : K.In s.heap := e0.mod.kin.keeps fun b o e => (e0.bs b o e).1
  have lim : s.heap.NoLimit := e0.mod.nolimit.keeps fun b o e => (e0.bs b o e).1
  have hul : (us ++ []).length = ps.length := by rw [List.append_nil, ← r.length, hl]
  have hbind := hb s us KX hul
  rw [List.append_nil] at hbind
  refine codeAny_call_generator hr.depth (KX _ _ lk) rfl S.co S.gen rfl (PySem.W.codeRec_of KX hcd) (hbind _ _ _ _ ?_)
  refine wpAny_newFunctionEnv_cells S.kind (fun y hy => ?_) fun env he s1 x => ?_
  · rcases S.par y.1 (List.of_mem_zip (show (y.1, y.2) ∈ _ from hy)).1 with q | q
    · exact .inl q
    · exact .inr ⟨q, PySem.W.cellsFrom_some _ _ _ (.inl q)⟩
  subst he
  have lim1 : s1.heap.NoLimit := lim.keeps x.toInCall.keep
  refine ⟨lim1, ?_⟩
  obtain ⟨h1, tk, es1, hk1⟩ := x.done
  have os1 : s1.os = s.os := by rw [es1]
  have gen1 : s1.gens = s.gens := by rw [es1]
  have lt1 : s.heap.objs.size < s1.heap.objs.size := x.toInCall.ns.lt
  have kp1 : ∀ b o, s.heap.get? b = some o → s1.heap.get? b = some o := x.toInCall.keep
  have main : ∀ (go : Obj) (nm qn : Value) (tk2 : Nat), go.cls = .type "generator" → go.data = .fields #[.int s1.gens.size 0, nm, qn] → go.slots = #[] → (∀ h : Heap, (h.push go).get? h.objs.size = some go) →
      YMade P w (k + 1) outer H s xs Q (.ref s1.heap.objs.size) { s1 with gens := s1.gens.push (.fresh (.func [.Expr (.YieldFrom e yp) pos] (envOfC qual scope s.heap.objs.size f cdv))), toks := tk2, heap := s1.heap.push go } := by
    intro go nm qn tk2 hgc hgd0 hgs hgp
    have hpushed : (s1.heap.push go).get? s1.heap.objs.size = some go := hgp _
    refine ⟨s1.heap.objs.size, s1.gens.size, _, go, rfl, Nat.le_of_lt lt1, ?_, hpushed, fun h e => ⟨go, nm, qn, e, hgc, hgd0, hgs⟩, Array.getElem?_push_size .., os1, AllBare.push (by rw [gen1]; exact e0.bare) rfl, lim1.keeps fun b o e => Heap.get?_push_of_some _ e, fun b o e => Heap.get?_push_of_some _ (kp1 b o e), ?_⟩
    · show _ < (s1.heap.push _).objs.size
      rw [Heap.size_push]
      exact Nat.lt_succ_self _
    intro Aw ws t hrw hfr hws hkt hwo hos hba
    have hws' : ∀ b ∈ ws, s1.heap.objs.size < b := fun b hb => by
      have := hws b hb
      have z : (s1.heap.push go).objs.size ≤ b := this
      rw [Heap.size_push] at z
      exact z
    have e0w : Env0 P w K mg base Aw outer s H := ⟨hfr, e0.mod, e0.bs, e0.bsz, e0.funs, e0.frf, e0.hok, e0.bare⟩
    have I1 : Inv (gcxOf P w K mg base N qual scope f cdv Aw outer s H (fun _ _ _ => False) []) [] (L2.start N vs) H s1 := inv_startG S hrw.hd e0w hl r x
    have kpt : ∀ b o, s1.heap.get? b = some o → t.heap.get? b = some o := fun b o e => hkt b o (Heap.get?_push_of_some _ e)
    have I2 : Inv (gcxOf P w K mg base N qual scope f cdv Aw outer s H (fun _ _ _ => False) []) [] (L2.start N vs) H t := I1.call' (ch := []) (hos.trans os1.symm) (Un.kept kpt) (I1.hok.kept kpt) hba fun b z => by simp at z
    have hea : t.heap.get? s1.heap.objs.size = some go := hkt s1.heap.objs.size go hpushed
    have young : ∀ b, s1.heap.objs.size ≤ b → H b = none ∧ b ≠ s.heap.objs.size ∧ b ∉ frs outer := fun b hb => ⟨I1.hok.fresh hb, Nat.ne_of_gt (Nat.lt_of_lt_of_le lt1 hb), I1.nofs hb⟩
    have I3 : Inv (gcxOf P w K mg base N qual scope f cdv Aw outer s H (fun _ _ _ => False) [(s1.heap.objs.size, go)]) (pinsAt ws t.heap) (L2.start N vs) H t := Inv.pinnedG I2 fun p hp => by
      rcases List.mem_append.mp hp with z | z
      · rw [List.mem_singleton.mp z]
        obtain ⟨y1, y2, y3⟩ := young s1.heap.objs.size (Nat.le_refl _)
        exact ⟨hea, y1, y2, y3, fun v q => by rw [hgd0] at q; cases q⟩
      · obtain ⟨hb, e⟩ := of_pinsAt z
        obtain ⟨y1, y2, y3⟩ := young p.1 (Nat.le_of_lt (hws' p.1 hb))
        obtain ⟨o, e2, hd⟩ := hwo p.1 hb
        rw [e] at e2
        cases e2
        exact ⟨e, y1, y2, y3, hd⟩
    obtain ⟨ty, hty, hq⟩ := hbody Aw outer s H vs xs Q [(s1.heap.objs.size, go)] (hrw.deeper _) hsp
    have hcs : cStatics < s.heap.objs.size := by
      obtain ⟨mc, hns, _⟩ := lim
      exact hns.lt
    refine seg_func (seg_execs_cons ?_)
    rw [exec_Expr _ _ pos (hi _) rfl]
    refine seg_at (segw_bind2 ?_)
    rw [over_func]
    refine wpAny_mono (hty.run (pinsAt ws t.heap) t _ H _ (I3.wish _) hq) (fun v s3 hv => ?_) fun x s' hx => (show False from hx).elim
    obtain ⟨T, hT, hne, hit⟩ := hv
    refine seg_at ?_
    show Seg _ _ _ _ _ _ _ ((yieldFrom _ v).wrap _ _ id id) [] s3
    unfold yieldFrom
    refine seg_bind_wrap (wpAny_typeOf hT ?_)
    rw [if_neg (by rw [hne]; exact Bool.false_ne_true)]
    refine seg_bind_wrap (wpAny_holding ?_)
    rw [over_func]
    refine wpAny_mono hit (fun u s4 hu => ?_) fun x s' hx => (show False from hx).elim
    obtain ⟨it, H', ys, St, rfl, I4, q1, q2, q3, q4, q5, q6, q7, rfl, hQ⟩ := hu
    refine seg_call fun p => ?_
    have q1' : s.heap.objs.size ≤ it := q1.resolve_left (fun z => by cases z)
    have c4 : Cn P w outer H H' s ws s1.heap.objs.size go s4 := ⟨I4.os, I4.bare, I4.base, I4.hok, I4.nolimit, (I4.pin (s1.heap.objs.size, go) (List.mem_append_left _ (List.mem_singleton.mpr rfl))).1, fun b hb => by
      obtain ⟨o, e, _⟩ := hwo b hb
      exact (I4.pin (b, o) (List.mem_append_right _ (mem_pinsAt hb e))).2.1⟩
    have hitw : it ∉ ws := fun hm => by
      obtain ⟨o, e, _⟩ := hwo it hm
      exact q5 (it, o) (List.mem_append_right _ (mem_pinsAt hm e)) rfl
    have hita : it ≠ s1.heap.objs.size := fun z => q5 (s1.heap.objs.size, go) (List.mem_append_left _ (List.mem_singleton.mpr rfl)) z.symm
    refine seg_yg (X := (gcxOf P w K mg base N qual scope f cdv Aw outer s H (fun _ _ _ => False) [(s1.heap.objs.size, go)]).nox) (outer := outer) (H := H) (sc := s) (ws := ws) (a := s1.heap.objs.size) (go := go) (Q := Q) q7 hQ (fun b hb => ⟨Nat.le_trans (Nat.le_of_lt lt1) (Nat.le_of_lt (hws' b hb)), Nat.ne_of_gt (Nat.lt_of_lt_of_le hcs (Nat.le_trans (Nat.le_of_lt lt1) (Nat.le_of_lt (hws' b hb)))), Nat.ne_of_gt (hws' b hb)⟩)
      q1' q4 (Nat.ne_of_gt (Nat.lt_of_lt_of_le hcs q1')) hita hitw ?_ rfl rfl (fun s₀ s' c k0 => ?_) ys.length t s4 (Nat.le_refl _) c4 (fun b hb o e => (I4.pin (b, o) (List.mem_append_right _ (mem_pinsAt hb e))).1) (by rw [Nat.sub_self]; exact q6)
    · show (Aw.over (.func [.Expr (.YieldFrom e yp) pos] (envOfC qual scope s.heap.objs.size f cdv)) []).handled = none
      rw [over_func]
      exact hrw.hd
    · have fin : Seg (model P w) Aw (YEnd P w outer H s ws s1.heap.objs.size go Q) (YItm P w outer H s ws s1.heap.objs.size go ys Q) 0 s₀ (.func [.Expr (.YieldFrom e yp) pos] (envOfC qual scope s.heap.objs.size f cdv)) (leafOf (.ok (.ret .none))) [] s' :=
        seg_end (.ok (.ret .none)) ⟨.inl rfl, rfl, H', c, hQ, k0⟩
      exact seg_leaf (.ok (.ret .none)) fin
  exact main _ _ _ _ rfl rfl rfl fun h => Heap.get?_push_size _ rfl
end
end BJ

/-! [x for x in g] where g is such a generator -/
namespace BJ
open PySem PySem.Spec PyProof.Rows L2 Evl GenW
open PySem.W (Frag)
/-- an expression whose value is such a generator, not begun -/
abbrev TYx := L2.St → Hp → (List V → Hp → Prop) → Prop
structure PY (X : Cx) (k : Nat) (e : Expr) (ty : TYx) : Prop where
  run : ∀ (pins : List (Addr × Obj)) (s : Shared) (σ : L2.St) (H : Hp) (cont : List V → Hp → Prop), Inv X pins σ H s → ty σ H cont → wpAny (model X.prog X.w) X.A (eval e X.env)
    (fun u s1 => ∃ sc H1 xs, Inv X pins σ H1 sc ∧ YMade X.prog X.w k X.stack H1 sc xs (cont xs) u s1) X.xe s
def tLcY (ty : TYx) : TE := fun σ H Q => ty σ H fun xs H1 => xs.length ≤ sizeLine ∧ ∀ D, H1 D = none → sysModules < D → Q (.ref D) (upd H1 D (.lst xs))
section
variable {X : Cx} {k : Nat} {iter : Expr} {ty : TYx} {x : Str} {p1 p2 pos : Pos} {scope : Scope}
theorem pe_lcY (hc : X.calm = true) (h : PY X k iter ty) (hr : Room (k + 1) X.A) (hk : scope.kind = .function) (hn : scope.names = [((".0" : Str), NameKind.local), (x, NameKind.local)]) (hx0 : (x == (".0" : Str)) = false := by decide) (hd : (x == ("__debug__" : Str)) = false := by decide)
    (hs : ∀ y, foldedSetIterable iter X.env y = pure y := by intro _; rfl) : PE X (.ListComp (.Name x p1) [⟨.Name x p2, iter, [], 0⟩] scope pos) (tLcY ty) := by
  refine ⟨fun pins s σ H Q I hq => ?_⟩
  have lk0 : scope.names.lookup (".0" : Str) = some .local := by rw [hn]; rfl
  have lkx : scope.names.lookup x = some .local := by rw [hn, List.lookup_cons, hx0, List.lookup_cons_self]
  refine wpAny_ListComp (fun y hy => ?_) hk (fun y hy e => ?_) (thn (h.run pins s σ H _ I hq) fun u s1 hu => ?_) hs
  · rw [hn] at hy
    simp only [List.mem_cons, List.not_mem_nil, or_false] at hy
    rcases hy with rfl | rfl <;> exact fun z => nomatch z
  · rw [hn] at hy
    simp only [List.mem_cons, List.not_mem_nil, or_false] at hy
    rcases hy with rfl | rfl
    · exact lk0
    · exact lkx
  obtain ⟨sc, H1, xs, Ic, a, g, c, go, rfl, ha1, ha2, hgo, hgen, hgs, hos, hb, hl, hkp, wake⟩ := hu
  refine wpAny_pyIter_gen (hgen _ hgo) ?_
  refine wpAny_newObj_type (newEnv_comp ?_) (by show 0 ≤ sizeLine; decide)
  have hcs : cStatics < s1.heap.objs.size := by
    obtain ⟨mc, hns, _⟩ := hl
    exact hns.lt
  have hsz : sc.heap.objs.size ≤ s1.heap.objs.size := Nat.le_of_lt (Nat.lt_of_le_of_lt ha1 ha2)
  generalize hD : s1.heap.objs.size = D at *
  have zC : (s1.heap.push ({ cls := .type "list", data := .seq ([] : List Value).toArray } : Obj)).objs.size = D + 1 := by rw [Heap.size_push, hD]
  have ec : ∀ (n : Nat), cellsFrom n scope.names [] = [] := fun n => by rw [hn]; rfl
  have pc : ∀ hh : Heap, pushCells hh scope.names = hh := fun hh => by rw [hn]; rfl
  show codeAny _ _ (.compStart _ 0 (.ref a) (.ref D) { newEnv scope (s1.heap.push ({ cls := .type "list", data := .seq ([] : List Value).toArray } : Obj)).objs.size X.env.globals (cellsFrom ((s1.heap.push ({ cls := .type "list", data := .seq ([] : List Value).toArray } : Obj)).objs.size + 1) scope.names []) X.env.qual none .none (some X.env) builtinsNs with scope := scope }) _
    { s1 with heap := pushCells ((s1.heap.push ({ cls := .type "list", data := .seq ([] : List Value).toArray } : Obj)).push { cls := .type "dict", data := .dict #[] }) scope.names }
  rw [zC, ec, pc]
  generalize hce : ({ newEnv scope (D + 1) X.env.globals [] X.env.qual none .none (some X.env) builtinsNs with scope := scope } : Env) = ce
  have cL : ce.locals = D + 1 := by rw [← hce]; rfl
  have csc : ce.scope = scope := by rw [← hce]
  have hko : ce.kindOf x = some .local := by
    unfold Env.kindOf
    rw [csc]
    exact lkx
  generalize hh4 : (s1.heap.push ({ cls := .type "list", data := .seq ([] : List Value).toArray } : Obj)).push { cls := .type "dict", data := .dict #[] } = h4
  have k4 : ∀ b o, s1.heap.get? b = some o → h4.get? b = some o := fun b o e => by rw [← hh4]; exact Heap.get?_push_of_some _ (Heap.get?_push_of_some _ e)
  have gD : h4.get? D = some (lstObj #[] 0) := by
    rw [← hh4, ← hD]
    exact Heap.get?_push_of_some _ (Heap.get?_push_size _ rfl)
  have gC : h4.get? (D + 1) = some { cls := .type "dict", data := .dict #[] } := by
    rw [← hh4, ← zC]
    exact Heap.get?_push_size _ rfl
  have nC : h4.Ns (D + 1) (fun _ => none) := ⟨_, #[], _, gC, rfl, fun e he => absurd he (by simp), fun _ => rfl⟩
  have hcalm : X.A.handled = none := I.ok.hd hc
  -- the run's end, its steps
  have Dne : D ≠ cStatics := Nat.ne_of_gt hcs
  have Cne : D + 1 ≠ cStatics := Nat.ne_of_gt (Nat.lt_succ_of_lt hcs)
  have aD : a ≠ D := Nat.ne_of_lt ha2
  have aC : a ≠ D + 1 := Nat.ne_of_lt (Nat.lt_succ_of_lt ha2)
  let F : Nat → Shared → Shared → Prop := fun n s₀ s => n = 0 ∧ ∃ H', Cn X.prog X.w X.stack H1 H' sc [D, D + 1] a go s ∧ (xs.length ≤ sizeLine ∧ ∀ D, H' D = none → sysModules < D → Q (.ref D) (upd H' D (.lst xs))) ∧ ∀ b ∈ [D, D + 1], ∀ o, s₀.heap.get? b = some o → s.heap.get? b = some o
  let R' : GenEnd := fun n s₀ r s => ((r = .ok (.ret .none) ∨ r = .ok .next) ∧ F n s₀ s) ∨ ∃ e, r = .error e ∧ False
  let Y' : Protocol := YItm X.prog X.w X.stack H1 sc [D, D + 1] a go xs fun H' => xs.length ≤ sizeLine ∧ ∀ D, H' D = none → sysModules < D → Q (.ref D) (upd H' D (.lst xs))
  have wf : ∀ b ∈ [D, D + 1], sc.heap.objs.size ≤ b ∧ b ≠ cStatics ∧ b ≠ a := fun b hb => by
    simp only [List.mem_cons, List.not_mem_nil, or_false] at hb
    rcases hb with rfl | rfl
    · exact ⟨hsz, Dne, aD.symm⟩
    · exact ⟨Nat.le_succ_of_le hsz, Cne, aC.symm⟩
  let LI : Nat → Shared → Prop := fun n t => n ≤ xs.length ∧ ∃ (acc : Array Value) (cc : Nat) (m : Str → Option Value) (gs : GenState), t.heap.get? D = some (lstObj acc cc) ∧ Vals (xs.take (xs.length - n)) acc.toList ∧ t.heap.Ns (D + 1) m ∧ t.heap.get? a = some go ∧ t.heap.NoLimit ∧
    t.gens[g]? = some gs ∧ gs.Goes (model X.prog X.w) X.A.in1 R' Y' n (.send .none) (t.setGen g .running)
  have gsz : g < s1.gens.size := (Array.getElem?_eq_some_iff.mp hgs).1
  have start : LI xs.length { s1 with heap := h4 } := by
    refine ⟨Nat.le_refl _, #[], 0, _, _, gD, by rw [Nat.sub_self]; exact .nil, nC, k4 _ _ hgo, hl.keeps k4, hgs, rfl, ?_⟩
    have w0 := wake X.A.in1 [D, D + 1] ({ s1 with heap := h4 }.setGen g .running) hr.in1 (show X.A.in1.frames = some X.stack from I.ok.frames) (fun b hb => ?_) k4 (fun b hb => ?_) hos (allBare_setGen (s := { s1 with heap := h4 }) hb rfl)
    · exact seg_imp (fun n s₀ r s hR => .inl ⟨hR.1, hR.2.1, hR.2.2⟩) (fun n s₀ v s kap kap' hkk hY => by
        obtain ⟨x, H', y1, y2, y3, y4, y5, y6, y7⟩ := hY
        exact ⟨x, H', y1, y2, y3, y4, y5, y6, fun t z => hkk _ _ (y7 t z)⟩) _ w0
    · simp only [List.mem_cons, List.not_mem_nil, or_false] at hb
      rcases hb with rfl | rfl
      · exact Nat.le_refl _
      · exact Nat.le_succ _
    · simp only [List.mem_cons, List.not_mem_nil, or_false] at hb
      rcases hb with rfl | rfl
      · exact ⟨_, gD, fun v z => nomatch z⟩
      · exact ⟨_, gC, fun v z => nomatch z⟩
  have loop : codeAny (model X.prog X.w) X.A (.compLoop (.ListComp (.Name x p1) [⟨.Name x p2, iter, [], 0⟩] scope pos) 0 (.ref a) (.ref D) ce) (fun r s' => ∃ m, s'.heap.Ns (D + 1) m ∧ ∀ h', Heap.SameBut (D + 1) s'.heap h' →
      match r with | .ok _ => EP X pins σ Q (.ref D) { s' with heap := h' } | .error x => wpAny (model X.prog X.w) X.A (passOn "comprehension.variables-let-go" x ce) (EP X pins σ Q) X.xe { s' with heap := h' }) { s1 with heap := h4 } := by
    refine compLoop_any LI ?_ xs.length start
    rintro n t ⟨hnl, acc, cc, m, gs, tD, tV, tN, ta, tl, tg, tgo⟩
    have tsz := (Array.getElem?_eq_some_iff.mp tg).1
    have mD : D ∈ [D, D + 1] := List.mem_cons_self
    have mC : D + 1 ∈ [D, D + 1] := List.mem_cons_of_mem _ List.mem_cons_self
    refine wpAny_gsz (n := g + 1) tsz (next_genG (F := F) (Er := fun _ _ => False) (Y := Y') hcalm tl hr.depth (hgen _ ta) tg tgo (fun v s₁ gs' hbare hY => ?_) (fun s₁ hF h' hk' => ?_) fun e s₁ he => he.elim)
    · intro hsz2
      obtain ⟨y, H', y1, y2, y3, y4, y5, y6, y7⟩ := hY
      cases n with
      | zero => exact (show False from y7 s₁ ⟨rfl, y4.bare, fun _ _ _ e => e⟩).elim
      | succ n =>
        have e1 : xs.length - (n + 1 - 1 + 1) = xs.length - (n + 1) := by omega
        rw [e1] at y1
        have gD1 : s₁.heap.get? D = some (lstObj acc cc) := y6 D mD _ tD
        have nC1 : s₁.heap.Ns (D + 1) m := by
          obtain ⟨o, es, ep, ho, r⟩ := tN
          exact ⟨o, es, ep, y6 (D + 1) mC _ ho, r⟩
        have al : acc.size = xs.length - (n + 1) := by
          have q1 := tV.length
          rw [List.length_take] at q1
          have q2 : acc.toList.length = acc.size := by simp
          omega
        refine wpAny_pure ?_
        refine wpAny_assign_Name (wpAny_storeName_local hko (m := m) (by rw [cL]; exact nC1) (fun h' hn' sb => ?_) (by rw [csc, hk]; rfl))
        rw [cL] at hn' sb
        refine wpAny_tests_nil ?_
        rw [if_pos rfl]
        refine wpAny_Name (wpAny_loadName_local (m := fun z => if z = x then some v else m z) (v := v) (by rw [csc]; exact hk) hko (by rw [cL]; exact hn') (if_pos rfl) ?_) hd
        have gD2 : h'.get? D = some (lstObj acc cc) := (sb.2 D (Nat.ne_of_lt (Nat.lt_succ_self _))).trans gD1
        refine append_at (hsz := by have := y5.1; omega) gD2 fun h2 sb2 hD2 => ⟨n, Nat.lt_succ_self _, ?_⟩
        have g1 : g < s₁.gens.size := by
          have q := setGen_size s₁ g gs'
          have q2 : g + 1 ≤ (s₁.setGen g gs').gens.size := hsz2
          omega
        have keep : ∀ b o, b ∉ [D, D + 1] → s₁.heap.get? b = some o → h2.get? b = some o := fun b o hb e => by
          have b1 : b ≠ D := fun z => hb (z ▸ mD)
          have b2 : b ≠ D + 1 := fun z => hb (z ▸ mC)
          exact (sb2.2 b b1).trans ((sb.2 b b2).trans e)
        have aw : a ∉ [D, D + 1] := fun hm => (wf a hm).2.2 rfl
        have etk : xs.take (xs.length - n) = xs.take (xs.length - (n + 1)) ++ [y] := by
          rw [show xs.length - n = xs.length - (n + 1) + 1 by omega, List.take_add_one, y1]
          rfl
        refine ⟨Nat.le_of_succ_le hnl, acc.push v, cc + 1, _, gs', hD2, ?_, hn'.sameBut sb2 (Nat.ne_of_gt (Nat.lt_succ_self _)), keep a go aw y4.gen, ?_, setGen_at g1, ?_⟩
        · rw [etk, Array.toList_push]
          exact tV.append (.cons y2 .nil)
        · obtain ⟨mc, hns, hnn⟩ := y4.lim
          exact ⟨mc, hns.at' fun o e => keep _ o (fun hm => (wf _ hm).2.1 rfl) e, hnn⟩
        · exact y7 _ ⟨rfl, allBare_setGen (allBare_setGen y4.bare hbare) rfl, keep⟩
    · intro hsz2
      obtain ⟨hn0, H', c', ⟨hl1, hq'⟩, same⟩ := hF
      subst hn0
      rw [Nat.sub_zero, List.take_length] at tV
      have gD1 : s₁.heap.get? D = some (lstObj acc cc) := same D mD _ tD
      refine ⟨m, ?_, fun h2 sb => ?_⟩
      · obtain ⟨o, es, ep, ho, r⟩ := tN
        exact ⟨o, es, ep, hk' _ _ (same (D + 1) mC _ ho), r⟩
      have gD2 : h2.get? D = some (lstObj acc cc) := (sb.2 D (Nat.ne_of_lt (Nat.lt_succ_self _))).trans (hk' _ _ gD1)
      have c2 := c'.step (t := { s₁.setGen g .finished with heap := h2 }) (ch := [D + 1]) rfl (allBare_setGen c'.bare rfl) (fun b o hb e => (sb.2 b (fun z => hb (by rw [z]; exact List.mem_singleton.mpr rfl))).trans (hk' _ _ e)) (fun b hb => by
        rw [List.mem_singleton.mp hb]
        exact ⟨(wf _ mC).1, c'.off _ mC, (wf _ mC).2.1, (wf _ mC).2.2⟩)
      exact ⟨.ref D, _, Inv.drained Ic hsz hl1 gD2 tV ExOk.nil c2.os c2.bare c2.un c2.hok (c2.off D mD), rfl, hq' D (c2.off D mD) (Nat.lt_of_lt_of_le Ic.big hsz)⟩
  exact codeAny_compStart_list loop (wpAny_pyIter_gen (hgen _ (k4 _ _ hgo)) loop)
end
end BJ

/-! «yield from» a list; o.m() of a generator method -/
namespace BJ
open PySem PySem.Spec PyProof.Rows L2 Evl GenW
open PySem.W (Frag)
section
variable {prog : Program} {w : World} {A : Around} {E : Value → Shared → Prop} {s : Shared}
theorem lit_item {it l : Addr} {i : Nat} {items : Array Value} {x : Value} {Q : Option Value → Shared → Prop} (hit : s.heap.IsListIter it l i) (ht : s.heap.IsList l items) (hx : items[i]? = some x)
    (hQ : ∀ h', h'.IsListIter it l (i + 1) → Heap.SameBut it s.heap h' → Q (some x) { s with heap := h' }) : wpAny (model prog w) A (callSpecial? (.ref it) "__next__") Q E s := by
  obtain ⟨o, ho, hc, hd⟩ := id hit
  obtain ⟨ol, hol, _, nl, hdl⟩ := ht
  refine wpAny_callSpecial?_slot (name := Str.ofString "__next__") hit.typeIs slot_listiter_next (wpAny_call_entry slot_listiter_next hit.typeIs entry_listiter_next ?_ (args_listiter_next _)); show wpAny _ _ (field (.ref it) 0 >>= _) _ _ s
  refine wpAny_bind (wpAny_field ho hd (x := .ref l) rfl ?_); show wpAny _ _ (if (Value.ref l == Value.none) = true then _ else _) _ _ s
  rw [if_neg (show ¬ ((Value.ref l == Value.none) = true) from Bool.false_ne_true)]; show wpAny _ _ (field (.ref it) 1 >>= _) _ _ s
  refine wpAny_bind (wpAny_field ho hd (x := .int i 0) rfl ?_); show wpAny _ _ (seqItems? (.ref l) >>= _) _ _ s
  refine wpAny_bind (wpAny_seqItems hol hdl ?_); simp only [Int.toNat_natCast, hx]
  refine wpAny_bind (wpAny_setField ho hd (by simp) (wpAny_pure ⟨x, rfl, hQ _ ⟨_, Heap.get?_update_self _ ho (Obj.isFreed_of_fields (Obj.data_mapFields hd _)), (Obj.cls_mapFields ..).trans hc, by rw [Obj.data_mapFields hd]; simp [rawInt]⟩ (Heap.SameBut.update ..)⟩))
theorem lit_end {it l : Addr} {i : Nat} {items : Array Value} {Q : Option Value → Shared → Prop} (hh : A.handled = none) (hit : s.heap.IsListIter it l i) (ht : s.heap.IsList l items) (hx : items[i]? = none)
    (hE : ∀ e h', StopX e h' → Heap.ExtBut it s.heap h' → E e { s with heap := h' }) : wpAny (model prog w) A (callSpecial? (.ref it) "__next__") Q E s := by
  obtain ⟨o, ho, hc, hd⟩ := id hit
  obtain ⟨ol, hol, _, nl, hdl⟩ := ht
  refine wpAny_callSpecial?_slot (name := Str.ofString "__next__") hit.typeIs slot_listiter_next (wpAny_call_entry slot_listiter_next hit.typeIs entry_listiter_next ?_ (args_listiter_next _)); show wpAny _ _ (field (.ref it) 0 >>= _) _ _ s
  refine wpAny_bind (wpAny_field ho hd (x := .ref l) rfl ?_); show wpAny _ _ (if (Value.ref l == Value.none) = true then _ else _) _ _ s
  rw [if_neg (show ¬ ((Value.ref l == Value.none) = true) from Bool.false_ne_true)]; show wpAny _ _ (field (.ref it) 1 >>= _) _ _ s
  refine wpAny_bind (wpAny_field ho hd (x := .int i 0) rfl ?_); show wpAny _ _ (seqItems? (.ref l) >>= _) _ _ s
  refine wpAny_bind (wpAny_seqItems hol hdl ?_); simp only [Int.toNat_natCast, hx]
  refine wpAny_bind (wpAny_rule (wpAny_bind (wpAny_setField ho hd (by simp) ?_))); show wpAny _ _ (newExc (.type "StopIteration") [] >>= _) _ _ _
  refine wpAny_bind ?_; simp only [newExc, newTuple]; refine wpAny_bind (wpAny_newObj_type ?_ (by size_fits))
  refine wpAny_bind (m := firstArgMember _ _) (wpAny_of_eq (a := Value.none) (by first | rfl | (simp only [firstArgMember]; rfl)) ?_); refine wpAny_newObj_type ?_ (by size_fits)
  simp only [raiseNew]; refine wpAny_bind (wpAny_handled ?_); first | rw [show A.in1.handled = none from hh] | rw [hh]
  refine wpAny_bind (wpAny_pure (wpAny_throw ?_)); refine hE _ _ ⟨_, _, _, rfl, Heap.get?_push_size _ rfl, rfl, rfl, ?_⟩ (((Heap.SameBut.update ..).extBut.push _).push _)
  first | rfl | (rw [Array.getElem?_append_left (by decide)]; rfl) | kernel_rfl
end
theorem close_lst : typeLookup (.type "list_iterator") "close" = pure none := by rw [typeLookup_type, builtinLookup_eq_fast]; kernel_rfl
section
variable {X : Cx} {e o : Expr} {te ta : TE} {m : Str} {apos pos : Pos} {k : Nat} {pl : Sem Bool}
def tYfLst (te : TE) : TYf := fun σ H Q => te σ H fun x H1 => ∃ a xs, x = .ref a ∧ H1 a = some (.lst xs) ∧ Q xs H1
theorem yf_lst (he : PE X e te) : YfE X e (tYfLst te) := by
  refine ⟨fun pins s σ H Q I h => ?_⟩
  refine thn (he.run pins s σ H _ I h) fun v s1 ⟨x, H1, I1, r1, a, xs, ex, ha, hq⟩ => ?_
  subst ex
  obtain rfl : v = Value.ref a := r1
  obtain ⟨hlen, its, nn, rits, hea⟩ := I1.hok a _ ha
  have ht : s1.heap.IsList a its.toArray := ⟨_, hea, rfl, nn, rfl⟩
  refine ⟨"list", ht.typeIs, by decide, wpAny_pyIter_list ht ?_⟩
  have ksz : ∀ b o, s1.heap.get? b = some o → b ≠ s1.heap.objs.size := fun b o e => Nat.ne_of_lt (Heap.lt_size e)
  have kp : ∀ b o, s1.heap.get? b = some o → (s1.heap.push { cls := .type "list_iterator", data := .fields #[.ref a, .int 0 0] }).get? b = some o := fun b o e => Heap.get?_push_of_some _ e
  refine ⟨s1.heap.objs.size, H1, xs, fun j h => h.IsListIter s1.heap.objs.size a j ∧ h.get? a = some { cls := .type "list", data := .seq its.toArray nn }, rfl, I1.kept (t' := s1.toks) kp, .inr I1.sz, Nat.ne_of_gt I1.lt, fun y c hy => ?_, I1.hok.fresh (Nat.le_refl _), fun p hp => ?_,
    ⟨⟨_, Heap.get?_push_size _ rfl, rfl, rfl⟩, kp _ _ hea⟩, ⟨⟨"list_iterator", fun j h q => ?_, close_lst, by decide⟩, fun j h h' q hk => ?_, fun A' j x s2 Q' E' hA hx q hQ => ?_, fun A' s2 Q' E' hA q hE => ?_⟩, hq⟩
  · obtain ⟨v, o, ho, _⟩ := I1.cell y c hy
    exact ksz c o ho
  · exact ksz p.1 _ (I1.pin p hp).1
  · obtain ⟨⟨o, ho, hc, _⟩, _⟩ := q
    exact ⟨o, ho, hc⟩
  · obtain ⟨⟨o, ho, r⟩, q2⟩ := q
    exact ⟨⟨o, hk _ o (.inl rfl) ho, r⟩, hk _ _ (.inr (by rw [ha]; exact fun z => nomatch z)) q2⟩
  · obtain ⟨q1, q2⟩ := q
    obtain ⟨u, hu, ru⟩ := rits.get hx
    have hne : a ≠ s1.heap.objs.size := Nat.ne_of_lt (Heap.lt_size hea)
    exact lit_item q1 ⟨_, q2, rfl, nn, rfl⟩ (x := u) (by simpa using hu) fun h' q1' hs => hQ u h' s2.toks ru ⟨q1', (hs.2 a hne).trans q2⟩ fun b o hb eb => hs.extBut b o hb eb
  · obtain ⟨q1, q2⟩ := q
    have hnone : its.toArray[xs.length]? = none := by
      have e := rits.length
      have e2 : its[xs.length]? = none := List.getElem?_eq_none_iff.mpr (by omega)
      simpa using e2
    exact lit_end hA q1 ⟨_, q2, rfl, nn, rfl⟩ hnone fun e h' hS hk => hE e h' s2.toks hS fun b o hb eb => hk b o hb eb
/-- o.m(), m a generator method; the receiver's class is told by the reading -/
def tYMe (X : Cx) (m : Str) (k : Nat) (ta : TE) : TYx := fun σ H cont => ta σ H fun x H1 => ∃ (a C dx g : Addr) (fs : List (Str × V)) (sp : SpY) (xs : List V), x = .ref a ∧ H1 a = some (.ins C dx fs) ∧ fs.lookup m = none ∧ Cls X.K C ∧ Meth X.K C m g ∧
  YFn X.prog X.w X.K X.mg X.base k g sp ∧ sp [x] H1 xs (cont xs)
theorem py_me0 (he : PE X o ta) (hr : Room k X.A)
    (ht : eval (.Call (.Attribute o m apos) [] [] pos) X.env = (do
      let ov ← eval o X.env
      standAt apos.atName
      let (f, first) ← holding [ov] (getMethod ov m pl)
      callWith pos f first (backTo pos (starEach [] X.env)) (backToKw pos (keywordEach [] X.env))) := by rfl) : PY X k (.Call (.Attribute o m apos) [] [] pos) (tYMe X m k ta) := by
  refine ⟨fun pins s σ H cont I h => ?_⟩
  refine PySem.W.methodCall_KW (pl := pl) (thn (he.run pins s σ H _ I h) fun u s1 ⟨x, H1, I1, rx, a, C, dx, g, fs, sp, xs, ex, ea, l, c, hm, F, q⟩ => ?_) ht
  subst ex
  obtain rfl : u = Value.ref a := rx
  refine getmeth_ok I1 ea c hm l (PySem.W.callWith_K0 (first := [.ref a]) I1.kIn hm.kp (wpAny_call (codeAny_mono (F X.A X.stack s1 H1 [.ref a] [.ref a] xs (cont xs) hr I1.env0 (.cons rfl .nil) q) fun r s' hq => ?_)))
  match r, hq with
  | .ok (.ret u), hq => exact ⟨s1, H1, xs, I1, hq⟩
end
end BJ

/-! defs with one default, with a star, generator defs of one yield from, as they stand in the text -/
namespace BJ
open PySem PySem.Spec PyProof.Rows L2 Evl GenW StX
open PySem.W (Frag)
/-- def m(self, q=dv) -/
structure DefD (K : Frag) (x qual : Str) (st : Stmt) (f : Addr) (p q : Str) (dv : V) : Prop where
  ex : ∃ (oc : Value) (od : Option Addr) (T : Addr) (kV doc pm : Value) (an : Option Addr) (cdv ct : Value) (osl : Array (Option Value)) (o : Obj) (d : Value) (n : Nat),
    K.lookup f = some ⟨oc, od, .func (PySem.W.fnOf x qual (defArgs st) (defBody st) (defScope st) (.ref T) kV doc pm an cdv ct), osl⟩ ∧ PySem.W.codeIn K cdv qual = true ∧ K.lookup T = some o ∧ o.data = .seq #[d] n ∧ RelV dv d ∧
    (∀ u v z : Value, ∃ k, bindArgs (PySem.W.fnOf x qual (defArgs st) (defBody st) (defScope st) (.ref T) kV doc pm an cdv ct) ⟨[u, v], []⟩ = seqItems? (.ref T) >>= k ∧ k (some #[z]) = pure [(p, u), (q, v)]) ∧
    (∀ u v z : Value, ∃ k, bindArgs (PySem.W.fnOf x qual (defArgs st) (defBody st) (defScope st) (.ref T) kV doc pm an cdv ct) ⟨[u], [(q, v)]⟩ = seqItems? (.ref T) >>= k ∧ k (some #[z]) = pure [(p, u), (q, v)]) ∧
    (∀ u v : Value, ∃ k, bindArgs (PySem.W.fnOf x qual (defArgs st) (defBody st) (defScope st) (.ref T) kV doc pm an cdv ct) ⟨[u], []⟩ = seqItems? (.ref T) >>= k ∧ k (some #[v]) = pure [(p, u), (q, v)])
/-- def m(self, .., *pv) -/
structure DefS (K : Frag) (x qual : Str) (st : Stmt) (f : Addr) (ps : List Str) (pv : Str) : Prop where
  ex : ∃ (oc : Value) (od : Option Addr) (dV kV doc pm : Value) (an : Option Addr) (cdv ct : Value) (osl : Array (Option Value)),
    K.lookup f = some ⟨oc, od, .func (PySem.W.fnOf x qual (defArgs st) (defBody st) (defScope st) dV kV doc pm an cdv ct), osl⟩ ∧ PySem.W.codeIn K cdv qual = true ∧
    (∀ us rest : List Value, us.length = ps.length → bindArgs (PySem.W.fnOf x qual (defArgs st) (defBody st) (defScope st) dV kV doc pm an cdv ct) ⟨us ++ rest, []⟩ = (newTuple rest >>= fun t => pure (ps.zip us ++ [(pv, t)])))
section
variable {P : Program} {w : World} {K : Frag} {mg : Str → Option Value} {base : Heap} {x qual : Str} {st : Stmt} {f : Addr} {p q : Str} {dv : V} {N : List Str} {k : Nat} {sp : Sp}
/-- the three ways it is called -/
theorem DefD.ok (D : DefD K x qual st f p q dv) (S : FnScope N [p, q] (defScope st)) (len : ∀ vs H Q E, sp vs H Q E → vs.length = [p, q].length)
    (hbody : ∀ (cdv : Value) (A : Around) (outer : List Env) (s : Shared) (H : Hp) (vs : List V) (Q : VK) (E : XK),
      Room k (A.deeper (envOfC qual (defScope st) s.heap.objs.size f cdv)) → sp vs H Q E →
      ∃ t, PSs (cxOf (L2.CX P w) P w K mg base N qual (defScope st) f cdv A outer s H E) (defBody st) t ∧ t { nx := fun _ H' => Q .non H', rt := Q } (start N vs) H) :
    (CallX P w K mg base (k + 1) (.ref f) [] fun vs zs H Q E => vs.length = 2 ∧ zs.length = 0 ∧ sp vs H Q E) ∧
    (CallX P w K mg base (k + 1) (.ref f) [q] fun vs zs H Q E => vs.length = 1 ∧ zs.length = 1 ∧ sp (vs ++ zs) H Q E) ∧
    (CallX P w K mg base (k + 1) (.ref f) [] fun vs zs H Q E => vs.length = 1 ∧ zs.length = 0 ∧ sp (vs ++ [dv]) H Q E) := by
  obtain ⟨oc, od, T, kV, doc, pm, an, cdv, ct, osl, o, d, n, lk, hcd, lT, oT, rd, b2, b1k, b1⟩ := D.ex
  have F : FnOk P w K mg base (L2.CX P w) (k + 1) f _ [p, q] sp := fn_of lk hcd S len fun A outer s H vs Q E hr hsp => hbody cdv A outer s H vs Q E hr hsp
  refine ⟨(callX_of F (n := 2) (g := fun us ws => us) (gV := fun vs zs => vs) ⟨fun s us ws X hu hw => ?_, fun r _ => r⟩), (callX_of F (n := 1) (g := fun us ws => us ++ ws) (gV := fun vs zs => vs ++ zs) ⟨fun s us ws X hu hw => ?_, fun r r2 => r.append r2⟩),
    (callX_of F (n := 1) (g := fun us ws => us ++ [d]) (gV := fun vs zs => vs ++ [dv]) ⟨fun s us ws X hu hw => ?_, fun r _ => r.append (.cons rd .nil)⟩)⟩
  · match us, ws, hu, hw with
    | [u, v], [], _, _ =>
      obtain ⟨k, e1, e2⟩ := b2 u v d
      refine BindsTo.of_looks fun M => ?_
      show PySem.W.Looks M s.heap (bindArgs _ ⟨[u, v], []⟩) _
      rw [e1]
      exact looks_items X lT oT (.of_pure e2)
  · match us, ws, hu, hw with
    | [u], [v], _, _ =>
      obtain ⟨k, e1, e2⟩ := b1k u v d
      refine BindsTo.of_looks fun M => ?_
      show PySem.W.Looks M s.heap (bindArgs _ ⟨[u], [(q, v)]⟩) _
      rw [e1]
      exact looks_items X lT oT (.of_pure e2)
  · match us, ws, hu, hw with
    | [u], [], _, _ =>
      obtain ⟨k, e1, e2⟩ := b1 u d
      refine BindsTo.of_looks fun M => ?_
      show PySem.W.Looks M s.heap (bindArgs _ ⟨[u], []⟩) _
      rw [e1]
      exact looks_items X lT oT (.of_pure e2)
theorem DefS.ok {ps : List Str} {pv : Str} (D : DefS K x qual st f ps pv) (S : FnScope N (ps ++ [pv]) (defScope st))
    (hbody : ∀ (cdv : Value) (A : Around) (outer : List Env) (s : Shared) (H : Hp) (vs : List V) (Q : VK) (E : XK),
      Room k (A.deeper (envOfC qual (defScope st) s.heap.objs.size f cdv)) → sp vs H Q E →
      ∃ t, PSs (cxOf (L2.CX P w) P w K mg base N qual (defScope st) f cdv A outer s H E) (defBody st) t ∧ t { nx := fun _ H' => Q .non H', rt := Q } (start N vs) H) :
    BJ.CallO P w K mg base (k + 1) (.ref f) fun vs H Q E => ∃ ws rest, vs = ws ++ rest ∧ ws.length = ps.length ∧ rest.length ≤ sizeLine ∧ ∀ p, H p = Option.none → sp (ws ++ [V.ref p]) (upd H p (.tup rest)) Q E := by
  obtain ⟨oc, od, dV, kV, doc, pm, an, cdv, ct, osl, lk, hcd, hb⟩ := D.ex
  exact fn_star lk hcd S cxUp hb fun A outer s H vs Q E hr hsp => hbody cdv A outer s H vs Q E hr hsp
/-- a generator def whose body is one yield from -/
theorem DefAt.okY {e : Expr} {yp pos : Pos} {ps : List Str} {sp : SpY} (D : DefAt K x qual st f ps) (S : GScope N ps (defScope st)) (hi : ∀ n c, interactive (envOfC qual (defScope st) n f c) = false) (hbo : defBody st = [.Expr (.YieldFrom e yp) pos]) (len : ∀ vs H xs Q, sp vs H xs Q → vs.length = ps.length)
    (hbody : ∀ (cdv : Value) (A : Around) (outer : List Env) (s : Shared) (H : Hp) (vs xs : List V) (Q : Hp → Prop) (pn : List (Addr × Obj)), Room k (A.deeper (envOfC qual (defScope st) s.heap.objs.size f cdv)) → sp vs H xs Q →
      ∃ t, YfE (gcxOf P w K mg base N qual (defScope st) f cdv A outer s H (fun _ _ _ => False) pn).nox e t ∧ t (L2.start N vs) H fun ys H' => ys = xs ∧ Q H') : YFn P w K mg base (k + 1) f sp := by
  obtain ⟨fd, F, hb⟩ := D.fn
  obtain ⟨oc, od, kV, doc, pm, an, cdv, ct, osl, rfl, lk, hcd⟩ := F.ex
  exact yfn_of lk hbo hcd S (fun n => hi n cdv) hb len fun A outer s H vs xs Q pn hr hsp => hbody cdv A outer s H vs xs Q pn hr hsp
end
end BJ

/-! == of two instances of one class without an __eq__ of its own -/
namespace BJ
open PySem PySem.Spec PyProof.Rows PySem.SeqAt
open PySem.W (Frag)
section
variable {prog : Program} {w : World} {A : Around} {E : Value → Shared → Prop} {s : Shared} {K : PySem.W.Frag} {x y C : Addr} {ox oy : Obj} {od oe : Option Obj}
theorem rc_insSame (hu : A.units < cLine) (X : K.In s.heap) (I : PySem.W.InstAt s.heap x ox C od) (hm : PySem.W.mroIn K C (.type "object") = some true) (hs : PySem.W.findIn K (.ref C) "__eq__" = some (some (.builtin "object.__eq__"))) :
    RcAt A s (.ref x) (.ref x) true := fun prog w E Q h => by
  have one : wpAny (model prog w) A (tryCompare (.ref x) "__eq__" (.ref x)) (fun r s' => r = some (.bool true) ∧ s' = s) E s := by
    unfold tryCompare
    exact wpAny_bind (HN.ifBound_objEq X I hs (wpAny_call (codeAny_call_builtin F.cmp_object.eq.plain F.cmpEntry_eq (PySem.W.check_slot F.cmpKind_eq F.cmpSplit_eq (I.type.andThen (PySem.W.looks_mroIn X hm)) (F.cmpArgs_eq _ _) (objEq_entry_same (wpAny_pure ⟨rfl, rfl⟩))))))
  simp only [richCompare, cmpInfo_Eq, oneThing_ref]
  refine wpAny_holding (wpAny_bind (wpAny_cRoomFor hu ?_))
  refine wpAny_bind (I.type.here ?_)
  refine wpAny_bind (I.type.here ?_)
  split
  · rename_i q
    simp at q
  · refine wpAny_bind (wpAny_pure ?_)
    simp only [Bool.false_eq_true, if_false, Bool.not_false, if_true]
    refine wpAny_bind (m := tryCompare (.ref x) _ (.ref x)) (wpAny_mono one (fun r s1 z => ?_) fun _ _ e => e)
    obtain ⟨z1, z2⟩ := z
    subst z1
    subst z2
    exact wpAny_pure h
theorem rc_insOther (hu : A.units < cLine) (X : K.In s.heap) (I : PySem.W.InstAt s.heap x ox C od) (J : PySem.W.InstAt s.heap y oy C oe) (hxy : x ≠ y) (hm : PySem.W.mroIn K C (.type "object") = some true) (hs : PySem.W.findIn K (.ref C) "__eq__" = some (some (.builtin "object.__eq__"))) :
    RcAt A s (.ref x) (.ref y) false := fun prog w E Q h => by
  have nt : ox.cls ≠ .type "tuple" := by rw [I.cls]; exact fun z => nomatch z
  have nt2 : oy.cls ≠ .type "tuple" := by rw [J.cls]; exact fun z => nomatch z
  have one : wpAny (model prog w) A (tryCompare (.ref x) "__eq__" (.ref y)) (fun r s' => r = none ∧ s' = s) E s := by
    unfold tryCompare
    exact wpAny_bind (HN.ifBound_objEq X I hs (wpAny_call (codeAny_call_builtin F.cmp_object.eq.plain F.cmpEntry_eq (PySem.W.check_slot F.cmpKind_eq F.cmpSplit_eq (I.type.andThen (PySem.W.looks_mroIn X hm)) (F.cmpArgs_eq _ _) (objEq_entry_other hxy I.at_ J.at_ nt (wpAny_pure ⟨rfl, rfl⟩))))))
  have two : wpAny (model prog w) A (tryCompare (.ref y) "__eq__" (.ref x)) (fun r s' => r = none ∧ s' = s) E s := by
    unfold tryCompare
    exact wpAny_bind (HN.ifBound_objEq X J hs (wpAny_call (codeAny_call_builtin F.cmp_object.eq.plain F.cmpEntry_eq (PySem.W.check_slot F.cmpKind_eq F.cmpSplit_eq (J.type.andThen (PySem.W.looks_mroIn X hm)) (F.cmpArgs_eq _ _) (objEq_entry_other hxy.symm J.at_ I.at_ nt2 (wpAny_pure ⟨rfl, rfl⟩))))))
  simp only [richCompare, cmpInfo_Eq, oneThing_ref]
  refine wpAny_holding (wpAny_bind (wpAny_cRoomFor hu ?_))
  refine wpAny_bind (I.type.here ?_)
  refine wpAny_bind (J.type.here ?_)
  split
  · rename_i q
    simp at q
  · refine wpAny_bind (wpAny_pure ?_)
    simp only [Bool.false_eq_true, if_false, Bool.not_false, if_true]
    refine wpAny_bind (m := tryCompare (.ref x) _ (.ref y)) (wpAny_mono one (fun r s1 z => ?_) fun _ _ e => e)
    obtain ⟨z1, z2⟩ := z
    subst z1
    subst z2
    refine wpAny_bind (m := tryCompare (.ref y) _ (.ref x)) (wpAny_mono two (fun r s2 z => ?_) fun _ _ e => e)
    obtain ⟨z1, z2⟩ := z
    subst z1
    subst z2
    exact wpAny_bind (wpAny_rule (wpAny_bind (wpAny_isSame_ref_other hxy I.at_ J.at_ nt (wpAny_pure h))))
end
/-- what the text says of a class whose instances are equal only to themselves -/
structure IdEq (K : Frag) (C : Addr) : Prop where
  m : PySem.W.mroIn K C (.type "object") = some true
  e : PySem.W.findIn K (.ref C) "__eq__" = some (some (.builtin "object.__eq__"))
open L2 in
def rEqI (K : Frag) : R2 := fun x y H Q => ∃ a b C dx dy fs gs, x = .ref a ∧ y = .ref b ∧ H a = some (.ins C dx fs) ∧ H b = some (.ins C dy gs) ∧ IdEq K C ∧ Q (.bl (decide (a = b))) H
open L2 in
theorem op_eqI {X : Cx} (hu : X.A.units < cLine) : OpR X (compareOp .Eq) (rEqI X.K) := by
  rintro pins s σ H x y v u Q I rx ry ⟨a, b, C, dx, dy, fs, gs, rfl, rfl, ha, hb, ie, q⟩
  cases rx
  cases ry
  obtain ⟨mA, O, _⟩ := ins_get I.hok ha
  obtain ⟨od, J, _⟩ := O.look
  obtain ⟨mB, O2, _⟩ := ins_get I.hok hb
  obtain ⟨oe, J2, _⟩ := O2.look
  by_cases e : a = b
  · subst e
    refine rc_insSame hu I.kIn J ie.m ie.e _ _ _ _ ⟨.bl _, H, I, rfl, ?_⟩
    rw [decide_eq_true rfl] at q
    exact q
  · refine rc_insOther hu I.kIn J J2 e ie.m ie.e _ _ _ _ ⟨.bl _, H, I, rfl, ?_⟩
    rw [decide_eq_false e] at q
    exact q
end BJ

/-! sorted of ints, of texts, as functions; list(d) -/
namespace BJ
open PySem PySem.Spec PyProof.Rows L2 Evl
open PySem.W (Frag)
def srtI (ns : List Int) : List Int := ns.mergeSort (fun x y => decide (x ≤ y))
theorem uniq_int : ∀ {l m : List Int}, l.Perm m → l.Pairwise (· ≤ ·) → m.Pairwise (· ≤ ·) → l = m := fun h h1 h2 => List.Perm.eq_of_pairwise (le := (· ≤ ·)) (fun a b _ _ q1 q2 => Int.le_antisymm q1 q2) h1 h2 h
theorem srtI_is {ns ns' : List Int} (h : ns'.Perm ns) (hs : ns'.Pairwise (· ≤ ·)) : ns' = srtI ns := by
  have h2 : (srtI ns).Pairwise (· ≤ ·) := (List.pairwise_mergeSort (le := fun x y => decide (x ≤ y)) (fun a b c q1 q2 => by simp only [decide_eq_true_eq] at *; omega) (fun a b => by simp only [Bool.or_eq_true, decide_eq_true_eq]; omega) ns).imp (fun q => by simpa using q)
  exact uniq_int (h.trans (List.mergeSort_perm ns _).symm) hs h2
def leS (x y : Str) : Bool := decide (x.cps.toList ≤ y.cps.toList)
def srtS (xs : List Str) : List Str := xs.mergeSort leS
theorem rising_le {x y : Str} (h : (!PySem.Spec.ltCps y.cps.toList x.cps.toList) = true) : leS x y = true := by
  rw [ltCps_eq] at h
  simp only [leS, decide_eq_true_eq]
  simpa using h
theorem risingS_pw : ∀ {l : List Str} {x : Str}, risingS x l = true → (x :: l).Pairwise (fun x y => leS x y = true)
  | [], x, _ => List.pairwise_singleton _ _
  | y :: l, x, h => by
    simp only [risingS, Bool.and_eq_true] at h
    have h1 := rising_le h.1
    have ih := risingS_pw h.2
    refine List.pairwise_cons.mpr ⟨fun z hz => ?_, ih⟩
    rcases List.mem_cons.mp hz with e | hz
    · rw [e]
      exact h1
    · have h2 := (List.pairwise_cons.mp ih).1 z hz
      simp only [leS, decide_eq_true_eq] at *
      exact List.le_trans h1 h2
theorem sortedS_pw : ∀ {l : List Str}, sortedS l = true → l.Pairwise (fun x y => leS x y = true)
  | [], _ => .nil
  | x :: l, h => risingS_pw h
theorem srtS_is {xs ys : List Str} (h : ys.Perm xs) (hs : sortedS ys = true) : ys = srtS xs := by
  have h2 : (srtS xs).Pairwise (fun x y => leS x y = true) := List.pairwise_mergeSort (fun a b c q1 q2 => by simp only [leS, decide_eq_true_eq] at *; exact List.le_trans q1 q2) (fun a b => by simp only [leS, Bool.or_eq_true, decide_eq_true_eq]; exact List.le_total _ _) xs
  exact List.Perm.eq_of_pairwise (le := fun x y => leS x y = true) (fun a b _ _ q1 q2 => by
    simp only [leS, decide_eq_true_eq] at *
    exact str_ext (List.le_antisymm q1 q2)) (sortedS_pw hs) h2 (h.trans (List.mergeSort_perm xs _).symm)
/-- a ** b, a of any size -/
def CPowB (i j : Int) : Prop := 0 ≤ j ∧ Builtin.Int.intBits i * j ≤ 1000000
theorem op_powB {X : Cx} : OpR X (binaryOp .Pow) (rI CPowB fun i j => .int (i ^ j.toNat)) := opI fun _ _ _ _ _ _ _ hc q => pow_int hc.1 (by have := hc.2; omega) q
section
variable {K : Frag} {σ : L2.St} {H : Hp} {te : TE}
theorem el_sortI {ns : List Int} (h : EvL te σ H (ns.map V.int)) : EvL (tCB (rSortedI K) (tCons te tNil)) σ H ((srtI ns).map V.int) := fun H1 e Q q => h H1 e _ fun p H2 hp e2 hx => ⟨p, ns, rfl, sq_of hx, fun ns' q' hperm hs hq' => by
  rw [srtI_is hperm hs]
  exact q q' _ (fresh_back e2 hq') (e2.trans (Ex.new hq')) upd_same⟩
theorem el_sortS {xs : List Str} (h : EvL te σ H (xs.map V.str)) (hl : xs.length < 64) : EvL (tCB (rSortedS K) (tCons te tNil)) σ H ((srtS xs).map V.str) := fun H1 e Q q => h H1 e _ fun p H2 hp e2 hx => ⟨p, xs, rfl, sq_of hx, hl, fun ys q' hperm hs hq' => by
  rw [srtS_is hperm hs]
  exact q q' _ (fresh_back e2 hq') (e2.trans (Ex.new hq')) upd_same⟩
theorem el_keys {p : Addr} {kvs : List (Key × V)} (h : Ev te σ H (.ref p)) (hp : H p = some (.dK kvs)) : EvL (tCB rListD (tCons te tNil)) σ H (kvs.map fun kv => kV kv.1) := fun H1 e Q q =>
  h H1 e _ fun H2 e2 => ⟨p, kvs, rfl, (e.trans e2) _ _ hp, fun l hl => q l _ (fresh_back e2 hl) (e2.trans (Ex.new hl)) upd_same⟩
end
end BJ

/-! tuples by what is in them (slices and sums may be old objects); list(x) that tells its place; the part of a heap that stands -/
namespace BJ
open PySem PySem.Spec PyProof.Rows L2 Evl
open PySem.W (Frag)
def rListN (K : Frag) : List V → Hp → VK → Prop := fun xs H Q => ∃ p ys, xs = [.ref p] ∧ (SqL K H p ys ∨ SqT K H p ys) ∧ ∀ l, H l = none → sysModules < l → Q (.ref l) (upd H l (.lst ys))
theorem call_list_ofN {X : Cx} : CallR X (.type "list") (rListN X.K) := by
  intro pins s σ H xs us Q I r h
  obtain ⟨p, ys, rfl, hq, q⟩ := h
  obtain ⟨u, rfl, rx⟩ := vals1 r
  cases rx
  have fin : ∀ (its : List Value), Vals ys its → ys.length ≤ sizeLine → ∀ (h' : Heap) (c' : Nat), (∀ b o', s.heap.get? b = some o' → h'.get? b = some o') →
      h'.get? s.heap.objs.size = some { cls := .type "list", dict := none, data := .seq its.toArray c', slots := #[] } → EP X pins σ Q (.ref s.heap.objs.size) { s with heap := h' } := fun its r' hz h' c' kp e =>
    ⟨.ref s.heap.objs.size, _, I.laid (t' := s.toks) kp (Nat.le_refl _) (show ObjOk X.prog X.w _ h' _ (.lst ys) from ⟨hz, its, c', r', e⟩), rfl, q _ (I.hok.fresh (Nat.le_refl _)) I.big⟩
  rcases hq with hq | hq
  · obtain ⟨its, r', pl, hz⟩ := I.list hq
    have hlen := r'.length
    obtain ⟨o, ho, hc, n, hd⟩ := pl.isList
    exact call_list_seq p (.inl rfl) ho hc hd (fun h' c' kp e => fin its r' hz h' c' kp e) (by simp only [List.size_toArray] <;> omega)
  · obtain ⟨its, r', pl, hz⟩ := I.tuple hq
    have hlen := r'.length
    obtain ⟨o, ho, hc, n, hd⟩ := pl
    exact call_list_seq p (.inr rfl) ho hc hd (fun h' c' kp e => fin its r' hz h' c' kp e) (by simp only [List.size_toArray] <;> omega)
section
variable {K : Frag} {σ : L2.St} {H : Hp} {te t1 t2 : TE} {xs ys : List V}
/-- a tuple of xs, new or old -/
def EvS (K : Frag) (te : TE) (σ : L2.St) (H : Hp) (xs : List V) : Prop := ∀ H1, Ex H H1 → ∀ Q : VK, (∀ p H2, Ex H1 H2 → SqT K H2 p xs → Q (.ref p) H2) → te σ H1 Q
theorem es_var {i : Nat} {p : Addr} (h : σ[i]? = some (some (.ref p))) (hs : SqT K H p xs) : EvS K (tVar i) σ H xs := fun H1 e Q q => ⟨_, h, q p H1 (Ex.refl _) (ex_t e hs)⟩
theorem es_U (h : EvU te σ H xs) : EvS K te σ H xs := fun H1 e Q q => h H1 e _ fun p H2 _ e2 hp => q p H2 e2 (st_of hp)
theorem EvS.mono {H' : Hp} (h : EvS K te σ H xs) (e : Ex H H') : EvS K te σ H' xs := fun H1 e1 Q q => h H1 (e.trans e1) Q q
theorem cutV_all {lo hi : Option Int} (h : HT.sIx xs.length 0 lo = 0 ∧ HT.sIx xs.length xs.length hi = xs.length) : cutV xs lo hi = xs := by
  unfold cutV
  rw [h.1, h.2, List.drop_zero, Nat.sub_zero, List.take_length]
theorem es_sl {tl th : TO} {lo hi : Option Int} (h : EvS K te σ H xs) (h1 : EvO tl σ H lo) (h2 : EvO th σ H hi) : EvS K (tSl (rSlA K) te tl th) σ H (cutV xs lo hi) := fun H1 e Q q =>
  h H1 e _ fun p H2 e2 hp => h1 H2 (e.trans e2) _ fun H3 e3 => h2 H3 ((e.trans e2).trans e3) _ fun H4 e4 => ⟨p, xs, rfl, ex_t (e3.trans e4) hp,
    fun hw => by
      refine q p H4 ((e2.trans e3).trans e4) ?_
      rw [cutV_all hw]
      exact ex_t (e3.trans e4) hp,
    fun _ z hz => q z _ (((e2.trans e3).trans e4).trans (Ex.new hz)) (st_of upd_same)⟩
theorem es_cat (h1 : EvS K t1 σ H xs) (h2 : EvS K t2 σ H ys) (hl : xs.length + ys.length ≤ 1000000) : EvS K (tOp (rCatA K) t1 t2) σ H (xs ++ ys) := fun H1 e Q q =>
  h1 H1 e _ fun p H2 e2 hp => h2 H2 (e.trans e2) _ fun r H3 e3 hr => ⟨p, r, xs, ys, rfl, rfl, ex_t e3 hp, hr, (by rw [sizeLine_eq]; omega),
    fun hx => by
      subst hx
      exact q r H3 (e2.trans e3) hr,
    fun _ hy => by
      subst hy
      refine q p H3 (e2.trans e3) ?_
      rw [List.append_nil]
      exact ex_t e3 hp,
    fun _ _ z hz => q z _ ((e2.trans e3).trans (Ex.new hz)) (st_of upd_same)⟩
end
section
variable {K : Frag} {H : Hp} {d p : Addr} {kvs : List (Key × V)} {xs : List V}
theorem sqT_cut (hd : H d = some (.dK kvs)) (h : SqT K H p xs) : SqT K (cutH d H) p xs := by
  rcases h with (h | ⟨o, h⟩) | h
  · exact .inl (.inl (cut_at h (ne_of h hd (fun z => nomatch z)) (fun ps z => nomatch z)))
  · exact .inl (.inr ⟨o, cut_at h (ne_of h hd (fun z => nomatch z)) (fun ps z => nomatch z)⟩)
  · exact .inr h
theorem sqL_cut (hd : H d = some (.dK kvs)) (h : SqL K H p xs) : SqL K (cutH d H) p xs := by
  rcases h with (h | ⟨o, h⟩) | h
  · exact .inl (.inl (cut_at h (ne_of h hd (fun z => nomatch z)) (fun ps z => nomatch z)))
  · exact .inl (.inr ⟨o, cut_at h (ne_of h hd (fun z => nomatch z)) (fun ps z => nomatch z)⟩)
  · exact .inr h
end
end BJ

namespace BJL
open PySem PySem.Spec PyProof.Rows L2 BJ
def topS (i : Nat) : Stmt := PySem.Challenge.pw_brinejar_k02_octets_and_bags.main.body.getD i (.Pass ⟨0, 0, 0, 0⟩)
abbrev s_is_integer : Stmt := topS 11
theorem sc_is_integer : FnScope ["thing"] ["thing"] (defScope s_is_integer) := ⟨rfl, rfl, rfl, by decide +kernel, rfl, by decide +kernel, by decide +kernel⟩
abbrev s_is_whole_atom : Stmt := topS 12
theorem sc_is_whole_atom : FnScope ["thing"] ["thing"] (defScope s_is_whole_atom) := ⟨rfl, rfl, rfl, by decide +kernel, rfl, by decide +kernel, by decide +kernel⟩
abbrev s_is_text : Stmt := topS 13
theorem sc_is_text : FnScope ["thing"] ["thing"] (defScope s_is_text) := ⟨rfl, rfl, rfl, by decide +kernel, rfl, by decide +kernel, by decide +kernel⟩
abbrev s_is_key : Stmt := topS 14
theorem sc_is_key : FnScope ["thing"] ["thing"] (defScope s_is_key) := ⟨rfl, rfl, rfl, by decide +kernel, rfl, by decide +kernel, by decide +kernel⟩
abbrev s_is_octet : Stmt := topS 15
theorem sc_is_octet : FnScope ["thing"] ["thing"] (defScope s_is_octet) := ⟨rfl, rfl, rfl, by decide +kernel, rfl, by decide +kernel, by decide +kernel⟩
abbrev s_check_key : Stmt := topS 16
theorem sc_check_key : FnScope ["key"] ["key"] (defScope s_check_key) := ⟨rfl, rfl, rfl, by decide +kernel, rfl, by decide +kernel, by decide +kernel⟩
abbrev s_Node_shape : Stmt := inClass (topS 17) 0
theorem sc_Node_shape : FnScope ["self"] ["self"] (defScope s_Node_shape) := ⟨rfl, rfl, rfl, by decide +kernel, rfl, by decide +kernel, by decide +kernel⟩
abbrev s_Node_children : Stmt := inClass (topS 17) 1
theorem sc_Node_children : GScope ["self"] ["self"] (defScope s_Node_children) := ⟨rfl, rfl, rfl, by decide +kernel, rfl, by decide +kernel, by decide +kernel⟩
abbrev s_Octets___init__ : Stmt := inClass (topS 18) 0
theorem sc_Octets___init__ : FnScope ["self", "numbers", "one"] ["self", "numbers"] (defScope s_Octets___init__) := ⟨rfl, rfl, rfl, by decide +kernel, rfl, by decide +kernel, by decide +kernel⟩
abbrev s_Octets_shape : Stmt := inClass (topS 18) 1
theorem sc_Octets_shape : FnScope ["self"] ["self"] (defScope s_Octets_shape) := ⟨rfl, rfl, rfl, by decide +kernel, rfl, by decide +kernel, by decide +kernel⟩
abbrev s_Octets_numbers : Stmt := inClass (topS 18) 2
theorem sc_Octets_numbers : FnScope ["self"] ["self"] (defScope s_Octets_numbers) := ⟨rfl, rfl, rfl, by decide +kernel, rfl, by decide +kernel, by decide +kernel⟩
abbrev s_ascending : Stmt := topS 19
theorem sc_ascending : FnScope ["keys", "key"] ["keys"] (defScope s_ascending) := ⟨rfl, rfl, rfl, by decide +kernel, rfl, by decide +kernel, by decide +kernel⟩
abbrev s_Bag___init__ : Stmt := inClass (topS 20) 0
theorem sc_Bag___init__ : FnScope ["self", "members", "found", "key"] ["self", "members"] (defScope s_Bag___init__) := ⟨rfl, rfl, rfl, by decide +kernel, rfl, by decide +kernel, by decide +kernel⟩
abbrev s_Bag_of : Stmt := inClass (topS 20) 1
theorem sc_Bag_of : FnScope ["cls", "members"] ["cls", "members"] (defScope s_Bag_of) := ⟨rfl, rfl, rfl, by decide +kernel, rfl, by decide +kernel, by decide +kernel⟩
abbrev s_Bag_shape : Stmt := inClass (topS 20) 2
theorem sc_Bag_shape : FnScope ["self"] ["self"] (defScope s_Bag_shape) := ⟨rfl, rfl, rfl, by decide +kernel, rfl, by decide +kernel, by decide +kernel⟩
abbrev s_Bag_members : Stmt := inClass (topS 20) 3
theorem sc_Bag_members : FnScope ["self"] ["self"] (defScope s_Bag_members) := ⟨rfl, rfl, rfl, by decide +kernel, rfl, by decide +kernel, by decide +kernel⟩
abbrev s_Bag_children : Stmt := inClass (topS 20) 4
theorem sc_Bag_children : GScope ["self"] ["self"] (defScope s_Bag_children) := ⟨rfl, rfl, rfl, by decide +kernel, rfl, by decide +kernel, by decide +kernel⟩
abbrev s__law_begin : Stmt := topS 22
theorem sc__law_begin : FnScope ["script"] ["script"] (defScope s__law_begin) := ⟨rfl, rfl, rfl, by decide +kernel, rfl, by decide +kernel, by decide +kernel⟩
abbrev s__law_mixed : Stmt := topS 23
theorem sc__law_mixed : FnScope ["cell", "k", "mixed"] ["cell", "k"] (defScope s__law_mixed) := ⟨rfl, rfl, rfl, by decide +kernel, rfl, by decide +kernel, by decide +kernel⟩
abbrev s__law_next : Stmt := topS 24
theorem sc__law_next : FnScope ["draw", "bound", "found", "cells", "cell"] ["draw", "bound"] (defScope s__law_next) := ⟨rfl, rfl, rfl, by decide +kernel, rfl, by decide +kernel, by decide +kernel⟩
abbrev s__law_atom : Stmt := topS 25
theorem sc__law_atom : FnScope ["draw", "great", "some"] ["draw"] (defScope s__law_atom) := ⟨rfl, rfl, rfl, by decide +kernel, rfl, by decide +kernel, by decide +kernel⟩
abbrev s__law_tuple : Stmt := topS 26
theorem sc__law_tuple : FnScope ["draw", "size", "way", "first", "found", "k", "at", "odd", "other"] ["draw"] (defScope s__law_tuple) := ⟨rfl, rfl, rfl, by decide +kernel, rfl, by decide +kernel, by decide +kernel⟩
abbrev s__law_is_octets : Stmt := topS 27
theorem sc__law_is_octets : FnScope ["what", "one"] ["what"] (defScope s__law_is_octets) := ⟨rfl, rfl, rfl, by decide +kernel, rfl, by decide +kernel, by decide +kernel⟩
abbrev s__law_octets_right : Stmt := topS 28
theorem sc__law_octets_right : FnScope ["what", "caught", "found", "e", "one"] ["what"] (defScope s__law_octets_right) := ⟨rfl, rfl, rfl, by decide +kernel, rfl, by decide +kernel, by decide +kernel⟩
abbrev s__law_is_key : Stmt := topS 29
theorem sc__law_is_key : FnScope ["what"] ["what"] (defScope s__law_is_key) := ⟨rfl, rfl, rfl, by decide +kernel, rfl, by decide +kernel, by decide +kernel⟩
abbrev s__law_due : Stmt := topS 30
theorem sc__law_due : FnScope ["keys", "seen", "one"] ["keys"] (defScope s__law_due) := ⟨rfl, rfl, rfl, by decide +kernel, rfl, by decide +kernel, by decide +kernel⟩
abbrev s__law_bag : Stmt := topS 31
theorem sc__law_bag : FnScope ["way", "keys"] ["way", "keys"] (defScope s__law_bag) := ⟨rfl, rfl, rfl, by decide +kernel, rfl, by decide +kernel, by decide +kernel⟩
abbrev s__law_bag_right : Stmt := topS 32
theorem sc__law_bag_right : FnScope ["way", "keys", "caught", "found", "due", "e", "word", "low", "one", "rows"] ["way", "keys"] (defScope s__law_bag_right) := ⟨rfl, rfl, rfl, by decide +kernel, rfl, by decide +kernel, by decide +kernel⟩
abbrev s__law_word : Stmt := topS 33
theorem sc__law_word : FnScope ["what", "caught", "e"] ["what"] (defScope s__law_word) := ⟨rfl, rfl, rfl, by decide +kernel, rfl, by decide +kernel, by decide +kernel⟩
abbrev s_law : Stmt := topS 34
theorem sc_law : FnScope ["script", "draw", "turn", "keys", "k", "one", "odd", "at", "some", "what"] ["script"] (defScope s_law) := ⟨rfl, rfl, rfl, by decide +kernel, rfl, by decide +kernel, by decide +kernel⟩
structure Adr where
  is_integer : Addr
  is_whole_atom : Addr
  is_text : Addr
  is_key : Addr
  is_octet : Addr
  check_key : Addr
  Node_shape : Addr
  Node_children : Addr
  Octets___init__ : Addr
  Octets_shape : Addr
  Octets_numbers : Addr
  ascending : Addr
  Bag___init__ : Addr
  Bag_of : Addr
  Bag_shape : Addr
  Bag_members : Addr
  Bag_children : Addr
  _law_begin : Addr
  _law_mixed : Addr
  _law_next : Addr
  _law_atom : Addr
  _law_tuple : Addr
  _law_is_octets : Addr
  _law_octets_right : Addr
  _law_is_key : Addr
  _law_due : Addr
  _law_bag : Addr
  _law_bag_right : Addr
  _law_word : Addr
  law : Addr
  JarError : Addr
  InvalidNumbers : Addr
  InvalidKey : Addr
  StateError : Addr
  KeyTaken : Addr
  MissingError : Addr
  Node : Addr
  Octets : Addr
  Bag : Addr
  InvalidNumbers_i : Addr
  InvalidNumbers_c : Addr
  InvalidNumbers_d : Addr
  InvalidKey_i : Addr
  InvalidKey_c : Addr
  InvalidKey_d : Addr
  KeyTaken_i : Addr
  KeyTaken_c : Addr
  KeyTaken_d : Addr
  Node_shape_p : Addr
  Octets_shape_p : Addr
  Octets_numbers_p : Addr
  Bag_of_p : Addr
  Bag_shape_p : Addr
  Bag_members_p : Addr
  Octets___init___dv : Addr
structure Txt (P : Program) (K : PySem.W.Frag) (mg : Str → Option Value) (a : Adr) : Prop where
  b_all : mg "all" = none
  b_bool : mg "bool" = none
  b_classmethod : mg "classmethod" = none
  b_int : mg "int" = none
  b_isinstance : mg "isinstance" = none
  b_len : mg "len" = none
  b_list : mg "list" = none
  b_min : mg "min" = none
  b_property : mg "property" = none
  b_range : mg "range" = none
  b_repr : mg "repr" = none
  b_sorted : mg "sorted" = none
  b_str : mg "str" = none
  b_tuple : mg "tuple" = none
  b_super : mg "super" = none
  c_MOST_INTEGER : ∃ t, mg "MOST_INTEGER" = some (.int (1000000000000000000000000000000000000000000000000000000000000000000000000000000000000000000000000000000000000000000000000000000000000000000000000000000000000000000000000000000000000000000000000000000000000000000000000000000000000000000000000000000000000000000000000000000000000000000000000000000000000) t)
  c_MOST_CHARACTERS : ∃ t, mg "MOST_CHARACTERS" = some (.int (2000) t)
  c_MOST_NUMBERS : ∃ t, mg "MOST_NUMBERS" = some (.int (2000) t)
  g_is_integer : mg "is_integer" = some (.ref a.is_integer)
  k_is_integer : PySem.W.keepIn K (.ref a.is_integer) = true
  d_is_integer : DefAt K "is_integer" "is_integer" s_is_integer a.is_integer ["thing"]
  g_is_whole_atom : mg "is_whole_atom" = some (.ref a.is_whole_atom)
  k_is_whole_atom : PySem.W.keepIn K (.ref a.is_whole_atom) = true
  d_is_whole_atom : DefAt K "is_whole_atom" "is_whole_atom" s_is_whole_atom a.is_whole_atom ["thing"]
  g_is_text : mg "is_text" = some (.ref a.is_text)
  k_is_text : PySem.W.keepIn K (.ref a.is_text) = true
  d_is_text : DefAt K "is_text" "is_text" s_is_text a.is_text ["thing"]
  g_is_key : mg "is_key" = some (.ref a.is_key)
  k_is_key : PySem.W.keepIn K (.ref a.is_key) = true
  d_is_key : DefAt K "is_key" "is_key" s_is_key a.is_key ["thing"]
  g_is_octet : mg "is_octet" = some (.ref a.is_octet)
  k_is_octet : PySem.W.keepIn K (.ref a.is_octet) = true
  d_is_octet : DefAt K "is_octet" "is_octet" s_is_octet a.is_octet ["thing"]
  g_check_key : mg "check_key" = some (.ref a.check_key)
  k_check_key : PySem.W.keepIn K (.ref a.check_key) = true
  d_check_key : DefAt K "check_key" "check_key" s_check_key a.check_key ["key"]
  k_Node_shape : PySem.W.keepIn K (.ref a.Node_shape) = true
  d_Node_shape : DefAt K "shape" "Node.shape" s_Node_shape a.Node_shape ["self"]
  k_Node_children : PySem.W.keepIn K (.ref a.Node_children) = true
  d_Node_children : DefAt K "children" "Node.children" s_Node_children a.Node_children ["self"]
  k_Octets___init__ : PySem.W.keepIn K (.ref a.Octets___init__) = true
  d_Octets___init__ : DefD K "__init__" "Octets.__init__" s_Octets___init__ a.Octets___init__ "self" "numbers" (.ref a.Octets___init___dv)
  v_Octets___init__ : ∀ H, SqT K H a.Octets___init___dv []
  k_Octets_shape : PySem.W.keepIn K (.ref a.Octets_shape) = true
  d_Octets_shape : DefAt K "shape" "Octets.shape" s_Octets_shape a.Octets_shape ["self"]
  k_Octets_numbers : PySem.W.keepIn K (.ref a.Octets_numbers) = true
  d_Octets_numbers : DefAt K "numbers" "Octets.numbers" s_Octets_numbers a.Octets_numbers ["self"]
  g_ascending : mg "ascending" = some (.ref a.ascending)
  k_ascending : PySem.W.keepIn K (.ref a.ascending) = true
  d_ascending : DefAt K "ascending" "ascending" s_ascending a.ascending ["keys"]
  k_Bag___init__ : PySem.W.keepIn K (.ref a.Bag___init__) = true
  d_Bag___init__ : DefS K "__init__" "Bag.__init__" s_Bag___init__ a.Bag___init__ ["self"] "members"
  k_Bag_of : PySem.W.keepIn K (.ref a.Bag_of) = true
  d_Bag_of : DefAt K "of" "Bag.of" s_Bag_of a.Bag_of ["cls", "members"]
  k_Bag_shape : PySem.W.keepIn K (.ref a.Bag_shape) = true
  d_Bag_shape : DefAt K "shape" "Bag.shape" s_Bag_shape a.Bag_shape ["self"]
  k_Bag_members : PySem.W.keepIn K (.ref a.Bag_members) = true
  d_Bag_members : DefAt K "members" "Bag.members" s_Bag_members a.Bag_members ["self"]
  k_Bag_children : PySem.W.keepIn K (.ref a.Bag_children) = true
  d_Bag_children : DefAt K "children" "Bag.children" s_Bag_children a.Bag_children ["self"]
  g__law_begin : mg "_law_begin" = some (.ref a._law_begin)
  k__law_begin : PySem.W.keepIn K (.ref a._law_begin) = true
  d__law_begin : DefAt K "_law_begin" "_law_begin" s__law_begin a._law_begin ["script"]
  g__law_mixed : mg "_law_mixed" = some (.ref a._law_mixed)
  k__law_mixed : PySem.W.keepIn K (.ref a._law_mixed) = true
  d__law_mixed : DefAt K "_law_mixed" "_law_mixed" s__law_mixed a._law_mixed ["cell", "k"]
  g__law_next : mg "_law_next" = some (.ref a._law_next)
  k__law_next : PySem.W.keepIn K (.ref a._law_next) = true
  d__law_next : DefAt K "_law_next" "_law_next" s__law_next a._law_next ["draw", "bound"]
  g__law_atom : mg "_law_atom" = some (.ref a._law_atom)
  k__law_atom : PySem.W.keepIn K (.ref a._law_atom) = true
  d__law_atom : DefAt K "_law_atom" "_law_atom" s__law_atom a._law_atom ["draw"]
  g__law_tuple : mg "_law_tuple" = some (.ref a._law_tuple)
  k__law_tuple : PySem.W.keepIn K (.ref a._law_tuple) = true
  d__law_tuple : DefAt K "_law_tuple" "_law_tuple" s__law_tuple a._law_tuple ["draw"]
  g__law_is_octets : mg "_law_is_octets" = some (.ref a._law_is_octets)
  k__law_is_octets : PySem.W.keepIn K (.ref a._law_is_octets) = true
  d__law_is_octets : DefAt K "_law_is_octets" "_law_is_octets" s__law_is_octets a._law_is_octets ["what"]
  g__law_octets_right : mg "_law_octets_right" = some (.ref a._law_octets_right)
  k__law_octets_right : PySem.W.keepIn K (.ref a._law_octets_right) = true
  d__law_octets_right : DefAt K "_law_octets_right" "_law_octets_right" s__law_octets_right a._law_octets_right ["what"]
  g__law_is_key : mg "_law_is_key" = some (.ref a._law_is_key)
  k__law_is_key : PySem.W.keepIn K (.ref a._law_is_key) = true
  d__law_is_key : DefAt K "_law_is_key" "_law_is_key" s__law_is_key a._law_is_key ["what"]
  g__law_due : mg "_law_due" = some (.ref a._law_due)
  k__law_due : PySem.W.keepIn K (.ref a._law_due) = true
  d__law_due : DefAt K "_law_due" "_law_due" s__law_due a._law_due ["keys"]
  g__law_bag : mg "_law_bag" = some (.ref a._law_bag)
  k__law_bag : PySem.W.keepIn K (.ref a._law_bag) = true
  d__law_bag : DefAt K "_law_bag" "_law_bag" s__law_bag a._law_bag ["way", "keys"]
  g__law_bag_right : mg "_law_bag_right" = some (.ref a._law_bag_right)
  k__law_bag_right : PySem.W.keepIn K (.ref a._law_bag_right) = true
  d__law_bag_right : DefAt K "_law_bag_right" "_law_bag_right" s__law_bag_right a._law_bag_right ["way", "keys"]
  g__law_word : mg "_law_word" = some (.ref a._law_word)
  k__law_word : PySem.W.keepIn K (.ref a._law_word) = true
  d__law_word : DefAt K "_law_word" "_law_word" s__law_word a._law_word ["what"]
  g_law : mg "law" = some (.ref a.law)
  k_law : PySem.W.keepIn K (.ref a.law) = true
  d_law : DefAt K "law" "law" s_law a.law ["script"]
  g_JarError : mg "JarError" = some (.ref a.JarError)
  x_JarError : PySem.W.subIn K (.ref a.JarError) (.type "BaseException") = some true
  t_JarError : PySem.W.typeIn K (.ref a.JarError) = some (.type "type")
  h_JarError : PySem.W.hasDictIn K a.JarError = true
  g_InvalidNumbers : mg "InvalidNumbers" = some (.ref a.InvalidNumbers)
  x_InvalidNumbers : PySem.W.subIn K (.ref a.InvalidNumbers) (.type "BaseException") = some true
  t_InvalidNumbers : PySem.W.typeIn K (.ref a.InvalidNumbers) = some (.type "type")
  h_InvalidNumbers : PySem.W.hasDictIn K a.InvalidNumbers = true
  e_InvalidNumbers : ErrK P K mg a.InvalidNumbers a.InvalidNumbers_i a.InvalidNumbers_c a.InvalidNumbers_d "ValueError" "ValueError.__init__" "ValueError.__new__" [.type "ValueError", .type "Exception", .type "BaseException", .type "object"] "InvalidNumbers" ["value"]
  i_InvalidNumbers : IniK K a.InvalidNumbers_i a.InvalidNumbers_c a.InvalidNumbers_d "InvalidNumbers.__init__" "not a tuple of octets" ["value"]
  k_InvalidNumbers : PySem.W.keepIn K (.ref a.InvalidNumbers) = true
  R_InvalidNumbers : ErrR K a.InvalidNumbers
  n_InvalidNumbers_value : PySem.W.findIn K (.ref a.InvalidNumbers) "value" = some none
  g_InvalidKey : mg "InvalidKey" = some (.ref a.InvalidKey)
  x_InvalidKey : PySem.W.subIn K (.ref a.InvalidKey) (.type "BaseException") = some true
  t_InvalidKey : PySem.W.typeIn K (.ref a.InvalidKey) = some (.type "type")
  h_InvalidKey : PySem.W.hasDictIn K a.InvalidKey = true
  e_InvalidKey : ErrK P K mg a.InvalidKey a.InvalidKey_i a.InvalidKey_c a.InvalidKey_d "ValueError" "ValueError.__init__" "ValueError.__new__" [.type "ValueError", .type "Exception", .type "BaseException", .type "object"] "InvalidKey" ["key"]
  i_InvalidKey : IniK K a.InvalidKey_i a.InvalidKey_c a.InvalidKey_d "InvalidKey.__init__" "invalid key" ["key"]
  k_InvalidKey : PySem.W.keepIn K (.ref a.InvalidKey) = true
  R_InvalidKey : ErrR K a.InvalidKey
  n_InvalidKey_key : PySem.W.findIn K (.ref a.InvalidKey) "key" = some none
  g_StateError : mg "StateError" = some (.ref a.StateError)
  x_StateError : PySem.W.subIn K (.ref a.StateError) (.type "BaseException") = some true
  t_StateError : PySem.W.typeIn K (.ref a.StateError) = some (.type "type")
  h_StateError : PySem.W.hasDictIn K a.StateError = true
  g_KeyTaken : mg "KeyTaken" = some (.ref a.KeyTaken)
  x_KeyTaken : PySem.W.subIn K (.ref a.KeyTaken) (.type "BaseException") = some true
  t_KeyTaken : PySem.W.typeIn K (.ref a.KeyTaken) = some (.type "type")
  h_KeyTaken : PySem.W.hasDictIn K a.KeyTaken = true
  e_KeyTaken : ErrK P K mg a.KeyTaken a.KeyTaken_i a.KeyTaken_c a.KeyTaken_d "RuntimeError" "RuntimeError.__init__" "RuntimeError.__new__" [.type "RuntimeError", .type "Exception", .type "BaseException", .type "object"] "KeyTaken" ["key"]
  i_KeyTaken : IniK K a.KeyTaken_i a.KeyTaken_c a.KeyTaken_d "KeyTaken.__init__" "the key is there already" ["key"]
  k_KeyTaken : PySem.W.keepIn K (.ref a.KeyTaken) = true
  R_KeyTaken : ErrR K a.KeyTaken
  n_KeyTaken_key : PySem.W.findIn K (.ref a.KeyTaken) "key" = some none
  g_MissingError : mg "MissingError" = some (.ref a.MissingError)
  x_MissingError : PySem.W.subIn K (.ref a.MissingError) (.type "BaseException") = some true
  t_MissingError : PySem.W.typeIn K (.ref a.MissingError) = some (.type "type")
  h_MissingError : PySem.W.hasDictIn K a.MissingError = true
  g_Node : mg "Node" = some (.ref a.Node)
  c_Node : Cls K a.Node
  k_Node : PySem.W.keepIn K (.ref a.Node) = true
  e_Node : IdEq K a.Node
  t_Node : PySem.W.typeIn K (.ref a.Node) = some (.type "type")
  p_Node_shape : PropOf K a.Node "shape" a.Node_shape_p a.Node_shape
  p_Node_children : Meth K a.Node "children" a.Node_children
  g_Octets : mg "Octets" = some (.ref a.Octets)
  c_Octets : Cls K a.Octets
  k_Octets : PySem.W.keepIn K (.ref a.Octets) = true
  e_Octets : IdEq K a.Octets
  t_Octets : PySem.W.typeIn K (.ref a.Octets) = some (.type "type")
  p_Octets_shape : PropOf K a.Octets "shape" a.Octets_shape_p a.Octets_shape
  p_Octets_children : Meth K a.Octets "children" a.Node_children
  m_Octets : Mk K a.Octets a.Octets___init__
  p_Octets_numbers : PropOf K a.Octets "numbers" a.Octets_numbers_p a.Octets_numbers
  n_Octets_row : NoAttr K a.Octets "row"
  g_Bag : mg "Bag" = some (.ref a.Bag)
  c_Bag : Cls K a.Bag
  k_Bag : PySem.W.keepIn K (.ref a.Bag) = true
  e_Bag : IdEq K a.Bag
  t_Bag : PySem.W.typeIn K (.ref a.Bag) = some (.type "type")
  r_Bag : ClX.CRead K a.Bag (.type "type")
  p_Bag_shape : PropOf K a.Bag "shape" a.Bag_shape_p a.Bag_shape
  p_Bag_children : Meth K a.Bag "children" a.Bag_children
  m_Bag : Mk K a.Bag a.Bag___init__
  p_Bag_of : ClX.CMet K a.Bag (.type "type") "of" a.Bag_of_p a.Bag_of
  p_Bag_members : PropOf K a.Bag "members" a.Bag_members_p a.Bag_members
  n_Bag_kept_keys : NoAttr K a.Bag "kept_keys"
  u_InvalidNumbers_JarError : PySem.W.kitOne K (.ref a.InvalidNumbers) (.ref a.JarError) = some true
  v_InvalidNumbers_JarError : PySem.W.exmOne K (.ref a.InvalidNumbers) (.ref a.JarError) = some true
  u_InvalidNumbers_StateError : PySem.W.kitOne K (.ref a.InvalidNumbers) (.ref a.StateError) = some false
  v_InvalidNumbers_StateError : PySem.W.exmOne K (.ref a.InvalidNumbers) (.ref a.StateError) = some false
  u_InvalidNumbers_MissingError : PySem.W.kitOne K (.ref a.InvalidNumbers) (.ref a.MissingError) = some false
  v_InvalidNumbers_MissingError : PySem.W.exmOne K (.ref a.InvalidNumbers) (.ref a.MissingError) = some false
  u_InvalidKey_JarError : PySem.W.kitOne K (.ref a.InvalidKey) (.ref a.JarError) = some true
  v_InvalidKey_JarError : PySem.W.exmOne K (.ref a.InvalidKey) (.ref a.JarError) = some true
  u_InvalidKey_StateError : PySem.W.kitOne K (.ref a.InvalidKey) (.ref a.StateError) = some false
  v_InvalidKey_StateError : PySem.W.exmOne K (.ref a.InvalidKey) (.ref a.StateError) = some false
  u_InvalidKey_MissingError : PySem.W.kitOne K (.ref a.InvalidKey) (.ref a.MissingError) = some false
  v_InvalidKey_MissingError : PySem.W.exmOne K (.ref a.InvalidKey) (.ref a.MissingError) = some false
  u_KeyTaken_JarError : PySem.W.kitOne K (.ref a.KeyTaken) (.ref a.JarError) = some false
  v_KeyTaken_JarError : PySem.W.exmOne K (.ref a.KeyTaken) (.ref a.JarError) = some false
  u_KeyTaken_StateError : PySem.W.kitOne K (.ref a.KeyTaken) (.ref a.StateError) = some true
  v_KeyTaken_StateError : PySem.W.exmOne K (.ref a.KeyTaken) (.ref a.StateError) = some true
  u_KeyTaken_MissingError : PySem.W.kitOne K (.ref a.KeyTaken) (.ref a.MissingError) = some false
  v_KeyTaken_MissingError : PySem.W.exmOne K (.ref a.KeyTaken) (.ref a.MissingError) = some false
  u_InvalidNumbers_InvalidNumbers : PySem.W.kitOne K (.ref a.InvalidNumbers) (.ref a.InvalidNumbers) = some true
  v_InvalidNumbers_InvalidNumbers : PySem.W.exmOne K (.ref a.InvalidNumbers) (.ref a.InvalidNumbers) = some true
  u_InvalidKey_InvalidKey : PySem.W.kitOne K (.ref a.InvalidKey) (.ref a.InvalidKey) = some true
  v_InvalidKey_InvalidKey : PySem.W.exmOne K (.ref a.InvalidKey) (.ref a.InvalidKey) = some true
  u_KeyTaken_InvalidKey : PySem.W.kitOne K (.ref a.KeyTaken) (.ref a.InvalidKey) = some false
  v_KeyTaken_InvalidKey : PySem.W.exmOne K (.ref a.KeyTaken) (.ref a.InvalidKey) = some false
  u_KeyTaken_KeyTaken : PySem.W.kitOne K (.ref a.KeyTaken) (.ref a.KeyTaken) = some true
  v_KeyTaken_KeyTaken : PySem.W.exmOne K (.ref a.KeyTaken) (.ref a.KeyTaken) = some true
end BJL

namespace BJL
open PySem PySem.Spec PyProof.Rows L2 BJ
section
variable {P : Program} {w : World} {K : PySem.W.Frag} {mg : Str → Option Value} {base : Heap} {a : Adr}
open Evl
def dInt : PyData → Bool | .int _ => true | .bool _ => true | _ => false
def dBool : PyData → Bool | .bool _ => true | _ => false
def dStr : PyData → Bool | .str _ => true | _ => false
def dTup : PyData → Bool | .tuple _ => true | _ => false
theorem kitD (d : PyData) : kitB (tyN d) "int" = some (dInt d) ∧ kitB (tyN d) "bool" = some (dBool d) ∧ kitB (tyN d) "str" = some (dStr d) ∧ kitB (tyN d) "tuple" = some (dTup d) := by
  cases d with
  | none => exact ⟨show kitB "NoneType" "int" = _ by decide +kernel, show kitB "NoneType" "bool" = _ by decide +kernel, show kitB "NoneType" "str" = _ by decide +kernel, show kitB "NoneType" "tuple" = _ by decide +kernel⟩
  | bool b => exact ⟨show kitB "bool" "int" = some true by decide +kernel, show kitB "bool" "bool" = some true by decide +kernel, show kitB "bool" "str" = some false by decide +kernel, show kitB "bool" "tuple" = some false by decide +kernel⟩
  | int i => exact ⟨show kitB "int" "int" = some true by decide +kernel, show kitB "int" "bool" = some false by decide +kernel, show kitB "int" "str" = some false by decide +kernel, show kitB "int" "tuple" = some false by decide +kernel⟩
  | str x => exact ⟨show kitB "str" "int" = some false by decide +kernel, show kitB "str" "bool" = some false by decide +kernel, show kitB "str" "str" = some true by decide +kernel, show kitB "str" "tuple" = some false by decide +kernel⟩
  | list xs => exact ⟨show kitB "list" "int" = some false by decide +kernel, show kitB "list" "bool" = some false by decide +kernel, show kitB "list" "str" = some false by decide +kernel, show kitB "list" "tuple" = some false by decide +kernel⟩
  | tuple xs => exact ⟨show kitB "tuple" "int" = some false by decide +kernel, show kitB "tuple" "bool" = some false by decide +kernel, show kitB "tuple" "str" = some false by decide +kernel, show kitB "tuple" "tuple" = some true by decide +kernel⟩
  | dict xs => exact ⟨show kitB "dict" "int" = some false by decide +kernel, show kitB "dict" "bool" = some false by decide +kernel, show kitB "dict" "str" = some false by decide +kernel, show kitB "dict" "tuple" = some false by decide +kernel⟩
def isI : V → Bool | .int _ => true | _ => false
theorem isI_d {H : Hp} {x : V} {d : PyData} (h : Dz K H x d) : (dInt d && !dBool d) = isI x := by
  cases h <;> rfl
def isS : V → Bool | .str _ => true | _ => false
theorem isS_d {H : Hp} {x : V} {d : PyData} (h : Dz K H x d) : dStr d = isS x := by
  cases h <;> rfl
/-- texts are no longer than the model's line -/
def Fits (x : V) : Prop := ∀ z : Str, x = .str z → z.length ≤ sizeLine
def big : Int := 1000000000000000000000000000000000000000000000000000000000000000000000000000000000000000000000000000000000000000000000000000000000000000000000000000000000000000000000000000000000000000000000000000000000000000000000000000000000000000000000000000000000000000000000000000000000000000000000000000000000000
def keyI : V → Bool | .int i => decide (-big < i) && decide (i < big) | _ => false
def keyS : V → Bool | .str z => decide ((z.length : Int) ≤ 2000) | _ => false
def keyV (x : V) : Bool := keyS x || keyI x
def octV : V → Bool | .int i => decide (0 ≤ i) && decide (i ≤ 255) | _ => false
def spIsI (K : PySem.W.Frag) : Sp := fun vs H Q _ => ∃ x d, vs = [x] ∧ Dz K H x d ∧ Q (.bl (isI x)) H
theorem ok_is_integer (T : Txt P K mg a) : CallO P w K mg base 1 (.ref a.is_integer) (spIsI K) := by
  refine fnO (T.d_is_integer.okX sc_is_integer (fun vs H Q E h => ?_) (fun cdv A outer s H vs Q E hr h => ?_))
  · obtain ⟨x, d, rfl, _⟩ := h
    rfl
  · obtain ⟨x, d, rfl, dz, hq⟩ := h
    refine ⟨_, (pss_one (ps_ret (pe_and (pe_callB (call_isG' (K := K) rfl) (by rfl) T.b_isinstance (by decide +kernel) (pa_cons (pv 0) (pa_cons (pe_bltn (v := .ty "int") (u := .type "int") (by rfl) T.b_int (by decide +kernel) (by exact rfl)) pa_nil))) (pe_one (pe_not (pe_callB (call_isG' (K := K) rfl) (by rfl) T.b_isinstance (by decide +kernel) (pa_cons (pv 0) (pa_cons (pe_bltn (v := .ty "bool") (u := .type "bool") (by rfl) T.b_bool (by decide +kernel) (by exact rfl)) pa_nil)))))))), ?_⟩
    obtain ⟨k1, k2, _⟩ := kitD d
    rw [← isI_d dz] at hq
    generalize dInt d = bi at k1 hq
    generalize dBool d = bb at k2 hq
    refine ⟨_, rfl, x, _, .type (tyN d), _, bi, rfl, .ty "int", .ty (dz_ty dz), kit_ty k1, bi, rfl, ?_⟩
    cases bi with
    | false => exact hq
    | true => exact ⟨_, rfl, x, _, .type (tyN d), _, bb, rfl, .ty "bool", .ty (dz_ty dz), kit_ty k2, bb, rfl, hq⟩
def spBV (K : PySem.W.Frag) (f : V → Bool) : Sp := fun vs H Q _ => ∃ x d, vs = [x] ∧ Dz K H x d ∧ Fits x ∧ Q (.bl (f x)) H
theorem ok_is_whole_atom (T : Txt P K mg a) : CallO P w K mg base 2 (.ref a.is_whole_atom) (spBV K keyI) := by
  have G_is_integer : CallO P w K mg base 1 (.ref a.is_integer) (spIsI K) := ok_is_integer T
  refine fnO (T.d_is_whole_atom.okX sc_is_whole_atom (fun vs H Q E h => ?_) (fun cdv A outer s H vs Q E hr h => ?_))
  · obtain ⟨x, d, rfl, _⟩ := h
    rfl
  · obtain ⟨x, d, rfl, dz, hz, hq⟩ := h
    refine ⟨_, (pss_one (ps_ret (pe_and (pe_co G_is_integer (hr.mono (by decide)) rfl T.g_is_integer T.k_is_integer (takes_of rfl rfl rfl rfl) (pa_cons (pv 0) pa_nil)) (pe_one (pe_chain op_lt op_lt (pe_un un_neg (pe_glob (v := .int (1000000000000000000000000000000000000000000000000000000000000000000000000000000000000000000000000000000000000000000000000000000000000000000000000000000000000000000000000000000000000000000000000000000000000000000000000000000000000000000000000000000000000000000000000000000000000000000000000000000000000)) (by rfl) T.c_MOST_INTEGER.choose_spec ⟨_, rfl⟩)) (pv 0) (pe_glob (v := .int (1000000000000000000000000000000000000000000000000000000000000000000000000000000000000000000000000000000000000000000000000000000000000000000000000000000000000000000000000000000000000000000000000000000000000000000000000000000000000000000000000000000000000000000000000000000000000000000000000000000000000)) (by rfl) T.c_MOST_INTEGER.choose_spec ⟨_, rfl⟩)))))), ?_⟩
    refine ⟨_, rfl, x, d, rfl, dz, isI x, rfl, ?_⟩
    cases x with
    | int i =>
      refine ⟨_, rfl, _, rfl, _, _, rfl, rfl, _, rfl, ?_⟩
      rw [show keyI (.int i) = (decide (-big < i) && decide (i < big)) from rfl] at hq
      by_cases h1 : -big < i
      · rw [decide_eq_true h1] at hq
        rw [if_pos (decide_eq_true (show -(1000000000000000000000000000000000000000000000000000000000000000000000000000000000000000000000000000000000000000000000000000000000000000000000000000000000000000000000000000000000000000000000000000000000000000000000000000000000000000000000000000000000000000000000000000000000000000000000000000000000000 : Int) < i from h1))]
        exact ⟨_, _, rfl, rfl, hq⟩
      · rw [decide_eq_false h1] at hq
        rw [if_neg (by rw [decide_eq_false (show ¬ -(1000000000000000000000000000000000000000000000000000000000000000000000000000000000000000000000000000000000000000000000000000000000000000000000000000000000000000000000000000000000000000000000000000000000000000000000000000000000000000000000000000000000000000000000000000000000000000000000000000000000000 : Int) < i from h1)]; exact Bool.false_ne_true)]
        exact hq
    | _ => exact hq
theorem ok_is_text (T : Txt P K mg a) : CallO P w K mg base 2 (.ref a.is_text) (spBV K keyS) := by
  refine fnO (T.d_is_text.okX sc_is_text (fun vs H Q E h => ?_) (fun cdv A outer s H vs Q E hr h => ?_))
  · obtain ⟨x, d, rfl, _⟩ := h
    rfl
  · obtain ⟨x, d, rfl, dz, hz, hq⟩ := h
    refine ⟨_, (pss_one (ps_ret (pe_and (pe_callB (call_isG' (K := K) rfl) (by rfl) T.b_isinstance (by decide +kernel) (pa_cons (pv 0) (pa_cons (pe_bltn (v := .ty "str") (u := .type "str") (by rfl) T.b_str (by decide +kernel) (by exact rfl)) pa_nil))) (pe_one (pe_cmpR op_le (pe_callB call_len_str (by rfl) T.b_len (by decide +kernel) (pa_cons (pv 0) pa_nil)) (pe_glob (v := .int (2000)) (by rfl) T.c_MOST_CHARACTERS.choose_spec ⟨_, rfl⟩) (nomark _)))))), ?_⟩
    obtain ⟨_, _, k3, _⟩ := kitD d
    rw [isS_d dz] at k3
    refine ⟨_, rfl, x, _, .type (tyN d), _, isS x, rfl, .ty "str", .ty (dz_ty dz), kit_ty k3, isS x, rfl, ?_⟩
    cases x with
    | str z => exact ⟨_, rfl, z, rfl, hz z rfl, _, _, rfl, rfl, hq⟩
    | _ => exact hq
theorem ok_is_key (T : Txt P K mg a) : CallO P w K mg base 3 (.ref a.is_key) (spBV K keyV) := by
  have G_is_text : CallO P w K mg base 2 (.ref a.is_text) (spBV K keyS) := ok_is_text T
  have G_is_whole_atom : CallO P w K mg base 2 (.ref a.is_whole_atom) (spBV K keyI) := ok_is_whole_atom T
  refine fnO (T.d_is_key.okX sc_is_key (fun vs H Q E h => ?_) (fun cdv A outer s H vs Q E hr h => ?_))
  · obtain ⟨x, d, rfl, _⟩ := h
    rfl
  · obtain ⟨x, d, rfl, dz, hz, hq⟩ := h
    refine ⟨_, (pss_one (ps_ret (pe_or (pe_co G_is_text (hr.mono (by decide)) rfl T.g_is_text T.k_is_text (takes_of rfl rfl rfl rfl) (pa_cons (pv 0) pa_nil)) (pe_one (pe_co G_is_whole_atom (hr.mono (by decide)) rfl T.g_is_whole_atom T.k_is_whole_atom (takes_of rfl rfl rfl rfl) (pa_cons (pv 0) pa_nil)))))), ?_⟩
    refine ⟨_, rfl, x, d, rfl, dz, hz, keyS x, rfl, ?_⟩
    rw [show keyV x = (keyS x || keyI x) from rfl] at hq
    generalize keyS x = b at hq
    cases b with
    | true => exact hq
    | false => exact ⟨_, rfl, x, d, rfl, dz, hz, hq⟩
def spIsO (K : PySem.W.Frag) : Sp := fun vs H Q _ => ∃ x d, vs = [x] ∧ Dz K H x d ∧ Q (.bl (octV x)) H
theorem ok_is_octet (T : Txt P K mg a) : CallO P w K mg base 2 (.ref a.is_octet) (spIsO K) := by
  have G_is_integer : CallO P w K mg base 1 (.ref a.is_integer) (spIsI K) := ok_is_integer T
  refine fnO (T.d_is_octet.okX sc_is_octet (fun vs H Q E h => ?_) (fun cdv A outer s H vs Q E hr h => ?_))
  · obtain ⟨x, d, rfl, _⟩ := h
    rfl
  · obtain ⟨x, d, rfl, dz, hq⟩ := h
    refine ⟨_, (pss_one (ps_ret (pe_and (pe_co G_is_integer (hr.mono (by decide)) rfl T.g_is_integer T.k_is_integer (takes_of rfl rfl rfl rfl) (pa_cons (pv 0) pa_nil)) (pe_one (pe_chain op_le op_le pe_int (pv 0) pe_int))))), ?_⟩
    refine ⟨_, rfl, x, d, rfl, dz, isI x, rfl, ?_⟩
    cases x with
    | int i =>
      refine ⟨_, rfl, _, _, rfl, rfl, _, rfl, ?_⟩
      rw [show octV (.int i) = (decide (0 ≤ i) && decide (i ≤ 255)) from rfl] at hq
      by_cases h1 : 0 ≤ i
      · rw [decide_eq_true h1] at hq
        rw [if_pos (decide_eq_true h1)]
        exact ⟨_, _, rfl, rfl, hq⟩
      · rw [decide_eq_false h1] at hq
        rw [if_neg (by rw [decide_eq_false h1]; exact Bool.false_ne_true)]
        exact hq
    | _ => exact hq
/-- an error of the class C with one field -/
abbrev Bad (C : Addr) (f : Str) (x : V) (H : Hp) (E : XK) : Prop := ∀ d H', H d = none → Ex H H' → H' d = some (.xd [(f, x)]) → E (.ref C) (some d) H'
def spCheckKey (K : PySem.W.Frag) (a : Adr) : Sp := fun vs H Q E => ∃ x d, vs = [x] ∧ Dz K H x d ∧ Fits x ∧ ((keyV x = true ∧ Q .non H) ∨ (keyV x = false ∧ Bad a.InvalidKey "key" x H E))
theorem ok_check_key (T : Txt P K mg a) : CallO P w K mg base 6 (.ref a.check_key) (spCheckKey K a) := by
  have G_is_key : CallO P w K mg base 3 (.ref a.is_key) (spBV K keyV) := ok_is_key T
  refine fnO (T.d_check_key.okX sc_check_key (fun vs H Q E h => ?_) (fun cdv A outer s H vs Q E hr h => ?_))
  · obtain ⟨x, d, rfl, _⟩ := h
    rfl
  · obtain ⟨x, d, rfl, dz, hz, hx⟩ := h
    refine ⟨_, (pss_one (ps_if (pt_not (pt_val (pe_co G_is_key (hr.mono (by decide)) rfl T.g_is_key T.k_is_key (takes_of rfl rfl rfl rfl) (pa_cons (pv 0) pa_nil))))
 (pss_one (ps_raiseErr rfl T.e_InvalidKey T.i_InvalidKey T.k_InvalidKey T.x_InvalidKey T.t_InvalidKey hr (takes_of rfl rfl rfl rfl) (pa_cons (pv 0) pa_nil) (by rfl)))
 pss_nil)), ?_⟩
    refine ⟨_, rfl, x, d, rfl, dz, hz, _, rfl, ?_⟩
    rcases hx with ⟨hk, hq⟩ | ⟨hk, hq⟩
    · rw [hk]
      exact hq
    · rw [hk]
      exact ⟨_, rfl, rfl, fun d hd => hq d _ hd (Ex.new hd) upd_same⟩

end
end BJL

namespace BJL
open PySem PySem.Spec PyProof.Rows L2 BJ
section
variable {P : Program} {w : World} {K : PySem.W.Frag} {mg : Str → Option Value} {base : Heap} {a : Adr}
open Evl
def octD : PyData → Bool | .int i => decide (0 ≤ i) && decide (i ≤ 255) | _ => false
def octs : PyData → Bool | .tuple ds => decide (ds.length ≤ 2000) && ds.all octD | _ => false
theorem octV_d {H : Hp} {x : V} {d : PyData} (h : Dz K H x d) : octV x = octD d := by
  cases h <;> rfl
theorem dzAll_mem {H : Hp} : ∀ {xs : List V} {ds : List PyData}, DzAll K H xs ds → ∀ x ∈ xs, ∃ d, Dz K H x d
  | _, _, .nil => fun x h => nomatch h
  | _, _, .cons h1 h2 => fun x h => by
    rcases List.mem_cons.mp h with e | h
    · subst e; exact ⟨_, h1⟩
    · exact dzAll_mem h2 x h
theorem octs_all {H : Hp} : ∀ {xs : List V} {ds : List PyData}, DzAll K H xs ds → xs.all octV = ds.all octD
  | _, _, .nil => rfl
  | _, _, .cons h1 h2 => by rw [List.all_cons, List.all_cons, octV_d h1, octs_all h2]
/-- the objects of H, p aside, stand -/
def ExB (p : Addr) (H H' : Hp) : Prop := ∀ b o, H b = some o → b ≠ p → H' b = some o
def spOInit (K : PySem.W.Frag) (a : Adr) : Sp := fun vs H Q E => ∃ p dx x d, vs = [.ref p, x] ∧ H p = some (.ins a.Octets dx []) ∧ Dz K H x d ∧
  ((octs d = true ∧ ∀ H', ExB p H H' → H' p = some (.ins a.Octets dx [("row", x)]) → Q .non H') ∨ (octs d = false ∧ Bad a.InvalidNumbers "value" x H E))
theorem body_oinit (T : Txt P K mg a) (cdv : Value) (A : Around) (outer : List Env) (s : Shared) (H : Hp) (vs : List V) (Q : VK) (E : XK) (hr : Room 6 (A.deeper (envOfC "Octets.__init__" (defScope s_Octets___init__) s.heap.objs.size a.Octets___init__ cdv))) (h : spOInit K a vs H Q E) :
    ∃ t, PSs (cxOf (L2.CX P w) P w K mg base ["self", "numbers", "one"] "Octets.__init__" (defScope s_Octets___init__) a.Octets___init__ cdv A outer s H E) (defBody s_Octets___init__) t ∧ t { nx := fun _ H' => Q .non H', rt := Q } (start ["self", "numbers", "one"] vs) H := by
  have G_is_octet : CallO P w K mg base 2 (.ref a.is_octet) (spIsO K) := ok_is_octet T
  obtain ⟨p, dx, x, d, rfl, hp, dz, hx⟩ := h
  refine ⟨_, (pss_cons (ps_if (PW.pt (pw_or (pt_not (pt_val (pe_callB (call_isG' (K := K) rfl) (by rfl) T.b_isinstance (by decide +kernel) (pa_cons (pv 1) (pa_cons (pe_bltn (v := .ty "tuple") (u := .type "tuple") (by rfl) T.b_tuple (by decide +kernel) (by exact rfl)) pa_nil))))) (pw_or1 (pt_cmpR op_gt (pe_callB call_len_seq (by rfl) T.b_len (by decide +kernel) (pa_cons (pv 1) pa_nil)) (pe_glob (v := .int (2000)) (by rfl) T.c_MOST_NUMBERS.choose_spec ⟨_, rfl⟩) (nomark _)))))
 (pss_one (ps_raiseErr rfl T.e_InvalidNumbers T.i_InvalidNumbers T.k_InvalidNumbers T.x_InvalidNumbers T.t_InvalidNumbers hr (takes_of rfl rfl rfl rfl) (pa_cons (pv 1) pa_nil) (by rfl)))
 pss_nil)
 (pss_cons (ps_if (pt_not (pt_val (pe_callB (cr_all rfl) (by rfl) T.b_all (by decide +kernel) (pa_cons (pe_lc (own := [("one", 2)]) (g := (gName 2)) (by rfl) sc_Octets___init__.nd (pi_tup (pv 1)) (blkOk_by (own := [("one", 2)]) (N := ["self", "numbers", "one"]) (sc := defScope s_Octets___init__) (by decide +kernel)) (fun _ _ _ _ _ => (pg_name (i := 2) sc_Octets___init__.nd rfl (Or.inl rfl))) (fun _ _ _ _ _ => pts_nil) (fun _ _ _ _ _ => (pe_co G_is_octet (hr.mono (by decide)) rfl T.g_is_octet T.k_is_octet tkN (pa_cons (pv 2) pa_nil)))) pa_nil))))
 (pss_one (ps_raiseErr rfl T.e_InvalidNumbers T.i_InvalidNumbers T.k_InvalidNumbers T.x_InvalidNumbers T.t_InvalidNumbers hr (takes_of rfl rfl rfl rfl) (pa_cons (pv 1) pa_nil) (by rfl)))
 pss_nil)
 (pss_one (ps_fld (pv 0) (pv 1) rfl)))), ?_⟩
  obtain ⟨_, _, _, k4⟩ := kitD d
  have t1 : EvT (tNot (tB (tCB (rIsG K) (tCons (tVar 1) (tCons (tC (.ty "tuple")) tNil))))) (L2.start ["self", "numbers", "one"] [.ref p, x]) H (!dTup d) :=
    et_not (et_B (ev_cb (ea_cons (ev_var rfl) (ea_cons ev_c ea_nil)) (rc_is (dz_ty dz) (n := "tuple") (kit_ty k4))))
  have raise : octs d = false → ∀ H1, Ex H H1 → tRaiseErr a.InvalidNumbers ["value"] (fun cls d _ H => E cls d H) (tCons (tVar 1) tNil) { nx := fun _ H' => Q .non H', rt := Q } (L2.start ["self", "numbers", "one"] [.ref p, x]) H1 := fun hf H1 e => by
    rcases hx with ⟨ht, _⟩ | ⟨_, hq⟩
    · rw [ht] at hf
      cases hf
    · exact ⟨_, rfl, rfl, fun d hd => hq d _ (fresh_back e hd) (e.trans (Ex.new hd)) upd_same⟩
  cases hd : dTup d with
  | false =>
    rw [hd] at t1
    have hf : octs d = false := by cases d <;> first | rfl | cases hd
    exact q_when (b := true || false) (et_or t1 fun z => nomatch z) (fun _ H1 e => raise hf H1 e) (fun z => nomatch z)
  | true =>
    rw [hd] at t1
    cases dz with
    | @tup t xs ds hs ha =>
      have hl := dzAll_len ha
      have t2 : EvT (tTest (tOp (rI0 fun i j => V.bl (decide (j < i))) (tCB (fun xs H Q => ∃ p ys, xs = [.ref p] ∧ (SqL K H p ys ∨ SqT K H p ys) ∧ Q (.int ys.length) H) (tCons (tVar 1) tNil)) (tC (.int 2000)))) (L2.start ["self", "numbers", "one"] [.ref p, .ref t]) H (decide ((2000 : Int) < (xs.length : Int))) :=
        et_test (ev_op (x := .int (xs.length : Nat)) (y := .int 2000) (ev_cb (ea_cons (ev_var rfl) ea_nil) fun H1 e Q q => ⟨t, _, rfl, .inr (ex_t e hs), q H1 (Ex.refl _)⟩) ev_c rv_I0)
      by_cases hbig : 2000 < xs.length
      · have e2 : decide ((2000 : Int) < (xs.length : Int)) = true := decide_eq_true (by omega)
        rw [e2] at t2
        have hf : octs (.tuple ds) = false := by show (decide (ds.length ≤ 2000) && ds.all octD) = false; rw [decide_eq_false (by omega)]; rfl
        exact q_when (b := false || true) (et_or t1 fun _ => t2) (fun _ H1 e => raise hf H1 e) (fun z => nomatch z)
      · have e2 : decide ((2000 : Int) < (xs.length : Int)) = false := decide_eq_false (by omega)
        rw [e2] at t2
        have hv : octs (.tuple ds) = xs.all octV := by show (decide (ds.length ≤ 2000) && ds.all octD) = _; rw [decide_eq_true (by omega), octs_all ha]; rfl
        refine q_when (b := false || false) (et_or t1 fun _ => t2) (fun z => nomatch z) fun _ H1 e1 => ?_
        have el := el_all (H := H1) (vs := [2]) (te := tCa (spIsO K) (fun _ _ _ _ => False) (tCons (tVar 2) tNil)) (j := 2) (ei_tup (K := K) (tl := tVar 1) (σ := L2.start ["self", "numbers", "one"] [V.ref p, .ref t]) (ev_var rfl) (ex_t e1 hs)) (fun y => .bl (octV y)) (by omega) (fun _ => rfl)
          (fun y hy H2 e2 => ev_ca (ea_cons (ev_var rfl) ea_nil) fun H3 e3 Q E q => by
            obtain ⟨dy, hdy⟩ := dzAll_mem ha y hy
            exact ⟨y, dy, rfl, dz_ex ((e1.trans e2).trans e3) hdy, q H3 (Ex.refl _)⟩)
        have el2 := ev_allL (K := K) (bs := xs.map octV) (by rw [List.map_map]; exact el)
        have el3 := et_not (et_B (ev_is (w := V.bl (octs (.tuple ds))) el2 (by rw [List.all_map, hv]; rfl)))
        refine q_when el3 (fun hb H2 e2 => raise (by rw [← Bool.not_eq_true']; exact hb) H2 (e1.trans e2)) fun hb H2 e2 => ?_
        rcases hx with ⟨_, hq⟩ | ⟨hf, _⟩
        · refine ⟨_, rfl, _, rfl, p, a.Octets, dx, [], rfl, (e1.trans e2) _ _ hp, T.c_Octets, T.n_Octets_row, (by decide), ?_⟩
          refine hq _ (fun b o hb hbp => ?_) upd_same
          rw [upd_ne hbp]
          exact (e1.trans e2) _ _ hb
        · rw [hf] at hb
          cases hb
    | _ => cases hd
/-- Octets(..): every way -/
def spOct (K : PySem.W.Frag) (a : Adr) (x : V) : Hp → VK → XK → Prop := fun H Q E => ∃ d, Dz K H x d ∧
  ((octs d = true ∧ ∀ p dx H', H p = none → sysModules < p → Ex H H' → H' p = some (.ins a.Octets dx [("row", x)]) → Q (.ref p) H') ∨ (octs d = false ∧ Bad a.InvalidNumbers "value" x H E))
theorem mk_oct {x : V} {H : Hp} {Q : VK} {E : XK} (h : spOct K a x H Q E) (p dx : Addr) (hp : H p = none) (hd : H dx = none) (ne : dx ≠ p) (hs : sysModules < p) :
    spOInit K a [.ref p, x] (upd (upd H dx (.own p)) p (.ins a.Octets dx [])) (fun v H2 => v = .non ∧ Q (.ref p) H2) E := by
  obtain ⟨d, dz, h⟩ := h
  have e1 : Ex H (upd (upd H dx (.own p)) p (.ins a.Octets dx [])) := (Ex.new hd).trans (Ex.new (by rw [upd_ne ne.symm]; exact hp))
  refine ⟨p, dx, x, d, rfl, upd_same, dz_ex e1 dz, ?_⟩
  rcases h with ⟨ho, hq⟩ | ⟨ho, hq⟩
  · refine .inl ⟨ho, fun H' he hp' => ⟨rfl, hq p dx H' hp hs (fun b o hb => he b o (e1 b o hb) fun z => ?_) hp'⟩⟩
    rw [z] at hb
    rw [hp] at hb
    cases hb
  · exact .inr ⟨ho, fun d' H' hd' he hx => hq d' H' (fresh_back e1 hd') (e1.trans he) hx⟩
theorem ok_Octets (T : Txt P K mg a) : (CallX P w K mg base 8 (.ref a.Octets) [] fun vs zs H Q E => ∃ x, vs = [x] ∧ zs = [] ∧ spOct K a x H Q E) ∧
    (CallX P w K mg base 8 (.ref a.Octets) ["numbers"] fun vs zs H Q E => ∃ x, vs = [] ∧ zs = [x] ∧ spOct K a x H Q E) ∧
    (CallX P w K mg base 8 (.ref a.Octets) [] fun vs zs H Q E => vs = [] ∧ zs = [] ∧ spOct K a (.ref a.Octets___init___dv) H Q E) := by
  obtain ⟨h1, h2, h3⟩ := T.d_Octets___init__.ok (N := ["self", "numbers", "one"]) (sp := spOInit K a) (P := P) (w := w) (base := base) (mg := mg) (k := 6) sc_Octets___init__ (fun vs H Q E h => by obtain ⟨p, dx, x, d, rfl, _⟩ := h; rfl) (fun cdv A outer s H vs Q E hr h => body_oinit T cdv A outer s H vs Q E hr h)
  refine ⟨(CallX.make T.m_Octets h1).imp ?_, (CallX.make T.m_Octets h2).imp ?_, (CallX.make T.m_Octets h3).imp ?_⟩
  · rintro vs zs H Q E ⟨x, rfl, rfl, h⟩ p dx hp hd ne hs
    exact ⟨rfl, rfl, mk_oct h p dx hp hd ne hs⟩
  · rintro vs zs H Q E ⟨x, rfl, rfl, h⟩ p dx hp hd ne hs
    exact ⟨rfl, rfl, mk_oct h p dx hp hd ne hs⟩
  · rintro vs zs H Q E ⟨rfl, rfl, h⟩ p dx hp hd ne hs
    exact ⟨rfl, rfl, mk_oct h p dx hp hd ne hs⟩

end
end BJL

namespace BJL
open PySem PySem.Spec PyProof.Rows L2 BJ
section
variable {P : Program} {w : World} {K : PySem.W.Frag} {mg : Str → Option Value} {base : Heap} {a : Adr}
open Evl
def iOf (xs : List V) : List Int := xs.filterMap fun | .int i => some i | _ => none
def sOf (xs : List V) : List Str := xs.filterMap fun | .str z => some z | _ => none
def ascV (xs : List V) : List V := (srtI (iOf xs)).map V.int ++ (srtS (sOf xs)).map V.str
theorem iOf_filter : ∀ xs : List V, (xs.filter isI).map (fun x => x) = (iOf xs).map V.int
  | [] => rfl
  | x :: xs => by
    have ih := iOf_filter xs
    cases x with
    | int i => exact congrArg (List.cons (V.int i)) ih
    | _ => exact ih
theorem sOf_filter : ∀ xs : List V, (xs.filter isS).map (fun x => x) = (sOf xs).map V.str
  | [] => rfl
  | x :: xs => by
    have ih := sOf_filter xs
    cases x with
    | str i => exact congrArg (List.cons (V.str i)) ih
    | _ => exact ih
theorem iOf_len : ∀ xs : List V, (iOf xs).length + (sOf xs).length ≤ xs.length
  | [] => Nat.le_refl _
  | x :: xs => by
    have ih := iOf_len xs
    cases x with
    | int i => show (i :: iOf xs).length + (sOf xs).length ≤ _; simp only [List.length_cons]; omega
    | str z => show (iOf xs).length + (z :: sOf xs).length ≤ _; simp only [List.length_cons]; omega
    | _ => show (iOf xs).length + (sOf xs).length ≤ _; simp only [List.length_cons]; omega
theorem srtI_len (ns : List Int) : (srtI ns).length = ns.length := (List.mergeSort_perm ns _).length_eq
theorem srtS_len (ns : List Str) : (srtS ns).length = ns.length := (List.mergeSort_perm ns _).length_eq
theorem ascV_len (xs : List V) : (ascV xs).length ≤ xs.length := by
  unfold ascV
  rw [List.length_append, List.length_map, List.length_map, srtI_len, srtS_len]
  exact iOf_len xs
/-- ascending -/
def spAsc (K : PySem.W.Frag) : Sp := fun vs H Q _ => ∃ l xs, vs = [.ref l] ∧ SqL K H l xs ∧ (∀ x ∈ xs, ∃ d, Dz K H x d) ∧ xs.length < 64 ∧ ∀ q H', H q = none → Ex H H' → H' q = some (.lst (ascV xs)) → Q (.ref q) H'
theorem ok_ascending (T : Txt P K mg a) : CallO P w K mg base 2 (.ref a.ascending) (spAsc K) := by
  have G_is_integer : CallO P w K mg base 1 (.ref a.is_integer) (spIsI K) := ok_is_integer T
  refine fnO (T.d_ascending.okX sc_ascending (fun vs H Q E h => ?_) (fun cdv A outer s H vs Q E hr h => ?_))
  · obtain ⟨l, xs, rfl, _⟩ := h
    rfl
  · obtain ⟨l, xs, rfl, hs, hd, hl, hq⟩ := h
    refine ⟨_, (pss_one (ps_ret (pe_op op_catS (pe_callB cr_sortedI (by rfl) T.b_sorted (by decide +kernel) (pa_cons (pe_lc (own := [("key", 1)]) (g := (gName 1)) (by rfl) sc_ascending.nd (pi_list (pv 0)) (blkOk_by (own := [("key", 1)]) (N := ["keys", "key"]) (sc := defScope s_ascending) (by decide +kernel)) (fun _ _ _ _ _ => (pg_name (i := 1) sc_ascending.nd rfl (Or.inl rfl))) (fun _ _ _ _ _ => (pts_one (pt_val (pe_co G_is_integer (hr.mono (by decide)) rfl T.g_is_integer T.k_is_integer tkN (pa_cons (pv 1) pa_nil))))) (fun _ _ _ _ _ => (pv 1))) pa_nil)) (pe_callB cr_sortedS (by rfl) T.b_sorted (by decide +kernel) (pa_cons (pe_lc (own := [("key", 1)]) (g := (gName 1)) (by rfl) sc_ascending.nd (pi_list (pv 0)) (blkOk_by (own := [("key", 1)]) (N := ["keys", "key"]) (sc := defScope s_ascending) (by decide +kernel)) (fun _ _ _ _ _ => (pg_name (i := 1) sc_ascending.nd rfl (Or.inl rfl))) (fun _ _ _ _ _ => (pts_one (pt_val (pe_callB (call_isG' (K := K) rfl) (by rfl) T.b_isinstance (by decide +kernel) (pa_cons (pv 1) (pa_cons (pe_bltn (v := .ty "str") (u := .type "str") (by rfl) T.b_str (by decide +kernel) (by exact rfl)) pa_nil)))))) (fun _ _ _ _ _ => (pv 1))) pa_nil))))), ?_⟩
    have il := iOf_len xs
    refine s_retL (el_cat (xs := (srtI (iOf xs)).map V.int) (ys := (srtS (sOf xs)).map V.str) (el_sortI ?_) (el_sortS ?_ (by omega)) (by rw [List.length_map, List.length_map, srtI_len, srtS_len]; omega)) (fun q H1 hn e h1 => hq q H1 hn e h1)
    · rw [← iOf_filter]
      exact el_at (vs := [1]) (j := 1) (te := tVar 1) (ei_list (K := K) (tl := tVar 0) (σ := L2.start ["keys", "key"] [V.ref l]) (ev_var rfl) hs) isI (fun x => x) (by omega) (fun _ => rfl)
        (fun y hy H1 e1 => et_B (ev_ca (ea_cons (ev_var rfl) ea_nil) fun H2 e2 Q E q => by
          obtain ⟨d, dz⟩ := hd y hy
          exact ⟨y, d, rfl, dz_ex (e1.trans e2) dz, q H2 (Ex.refl _)⟩))
        (fun y hy H1 e1 _ => ev_var rfl)
    · rw [← sOf_filter]
      exact el_at (vs := [1]) (j := 1) (te := tVar 1) (ei_list (K := K) (tl := tVar 0) (σ := L2.start ["keys", "key"] [V.ref l]) (ev_var rfl) hs) isS (fun x => x) (by omega) (fun _ => rfl)
        (fun y hy H1 e1 => by
          obtain ⟨d, dz⟩ := hd y hy
          obtain ⟨_, _, k3, _⟩ := kitD d
          rw [isS_d dz] at k3
          exact et_B (ev_cb (ea_cons (ev_var rfl) (ea_cons ev_c ea_nil)) (rc_is (dz_ty (dz_ex e1 dz)) (n := "str") (kit_ty k3))))
        (fun y hy H1 e1 _ => ev_var rfl)
/-- the first member that is wrong: true: no key; false: there already -/
def bagErr (seen : List V) : List V → Option (Bool × V)
  | [] => none
  | x :: xs => if keyV x = false then some (true, x) else if inV x seen = true then some (false, x) else bagErr (seen ++ [x]) xs
def keyOf : V → Key | .int i => .inl i | .str z => .inr z | _ => .inl 0
def kvB (ys : List V) : List (Key × V) := ys.map fun y => (keyOf y, .bl true)
theorem key_cases {x : V} (h : keyV x = true) : (∃ i, x = .int i) ∨ ∃ z, x = .str z := by
  cases x with
  | int i => exact .inl ⟨i, rfl⟩
  | str z => exact .inr ⟨z, rfl⟩
  | _ => cases h
theorem keyOf_eq {x y : V} (hx : keyV x = true) (hy : keyV y = true) : decide (keyOf y = keyOf x) = eqV y x := by
  rcases key_cases hx with ⟨i, rfl⟩ | ⟨z, rfl⟩ <;> rcases key_cases hy with ⟨j, rfl⟩ | ⟨u, rfl⟩
  · show decide ((Sum.inl j : Key) = Sum.inl i) = (j == i)
    by_cases e : j = i
    · subst e; rw [decide_eq_true rfl, beq_self_eq_true]
    · rw [decide_eq_false (fun q => e (Sum.inl.inj q))]; exact (beq_eq_false_iff_ne.mpr e).symm
  · exact decide_eq_false (fun q => nomatch q)
  · exact decide_eq_false (fun q => nomatch q)
  · show decide ((Sum.inr u : Key) = Sum.inr z) = (u == z)
    by_cases e : u = z
    · subst e; rw [decide_eq_true rfl, beq_self_eq_true]
    · rw [decide_eq_false (fun q => e (Sum.inr.inj q))]; exact (beq_eq_false_iff_ne.mpr e).symm
theorem kvB_in {x : V} (hx : keyV x = true) : ∀ {ys : List V}, (∀ y ∈ ys, keyV y = true) → (valV (kvB ys) (keyOf x)).isSome = inV x ys
  | [], _ => rfl
  | y :: ys, h => by
    have e := keyOf_eq hx (h y List.mem_cons_self)
    have ih := kvB_in hx (ys := ys) fun z hz => h z (List.mem_cons_of_mem _ hz)
    show (valV ((keyOf y, V.bl true) :: kvB ys) (keyOf x)).isSome = (eqV y x || inV x ys)
    by_cases q : keyOf y = keyOf x
    · rw [valV_pos (p := (keyOf y, V.bl true)) q, ← e, decide_eq_true q]; rfl
    · rw [valV_neg (p := (keyOf y, V.bl true)) q, ← e, decide_eq_false q, ih]; rfl
theorem kvB_keys : ∀ {ys : List V}, (∀ y ∈ ys, keyV y = true) → (kvB ys).map (fun kv => kV kv.1) = ys
  | [], _ => rfl
  | y :: ys, h => by
    have ih := kvB_keys (ys := ys) fun z hz => h z (List.mem_cons_of_mem _ hz)
    show kV (keyOf y) :: (kvB ys).map (fun kv => kV kv.1) = y :: ys
    rw [ih]
    rcases key_cases (h y List.mem_cons_self) with ⟨i, rfl⟩ | ⟨z, rfl⟩ <;> rfl
theorem bagErr_keys : ∀ {xs seen : List V}, bagErr seen xs = none → ∀ x ∈ xs, keyV x = true
  | [], _, _ => fun x h => nomatch h
  | x :: xs, seen, h => fun y hy => by
    unfold bagErr at h
    split at h
    · cases h
    · rename_i hk
      split at h
      · cases h
      · rcases List.mem_cons.mp hy with e | hy
        · rw [e]; exact Bool.not_eq_false _ ▸ hk
        · exact bagErr_keys h y hy

end
end BJL

namespace BJL
open PySem PySem.Spec PyProof.Rows L2 BJ
section
variable {P : Program} {w : World} {K : PySem.W.Frag} {mg : Str → Option Value} {base : Heap} {a : Adr}
open Evl
theorem keyOf_kV (k : Key) : keyOf (kV k) = k := by cases k <;> rfl
theorem key_kV {x : V} (h : keyV x = true) : x = kV (keyOf x) := by
  rcases key_cases h with ⟨i, rfl⟩ | ⟨z, rfl⟩ <;> rfl
theorem bagErr_dist : ∀ {xs seen : List V}, bagErr seen xs = none → ∀ i x, xs[i]? = some x → inV x (seen ++ xs.take i) = false
  | [], _, _ => fun i x h => by simp at h
  | y :: xs, seen, h => fun i x hx => by
    unfold bagErr at h
    split at h
    · cases h
    · split at h
      · cases h
      · rename_i hk
        cases i with
        | zero =>
          have e : y = x := by simpa using hx
          subst e
          simpa using hk
        | succ i =>
          have ih := bagErr_dist h i x (by simpa using hx)
          simpa [List.append_assoc] using ih
theorem bagErr_cons (seen : List V) (x : V) (xs : List V) : bagErr seen (x :: xs) = if keyV x = false then some (true, x) else if inV x seen = true then some (false, x) else bagErr (seen ++ [x]) xs := by rw [bagErr]
theorem bagErr_at {xs : List V} {i : Nat} {x : V} (hi : xs[i]? = some x) (hI : bagErr (xs.take i) (xs.drop i) = bagErr [] xs) :
    (keyV x = false → bagErr [] xs = some (true, x)) ∧ (keyV x = true → inV x (xs.take i) = true → bagErr [] xs = some (false, x)) ∧ (keyV x = true → inV x (xs.take i) = false → bagErr (xs.take (i + 1)) (xs.drop (i + 1)) = bagErr [] xs) := by
  have hd : xs.drop i = x :: xs.drop (i + 1) := by
    have hl := (List.getElem?_eq_some_iff.mp hi)
    obtain ⟨h1, h2⟩ := hl
    rw [List.drop_eq_getElem_cons h1, h2]
  have ht : xs.take (i + 1) = xs.take i ++ [x] := by
    rw [List.take_add_one, hi]
    rfl
  rw [hd, bagErr_cons] at hI
  refine ⟨fun h => ?_, fun h h2 => ?_, fun h h2 => ?_⟩
  · rw [if_pos h] at hI
    exact hI.symm
  · rw [if_neg (by rw [h]; decide), if_pos h2] at hI
    exact hI.symm
  · rw [if_neg (by rw [h]; decide), if_neg (by rw [h2]; decide)] at hI
    rw [ht]
    exact hI
def bagEnd (a : Adr) (xs : List V) (H : Hp) (E : XK) (good : Prop) : Prop := match bagErr [] xs with
  | none => good
  | some (true, x) => Bad a.InvalidKey "key" x H E
  | some (false, x) => Bad a.KeyTaken "key" x H E
def spBInit (K : PySem.W.Frag) (a : Adr) : Sp := fun vs H Q E => ∃ p dx t xs, vs = [.ref p, .ref t] ∧ H p = some (.ins a.Bag dx []) ∧ SqT K H t xs ∧ (∀ x ∈ xs, ∃ d, Dz K H x d) ∧ (∀ x ∈ xs, Fits x) ∧ xs.length < 64 ∧
  bagEnd a xs H E (∀ H' tt, H tt = none → ExB p H H' → H' p = some (.ins a.Bag dx [("kept_keys", .ref tt)]) → H' tt = some (.tup (ascV xs)) → Q .non H')
theorem body_binit (T : Txt P K mg a) (cdv : Value) (A : Around) (outer : List Env) (s : Shared) (H : Hp) (vs : List V) (Q : VK) (E : XK) (hr : Room 8 (A.deeper (envOfC "Bag.__init__" (defScope s_Bag___init__) s.heap.objs.size a.Bag___init__ cdv))) (h : spBInit K a vs H Q E) :
    ∃ t, PSs (cxOf (L2.CX P w) P w K mg base ["self", "members", "found", "key"] "Bag.__init__" (defScope s_Bag___init__) a.Bag___init__ cdv A outer s H E) (defBody s_Bag___init__) t ∧ t { nx := fun _ H' => Q .non H', rt := Q } (start ["self", "members", "found", "key"] vs) H := by
  have G_check_key : CallO P w K mg base 6 (.ref a.check_key) (spCheckKey K a) := ok_check_key T
  have G_ascending : CallO P w K mg base 2 (.ref a.ascending) (spAsc K) := ok_ascending T
  obtain ⟨p, dx, t, xs, rfl, hp, ht, hdz, hfit, hlen, hend⟩ := h
  have hu := hu_of hr
  refine ⟨_, (pss_cons (ps_set (i := 2) sc_Bag___init__.nd rfl (Or.inl rfl) pe_dnewK)
 (pss_cons (ps_for (passes_of rfl) rfl (pi_tup (pv 1)) (pg_name (i := 3) sc_Bag___init__.nd rfl (Or.inl rfl))
 (pss_cons (ps_expr (pe_co G_check_key (hr.mono (by decide)) rfl T.g_check_key T.k_check_key (takes_of rfl rfl rfl rfl) (pa_cons (pv 3) pa_nil)))
 (pss_cons (ps_if (pt_cmp (pc_din hu (pv 3) (pv 2)))
 (pss_one (ps_raiseErr rfl T.e_KeyTaken T.i_KeyTaken T.k_KeyTaken T.x_KeyTaken T.t_KeyTaken hr (takes_of rfl rfl rfl rfl) (pa_cons (pv 3) pa_nil) (by rfl)))
 pss_nil)
 (pss_one (ps_dput hu (pv 2) (pv 3) pe_bl rfl)))))
 (pss_one (ps_fld (pv 0) (pe_callTy call_tuple_of (by rfl) T.b_tuple (by decide +kernel) (pa_cons (pe_co G_ascending (hr.mono (by decide)) rfl T.g_ascending T.k_ascending (takes_of rfl rfl rfl rfl) (pa_cons (pe_callTy (call_list_dK rfl) (by rfl) T.b_list (by decide +kernel) (pa_cons (pv 2) pa_nil)) pa_nil)) pa_nil)) rfl)))), ?_⟩
  intro d hd
  have pd : p ≠ d := ne_of_none hp hd
  have e0 : Ex H (upd H d (.dK [])) := Ex.new hd
  refine q_forT (K := K) (a := t) (xs := xs) (ev_var rfl) (ex_t e0 ht) (fun i σ' H' => ∃ v, σ' = [some (.ref p), some (.ref t), some (.ref d), v] ∧ Ex H H' ∧ H' d = some (.dK (kvB (xs.take i))) ∧ bagErr (xs.take i) (xs.drop i) = bagErr [] xs ∧ ∀ y ∈ xs.take i, keyV y = true)
    (fun H1 e1 => ⟨none, rfl, e0.trans e1, e1 _ _ upd_same, rfl, fun y hy => by simp at hy⟩) (fun i σ' H' _ ⟨_, _, e, _⟩ => ex_t e ht) ?_ ?_
  · rintro i x σ' H' hi ⟨v, rfl, eH, hD, hI, hk⟩
    obtain ⟨b1, b2, b3⟩ := bagErr_at hi hI
    have hm : x ∈ xs := List.mem_of_getElem? hi
    have hil : i < xs.length := (List.getElem?_eq_some_iff.mp hi).1
    obtain ⟨dd, dz⟩ := hdz x hm
    have bad : ∀ {C : Addr}, Bad C "key" x H E → Bad C "key" x H' E := fun hb d' H2 hd' he hx => hb d' H2 (fresh_back eH hd') (eH.trans he) hx
    cases kx : keyV x with
    | false =>
      unfold bagEnd at hend
      rw [b1 kx] at hend
      exact ⟨_, rfl, x, dd, rfl, dz_ex eH dz, hfit x hm, .inr ⟨kx, bad hend⟩⟩
    | true =>
      refine ⟨_, rfl, x, dd, rfl, dz_ex eH dz, hfit x hm, .inl ⟨kx, ?_⟩⟩
      have kin := kvB_in kx hk
      obtain ⟨k, rfl⟩ : ∃ k : Key, x = kV k := ⟨_, key_kV kx⟩
      rw [keyOf_kV] at kin
      refine ⟨_, rfl, _, rfl, d, _, rfl, DGet.k (k := k) hD, _, rfl, ?_⟩
      cases ev : valV (kvB (xs.take i)) k with
      | some z =>
        rw [ev] at kin
        refine iteT ?_
        unfold bagEnd at hend
        rw [b2 kx kin.symm] at hend
        exact ⟨_, rfl, rfl, fun d' hd' => (bad hend) d' _ hd' (Ex.new hd') upd_same⟩
      | none =>
        rw [ev] at kin
        refine iteF ?_
        have hl2 : (kvB (xs.take i)).length ≤ xs.length := by
          show (List.map _ _).length ≤ _
          rw [List.length_map, List.length_take]
          omega
        refine ⟨_, rfl, _, rfl, d, _, rfl, DPut.k (k := k) hD (small1000 (by omega)), ?_⟩
        have ht2 : xs.take (i + 1) = xs.take i ++ [kV k] := by
          rw [List.take_add_one, hi]
          rfl
        refine ⟨_, rfl, fun b o hb => ?_, ?_, b3 kx kin.symm, fun y hy => ?_⟩
        · rw [upd_ne (ne_of_none hb hd)]
          exact eH b o hb
        · refine upd_same.trans ?_
          rw [putK_new _ ev, ht2]
          show _ = some (HO.dK (List.map _ _))
          rw [List.map_append]
          show _ = some (HO.dK (kvB (xs.take i) ++ [(keyOf (kV k), V.bl true)]))
          rw [keyOf_kV]
        · rw [ht2] at hy
          rcases List.mem_append.mp hy with hy | hy
          · exact hk y hy
          · rw [List.mem_singleton.mp hy]
            exact kx
  · rintro σ' H' ⟨v, rfl, eH, hD, hI, hk⟩
    rw [List.take_length] at hD hk hI
    rw [List.drop_length] at hI
    have hI : bagErr [] xs = none := hI.symm.trans (by unfold bagErr; rfl)
    unfold bagEnd at hend
    rw [hI] at hend
    refine ⟨_, rfl, d, _, rfl, hD, fun l hl => ?_⟩
    rw [kvB_keys hk]
    have e1 : Ex H' (upd H' l (.lst xs)) := Ex.new hl
    refine ⟨l, xs, rfl, sq_of upd_same, fun x hx => ?_, hlen, fun q H2 hq e2 hx2 => ?_⟩
    · obtain ⟨dd, dz⟩ := hdz x hx
      exact ⟨dd, dz_ex (eH.trans e1) dz⟩
    · refine ⟨q, ascV xs, rfl, .inl ⟨sq_of hx2, fun t2 ht2 => ?_⟩⟩
      have eA : Ex H (upd H2 t2 (.tup (ascV xs))) := ((eH.trans e1).trans e2).trans (Ex.new ht2)
      refine ⟨_, rfl, p, a.Bag, dx, [], rfl, eA _ _ hp, T.c_Bag, T.n_Bag_kept_keys, (by decide), ?_⟩
      have pt : t2 ≠ p := fun z => by
        subst z
        rw [((eH.trans e1).trans e2) _ _ hp] at ht2
        cases ht2
      refine hend _ t2 (fresh_back ((eH.trans e1).trans e2) ht2) (fun b o hb hbp => ?_) upd_same ?_
      · rw [upd_ne hbp]
        exact eA _ _ hb
      · rw [upd_ne pt]
        exact upd_same

/-- Bag(k, ..) -/
def spBag (K : PySem.W.Frag) (a : Adr) : Sp := fun xs H Q E => (∀ x ∈ xs, ∃ d, Dz K H x d) ∧ (∀ x ∈ xs, Fits x) ∧ xs.length < 64 ∧
  bagEnd a xs H E (∀ p dx H' tt, H p = none → sysModules < p → H tt = none → Ex H H' → H' p = some (.ins a.Bag dx [("kept_keys", .ref tt)]) → H' tt = some (.tup (ascV xs)) → Q (.ref p) H')
theorem bagEnd_imp {a : Adr} {xs : List V} {H H' : Hp} {E E' : XK} {g g' : Prop} (h : bagEnd a xs H E g) (h1 : ∀ C x, Bad C "key" x H E → Bad C "key" x H' E') (h2 : bagErr [] xs = none → g → g') : bagEnd a xs H' E' g' := by
  unfold bagEnd at *
  cases e : bagErr [] xs with
  | none => rw [e] at h; exact h2 e h
  | some q =>
    obtain ⟨b, x⟩ := q
    rw [e] at h
    cases b with
    | true => exact h1 _ _ h
    | false => exact h1 _ _ h
theorem ok_Bag (T : Txt P K mg a) : CallX P w K mg base 10 (.ref a.Bag) [] fun vs zs H Q E => zs = [] ∧ spBag K a vs H Q E := by
  have h1 := (T.d_Bag___init__.ok (N := ["self", "members", "found", "key"]) (sp := spBInit K a) (P := P) (w := w) (base := base) (mg := mg) (k := 8) sc_Bag___init__ (fun cdv A outer s H vs Q E hr h => body_binit T cdv A outer s H vs Q E hr h)).x
  refine (CallX.make T.m_Bag h1).imp ?_
  rintro xs zs H Q E ⟨rfl, hdz, hfit, hlen, hend⟩ p dx hp hd ne hs
  have e1 : Ex H (upd (upd H dx (.own p)) p (.ins a.Bag dx [])) := (Ex.new hd).trans (Ex.new (by rw [upd_ne ne.symm]; exact hp))
  refine ⟨rfl, [.ref p], xs, rfl, rfl, (by rw [sizeLine_eq]; omega), fun t ht => ?_⟩
  have e2 := e1.trans (Ex.new (o := .tup xs) ht)
  refine ⟨p, dx, t, xs, rfl, (Ex.new ht) _ _ upd_same, st_of upd_same, fun x hx => ?_, hfit, hlen, ?_⟩
  · obtain ⟨d, dz⟩ := hdz x hx
    exact ⟨d, dz_ex e2 dz⟩
  · refine bagEnd_imp hend (fun C x hb d' H2 hd' he hx => hb d' H2 (fresh_back e2 hd') (e2.trans he) hx) fun _ hg H' tt htt he hp' ht' => ⟨rfl, hg p dx H' tt hp hs (fresh_back e2 htt) (fun b o hb => he b o (e2 b o hb) fun z => ?_) hp' ht'⟩
    rw [z, hp] at hb
    cases hb
/-- Bag.of -/
def spBagOf (K : PySem.W.Frag) (a : Adr) : Sp := fun vs H Q E => ∃ x, vs = [.ref a.Bag, x] ∧ ((∃ n, TyX K H x (.type n) ∧ kitB n "tuple" = some false ∧ Bad a.InvalidKey "key" x H E) ∨ ∃ t xs, x = .ref t ∧ SqT K H t xs ∧ spBag K a xs H Q E)
theorem spBag_ex {xs : List V} {H H' : Hp} {Q : VK} {E : XK} (e : Ex H H') (h : spBag K a xs H Q E) : spBag K a xs H' Q E := by
  obtain ⟨hdz, hfit, hlen, hend⟩ := h
  refine ⟨fun x hx => ?_, hfit, hlen, bagEnd_imp hend (fun C x hb d' H2 hd' he hx => hb d' H2 (fresh_back e hd') (e.trans he) hx) fun _ hg p dx H2 tt hp hs htt he => hg p dx H2 tt (fresh_back e hp) hs (fresh_back e htt) (e.trans he)⟩
  obtain ⟨d, dz⟩ := hdz x hx
  exact ⟨d, dz_ex e dz⟩
theorem of_Bag_of (T : Txt P K mg a) : ∃ fd, FnOk P w K mg base (L2.CX P w) 12 a.Bag_of fd ["cls", "members"] (spBagOf K a) ∧ Binds K fd ["cls", "members"] [] ∧ Fun K "of" "Bag.of" s_Bag_of a.Bag_of fd := by
  refine T.d_Bag_of.okX sc_Bag_of (fun vs H Q E h => ?_) (fun cdv A outer s H vs Q E hr h => ?_)
  · obtain ⟨x, rfl, _⟩ := h
    rfl
  · obtain ⟨x, rfl, h⟩ := h
    refine ⟨_, (pss_cons (ps_if (pt_not (pt_val (pe_callB (call_isG' (K := K) rfl) (by rfl) T.b_isinstance (by decide +kernel) (pa_cons (pv 1) (pa_cons (pe_bltn (v := .ty "tuple") (u := .type "tuple") (by rfl) T.b_tuple (by decide +kernel) (by exact rfl)) pa_nil)))))
 (pss_one (ps_raiseErr rfl T.e_InvalidKey T.i_InvalidKey T.k_InvalidKey T.x_InvalidKey T.t_InvalidKey hr (takes_of rfl rfl rfl rfl) (pa_cons (pv 1) pa_nil) (by rfl)))
 pss_nil)
 (pss_one (ps_ret (pe_vs (i := 0) rfl (Or.inl rfl) (takes_of rfl rfl rfl rfl) (pv 1))))), ?_⟩
    rcases h with ⟨n, ty, ht, hq⟩ | ⟨t, xs, rfl, hs, h⟩
    · have t2 : EvT (tNot (tB (tCB (rIsG K) (tCons (tVar 1) (tCons (tC (.ty "tuple")) tNil))))) (L2.start ["cls", "members"] [.ref a.Bag, x]) H (!false) :=
        et_not (et_B (ev_cb (ea_cons (ev_var rfl) (ea_cons ev_c ea_nil)) (rc_is ty (n := "tuple") (kit_ty ht))))
      exact q_when t2 (fun _ H1 e => ⟨_, rfl, rfl, fun d hd => hq d _ (fresh_back e hd) (e.trans (Ex.new hd)) upd_same⟩) (fun z => nomatch z)
    · have t2 : EvT (tNot (tB (tCB (rIsG K) (tCons (tVar 1) (tCons (tC (.ty "tuple")) tNil))))) (L2.start ["cls", "members"] [.ref a.Bag, .ref t]) H (!true) :=
        et_not (et_B (ev_cb (ea_cons (ev_var rfl) (ea_cons ev_c ea_nil)) (rc_is (ty_tup hs) (n := "tuple") (kit_ty (by decide +kernel)))))
      refine q_when t2 (fun z => nomatch z) fun _ H1 e => ?_
      have G := (ok_Bag (P := P) (w := w) (base := base) (mg := mg) T).o
      exact ⟨a.Bag, 10, _, rfl, T.k_Bag, G.mono (by decide), hr.mono (by decide), _, rfl, t, xs, rfl, .inl (ex_t e hs), rfl, spBag_ex e h⟩

end
end BJL

namespace BJL
open PySem PySem.Spec PyProof.Rows L2 BJ
section
variable {P : Program} {w : World} {K : PySem.W.Frag} {mg : Str → Option Value} {base : Heap} {a : Adr}
open Evl
/-- a property that hands out a field -/
def spGet (K : PySem.W.Frag) (f : Str) : Sp := fun vs H Q _ => ∃ p C dx v fs, vs = [.ref p] ∧ H p = some (.ins C dx fs) ∧ Cls K C ∧ NoAttr K C f ∧ fs.lookup f = some v ∧ Q v H
def spShape (z : Str) : Sp := fun vs H Q _ => ∃ p, vs = [p] ∧ Q (.str z) H
theorem ok_Octets_numbers (T : Txt P K mg a) : CallO P w K mg base 1 (.ref a.Octets_numbers) (spGet K "row") := by
  refine fnO (T.d_Octets_numbers.okX sc_Octets_numbers (fun vs H Q E h => ?_) (fun cdv A outer s H vs Q E hr h => ?_))
  · obtain ⟨p, C, dx, v, fs, rfl, _⟩ := h
    rfl
  · obtain ⟨p, C, dx, v, fs, rfl, hp, c, n, l, hq⟩ := h
    exact ⟨_, (pss_one (ps_ret (pe_fld (pv 0) rfl))), _, rfl, p, C, dx, fs, v, rfl, hp, c, n, l, hq⟩
theorem ok_Bag_members (T : Txt P K mg a) : CallO P w K mg base 1 (.ref a.Bag_members) (spGet K "kept_keys") := by
  refine fnO (T.d_Bag_members.okX sc_Bag_members (fun vs H Q E h => ?_) (fun cdv A outer s H vs Q E hr h => ?_))
  · obtain ⟨p, C, dx, v, fs, rfl, _⟩ := h
    rfl
  · obtain ⟨p, C, dx, v, fs, rfl, hp, c, n, l, hq⟩ := h
    exact ⟨_, (pss_one (ps_ret (pe_fld (pv 0) rfl))), _, rfl, p, C, dx, fs, v, rfl, hp, c, n, l, hq⟩
theorem ok_Octets_shape (T : Txt P K mg a) : CallO P w K mg base 1 (.ref a.Octets_shape) (spShape "octets") := by
  refine fnO (T.d_Octets_shape.okX sc_Octets_shape (fun vs H Q E h => ?_) (fun cdv A outer s H vs Q E hr h => ?_))
  · obtain ⟨p, rfl, _⟩ := h
    rfl
  · obtain ⟨p, rfl, hq⟩ := h
    exact ⟨_, (pss_one (ps_ret pe_str)), hq⟩
theorem ok_Bag_shape (T : Txt P K mg a) : CallO P w K mg base 1 (.ref a.Bag_shape) (spShape "bag") := by
  refine fnO (T.d_Bag_shape.okX sc_Bag_shape (fun vs H Q E h => ?_) (fun cdv A outer s H vs Q E hr h => ?_))
  · obtain ⟨p, rfl, _⟩ := h
    rfl
  · obtain ⟨p, rfl, hq⟩ := h
    exact ⟨_, (pss_one (ps_ret pe_str)), hq⟩
/-- nothing is handed out -/
def syNone : SpY := fun vs H xs Q => ∃ p, vs = [p] ∧ xs = [] ∧ ∀ H', Ex H H' → Q H'
theorem ok_Node_children (T : Txt P K mg a) : YFn P w K mg base 2 a.Node_children syNone := by
  refine T.d_Node_children.okY (N := ["self"]) sc_Node_children (fun _ _ => rfl) rfl (fun vs H xs Q h => ?_) (fun cdv A outer s H vs xs Q pn hr h => ?_)
  · obtain ⟨p, rfl, _⟩ := h
    rfl
  · obtain ⟨p, rfl, rfl, hq⟩ := h
    exact ⟨_, yf_tup (pe_tup pa_nil), (by show 0 ≤ sizeLine; exact Nat.zero_le _), fun t ht => ⟨t, [], rfl, upd_same, rfl, hq _ (Ex.new ht)⟩⟩
def syKept (K : PySem.W.Frag) (a : Adr) : SpY := fun vs H xs Q => ∃ p dx t, vs = [.ref p] ∧ H p = some (.ins a.Bag dx [("kept_keys", .ref t)]) ∧ H t = some (.tup xs) ∧ Q H
theorem ok_Bag_children (T : Txt P K mg a) : YFn P w K mg base 2 a.Bag_children (syKept K a) := by
  refine T.d_Bag_children.okY (N := ["self"]) sc_Bag_children (fun _ _ => rfl) rfl (fun vs H xs Q h => ?_) (fun cdv A outer s H vs xs Q pn hr h => ?_)
  · obtain ⟨p, dx, t, rfl, _⟩ := h
    rfl
  · obtain ⟨p, dx, t, rfl, hp, ht, hq⟩ := h
    exact ⟨_, yf_tup (pe_fld (pv 0) rfl), _, rfl, p, a.Bag, dx, _, _, rfl, hp, T.c_Bag, T.n_Bag_kept_keys, rfl, t, xs, rfl, ht, rfl, hq⟩

end
end BJL

namespace BJL
open PySem PySem.Spec PyProof.Rows L2 BJ
section
variable {P : Program} {w : World} {K : PySem.W.Frag} {mg : Str → Option Value} {base : Heap} {a : Adr}
theorem ok__law_mixed (T : Txt P K mg a) : CallO P w K mg base 1 (.ref a._law_mixed) spMixed := by
  refine fnO (T.d__law_mixed.okX sc__law_mixed (fun vs H Q E h => ?_) (fun cdv A outer s H vs Q E hr h => ?_))
  · obtain ⟨cell, k, rfl, _⟩ := h
    rfl
  · obtain ⟨cell, k, rfl, k0, k1, hq⟩ := h
    refine ⟨_, (pss_cons (ps_set (i := 2) sc__law_mixed.nd rfl (Or.inl rfl) (pe_op op_mod (pe_op op_add (pe_op op_add (pe_op op_add (pe_op op_mod (pv 0) pe_int) (pe_op op_mul (pe_op op_mul pe_int (pv 1)) (pv 1))) (pe_op op_mul pe_int (pv 1))) pe_int) pe_int))
 (pss_cons (ps_set (i := 2) sc__law_mixed.nd rfl (Or.inl rfl) (pe_op op_mod (pe_op op_mul (pe_op op_mod (pe_op op_mul (pv 2) (pv 2)) pe_int) (pv 2)) pe_int))
 (pss_one (ps_ret (pe_op op_fdiv (pe_op op_mod (pe_op op_mul (pv 2) (pe_op op_add pe_int (pe_op op_mul pe_int (pe_op op_mod (pv 1) pe_int)))) pe_int) pe_int))))), ?_⟩
    refine ⟨_, rfl, _, _, rfl, rfl, (by show (0 : Int) < _; decide), _, rfl, _, _, rfl, rfl, .inl (by omega), _, rfl, _, _, rfl, rfl, .inl (by constructor <;> omega), _, _, rfl, rfl, _, rfl, _, _, rfl, rfl, .inl (by omega), _, _, rfl, rfl, _, _, rfl, rfl, _, _, rfl, rfl, (by show (0 : Int) < _; decide), ?_⟩
    generalize hm : (cell % 1000000007 + 7919 * k * k + 31 * k + 7) % 2147483647 = m
    have m0 : 0 ≤ m := by omega
    have m1 : m < 2147483647 := by omega
    refine ⟨_, rfl, _, rfl, _, _, rfl, rfl, .inl (by omega), _, _, rfl, rfl, (by show (0 : Int) < _; decide), _, rfl, _, _, rfl, rfl, .inl (by omega), _, _, rfl, rfl, (by show (0 : Int) < _; decide), ?_⟩
    generalize hm2 : m * m % 2147483647 * m % 2147483629 = m'
    have m0' : 0 ≤ m' := by omega
    have m1' : m' < 2147483629 := by omega
    refine ⟨_, rfl, _, rfl, _, _, rfl, rfl, (by show (0 : Int) < _; decide), _, _, rfl, rfl, .inl (by omega), _, _, rfl, rfl, _, _, rfl, rfl, .inl (by omega), _, _, rfl, rfl, (by show (0 : Int) < _; decide), _, _, rfl, rfl, ⟨by decide, by decide⟩, ?_⟩
    exact hq _ (by omega)
theorem ok__law_begin (T : Txt P K mg a) : CallO P w K mg base 1 (.ref a._law_begin) (spBegin K) := by
  refine fnO (T.d__law_begin.okX sc__law_begin (fun vs H Q E h => ?_) (fun cdv A outer s H vs Q E hr h => ?_))
  · obtain ⟨s, ns, rfl, _⟩ := h
    rfl
  · obtain ⟨s, ns, rfl, hS, hl, hq⟩ := h
    refine ⟨_, (pss_one (ps_ret (pe_disp (pps_cons pe_str (pe_op op_catS (pv 0) (pe_lst (pa_cons pe_int pa_nil))) (pps_cons pe_str pe_int (pps_cons pe_str pe_int (pps_cons pe_str pe_int pps_nil)))) (by rfl) (by rfl) (fun z => by cases z) (by decide)))), ?_⟩
    intro d nd
    refine ⟨_, rfl, (by show 1 ≤ sizeLine; decide), fun q nq => ?_⟩
    have hS1 : Scr K (upd (upd H d (.dK [])) q (.lst [.int 0])) s (ns.map V.int) := by
      rcases hS with (h | ⟨o, h⟩) | h
      · exact .inl (.inl (upd_keep (upd_keep h nd) nq))
      · exact .inl (.inr ⟨o, upd_keep (upd_keep h nd) nq⟩)
      · exact .inr h
    have nqd : q ≠ d := fun z => by
      rw [z, upd_same] at nq
      cases nq
    have nq0 : H q = none := by rw [upd_ne nqd] at nq; exact nq
    refine ⟨_, _, _, _, rfl, rfl, hS1, .inl (.inl upd_same), (by rw [List.length_map, sizeLine_eq]; show ns.length + 1 ≤ 16777216; omega), fun c nc => ?_⟩
    have ncq : c ≠ q := fun z => by
      rw [z, upd_same] at nc
      cases nc
    have ncd : c ≠ d := fun z => by
      rw [z, upd_ne nqd.symm, upd_same] at nc
      cases nc
    have nc0 : H c = none := by rw [upd_ne ncq, upd_ne ncd] at nc; exact nc
    refine ⟨?_, drw c 0 0 0, rfl, (by show 4 ≤ 15; decide), ?_⟩
    · rw [upd_ne ncd.symm, upd_ne nqd.symm, upd_same]
    have em : mergeK [] (drw c 0 0 0) = drw c 0 0 0 := by
      have h1 : ¬ (("cells" : Str) = "at") := by decide
      have h2 : ¬ (("cells" : Str) = "left") := by decide
      have h3 : ¬ (("cells" : Str) = "used") := by decide
      have h4 : ¬ (("at" : Str) = "left") := by decide
      have h5 : ¬ (("at" : Str) = "used") := by decide
      have h6 : ¬ (("left" : Str) = "used") := by decide
      simp [mergeK, drw, putK, h1, h2, h3, h4, h5, h6]
    rw [em]
    refine hq d c _ (fun p o e => ?_) nd nc0 ⟨⟨0, 0, 0, upd_same, by omega, by omega, by omega, by omega, by omega⟩, ?_, by simp, by rw [List.length_append]; show ns.length + 1 ≤ 64; omega⟩
    · have pd : p ≠ d := ne_of_none e nd
      rw [upd_ne pd, upd_ne (ne_of_none e nc0), upd_ne (ne_of_none e nq0), upd_ne pd]
      exact e
    · rw [upd_ne ncd, upd_same, List.map_append]
      rfl

end
end BJL

namespace BJL
open PySem PySem.Spec PyProof.Rows L2 BJ
section
variable {P : Program} {w : World} {K : PySem.W.Frag} {mg : Str → Option Value} {base : Heap} {a : Adr}
theorem ok__law_next (T : Txt P K mg a) : CallO P w K mg base 2 (.ref a._law_next) spNext := by
  have G__law_mixed : CallO P w K mg base 1 (.ref a._law_mixed) spMixed := ok__law_mixed T
  refine fnO (T.d__law_next.okX sc__law_next (fun vs H Q E h => ?_) (fun cdv A outer s H vs Q E hr h => ?_))
  · obtain ⟨d, c, cells, n, b, rfl, _⟩ := h
    rfl
  · obtain ⟨d, c, cells, n, b, rfl, D, hn, b0, b1, hq⟩ := h
    have hu := hu_of hr
    refine ⟨_, (pss_cons (ps_if (pt_cmpR op_gt (pe_dget hu (pv 0) pe_str (fun _ _ => rfl)) pe_int (nomark _))
 (pss_cons (ps_set (i := 2) sc__law_next.nd rfl (Or.inl rfl) (pe_op op_modN (pe_dget hu (pv 0) pe_str (fun _ _ => rfl)) (pv 1)))
 (pss_cons (ps_dput hu (pv 0) pe_str (pe_op op_fdivN (pe_dget hu (pv 0) pe_str (fun _ _ => rfl)) (pv 1)) rfl)
 (pss_one (ps_ret (pv 2)))))
 pss_nil)
 (pss_cons (ps_set (i := 3) sc__law_next.nd rfl (Or.inl rfl) (pe_dget hu (pv 0) pe_str (fun _ _ => rfl)))
 (pss_cons (ps_set (i := 4) sc__law_next.nd rfl (Or.inl rfl) (pe_ix (ix_list' (K := K) rfl) (pv 3) (pe_op op_modN (pe_dget hu (pv 0) pe_str (fun _ _ => rfl)) (pe_callB call_len_seq (by rfl) T.b_len (by decide +kernel) (pa_cons (pv 3) pa_nil))) (fun _ _ => rfl)))
 (pss_cons (ps_dput hu (pv 0) pe_str (pe_op op_add (pe_dget hu (pv 0) pe_str (fun _ _ => rfl)) pe_int) rfl)
 (pss_cons (ps_if (PW.pt (pw_and (pt_cmpR op_ge (pv 4) (pe_op op_pow pe_int pe_int) (nomark _)) (pw_and1 (pt_cmpR op_le (pe_dget hu (pv 0) pe_str (fun _ _ => rfl)) (pe_callB call_len_seq (by rfl) T.b_len (by decide +kernel) (pa_cons (pv 3) pa_nil)) (nomark _)))))
 (pss_cons (ps_dput hu (pv 0) pe_str (pe_op op_fdivN (pv 4) (pv 1)) rfl)
 (pss_one (ps_ret (pe_op op_modN (pv 4) (pv 1)))))
 pss_nil)
 (pss_cons (ps_dput hu (pv 0) pe_str (pe_op op_add (pe_dget hu (pv 0) pe_str (fun _ _ => rfl)) pe_int) rfl)
 (pss_one (ps_ret (pe_op op_modN (pe_co G__law_mixed (hr.mono (by decide)) rfl T.g__law_mixed T.k__law_mixed (takes_of rfl rfl rfl rfl) (pa_cons (pe_co G__law_mixed (hr.mono (by decide)) rfl T.g__law_mixed T.k__law_mixed (takes_of rfl rfl rfl rfl) (pa_cons (pv 4) (pa_cons (pe_dget hu (pv 0) pe_str (fun _ _ => rfl)) pa_nil))) (pa_cons (pe_dget hu (pv 0) pe_str (fun _ _ => rfl)) pa_nil))) (pv 1)))))))))), ?_⟩
    obtain ⟨av, lv, uv, hd, a0, a1, u0, u1, l0⟩ := D.dict
    have bb : b.natAbs < 1073741824 := by omega
    refine ⟨_, rfl, d, _, rfl, dg (k := .inr "left") hd drw_left, _, _, rfl, rfl, _, rfl, ?_⟩
    refine ifd (fun hl => ?_) (fun hl => ?_)
    · refine ⟨_, rfl, d, _, rfl, dg (k := .inr "left") hd drw_left, _, rfl, _, _, rfl, rfl, (by show b ≠ 0; omega), ?_⟩
      refine ⟨_, rfl, d, _, rfl, dg (k := .inr "left") hd drw_left, _, rfl, _, _, rfl, rfl, ⟨(by omega), bb⟩, _, rfl, d, _, rfl, dp (k := .inr "left") hd drw_put_left (by show 4 < 1000; decide), ?_⟩
      refine ⟨_, rfl, ?_⟩
      exact hq _ _ (fm b0).1 (fm b0).2 (Dr_up D a0 (by omega) u0 (by omega) (fd b0 l0)) But.upd
    · refine ⟨_, rfl, d, _, rfl, dg (k := .inr "cells") hd drw_cells, ?_⟩
      have hlen : 0 < cells.length := List.length_pos_iff.mpr D.ne
      have hm := fm (i := av) (b := (cells.length : Int)) (by omega)
      have hi : (av.fmod (cells.length : Int)).toNat < cells.length := by omega
      have hx : (cells.map V.int)[(av.fmod (cells.length : Int)).toNat]? = some (.int cells[(av.fmod (cells.length : Int)).toNat]) := by
        rw [List.getElem?_map, List.getElem?_eq_getElem hi]
        rfl
      generalize cells[(av.fmod (cells.length : Int)).toNat] = cell at hx
      have hlm : ((cells.map V.int).length : Int) = (cells.length : Int) := by rw [List.length_map]
      have hat : atI (cells.map V.int) (av.fmod ((cells.map V.int).length : Int)) = some (.int cell) := by
        rw [hlm]
        have := atI_nat hx
        rw [show (((av.fmod (cells.length : Int)).toNat : Nat) : Int) = av.fmod (cells.length : Int) by omega] at this
        exact this
      refine ⟨_, rfl, _, rfl, d, _, rfl, dg (k := .inr "at") hd drw_at, _, rfl, c, _, rfl, .inl (SqL.of D.list), _, _, rfl, rfl, (by show (((cells.map V.int).length : Nat) : Int) ≠ 0; omega), c, _, _, _, rfl, rfl, SqL.of D.list, hat, ?_⟩
      refine ⟨_, rfl, d, _, rfl, dg (k := .inr "at") hd drw_at, _, _, rfl, rfl, _, rfl, d, _, rfl, dp (k := .inr "at") hd drw_put_at (by show 4 < 1000; decide), ?_⟩
      have hd1 : (upd H d (.dK (drw c (av + 1) lv uv))) d = some (.dK (drw c (av + 1) lv uv)) := upd_same
      have hc1 : SqL K (upd H d (.dK (drw c (av + 1) lv uv))) c (cells.map V.int) := SqL.of (by rw [upd_ne D.dc.symm]; exact D.list)
      -- the way by the mixer
      have fin : ∀ r : Int, Q (.int (r.fmod b)) (upd (upd H d (.dK (drw c (av + 1) lv uv))) d (.dK (drw c (av + 1) lv (uv + 1)))) := fun r => by
        rw [upd_upd]
        exact hq _ _ (fm b0).1 (fm b0).2 (Dr_up D (by omega) (by omega) (by omega) (by omega) l0) But.upd
      have last : ∀ tl, tl = (tSeq (sDPut (tVar 0) (tC (V.str "used")) (tOp (rI0 fun i j => V.int (i + j)) (tDGet (tVar 0) (tC (V.str "used"))) (tC (V.int 1))))
          (tRet (tOp (rI (fun x j => j ≠ 0) fun i j => V.int (i.fmod j)) (tCa spMixed (fun cls d _ H => E cls d H) (tCons (tCa spMixed (fun cls d _ H => E cls d H) (tCons (tVar 4) (tCons (tDGet (tVar 0) (tC (V.str "at"))) tNil))) (tCons (tDGet (tVar 0) (tC (V.str "used"))) tNil))) (tVar 1)))) →
          tl { nx := fun _ H' => Q .non H', rt := Q } [some (.ref d), some (.int b), none, some (.ref c), some (.int cell)] (upd H d (.dK (drw c (av + 1) lv uv))) := by
        rintro _ rfl
        have hd2 : (upd (upd H d (.dK (drw c (av + 1) lv uv))) d (.dK (drw c (av + 1) lv (uv + 1)))) d = some (.dK (drw c (av + 1) lv (uv + 1))) := upd_same
        refine ⟨_, rfl, d, _, rfl, dg (k := .inr "used") hd1 drw_used, _, _, rfl, rfl, _, rfl, d, _, rfl, dp (k := .inr "used") hd1 drw_put_used (by show 4 < 1000; decide), ?_⟩
        refine ⟨_, rfl, _, rfl, d, _, rfl, dg (k := .inr "at") hd2 drw_at, cell, av + 1, rfl, by omega, by omega, fun r r0 => ?_⟩
        refine ⟨_, rfl, d, _, rfl, dg (k := .inr "used") hd2 drw_used, r, uv + 1, rfl, by omega, by omega, fun r' r0' => ?_⟩
        exact ⟨_, rfl, _, _, rfl, rfl, (by show b ≠ 0; omega), fin r'⟩
      refine ⟨_, rfl, _, _, rfl, rfl, ⟨by decide, by decide, by decide⟩, _, _, rfl, rfl, _, rfl, ?_⟩
      refine ifd (fun h1 => ?_) (fun h1 => ?_)
      · refine ⟨_, rfl, d, _, rfl, dg (k := .inr "at") hd1 drw_at, _, rfl, c, _, rfl, .inl hc1, _, _, rfl, rfl, _, rfl, ?_⟩
        refine ifd (fun h2 => ?_) (fun h2 => last _ rfl)
        refine ⟨_, rfl, _, rfl, _, _, rfl, rfl, ⟨(by omega), bb⟩, _, rfl, d, _, rfl, dp (k := .inr "left") hd1 drw_put_left (by show 4 < 1000; decide), ?_⟩
        refine ⟨_, rfl, _, rfl, _, _, rfl, rfl, (by show b ≠ 0; omega), ?_⟩
        rw [upd_upd]
        have hcell : (0 : Int) ≤ cell := by
          have h1' : (10 : Int) ^ (18 : Int).toNat ≤ cell := h1
          have h10 : (0 : Int) ≤ (10 : Int) ^ (18 : Int).toNat := by decide
          omega
        exact hq _ _ (fm b0).1 (fm b0).2 (Dr_up D (by omega) (by omega) (by omega) (by omega) (fd b0 hcell)) But.upd
      · refine iteF ?_
        exact last _ rfl

end
end BJL

namespace BJL
open PySem PySem.Spec PyProof.Rows L2 BJ
section
variable {P : Program} {w : World} {K : PySem.W.Frag} {mg : Str → Option Value} {base : Heap} {a : Adr}
open Evl
def spDB (K : PySem.W.Frag) (f : PyData → Bool) : Sp := fun vs H Q _ => ∃ x d, vs = [x] ∧ Dz K H x d ∧ ∀ H', Ex H H' → Q (.bl (f d)) H'
theorem ok__law_is_octets (T : Txt P K mg a) : CallO P w K mg base 2 (.ref a._law_is_octets) (spDB K octs) := by
  refine fnO (T.d__law_is_octets.okX sc__law_is_octets (fun vs H Q E h => ?_) (fun cdv A outer s H vs Q E hr h => ?_))
  · obtain ⟨x, d, rfl, _⟩ := h
    rfl
  · obtain ⟨x, d, rfl, dz, hq⟩ := h
    refine ⟨_, (pss_cons (ps_if (PW.pt (pw_or (pt_not (pt_val (pe_callB (call_isG' (K := K) rfl) (by rfl) T.b_isinstance (by decide +kernel) (pa_cons (pv 0) (pa_cons (pe_bltn (v := .ty "tuple") (u := .type "tuple") (by rfl) T.b_tuple (by decide +kernel) (by exact rfl)) pa_nil))))) (pw_or1 (pt_cmpR op_gt (pe_callB call_len_seq (by rfl) T.b_len (by decide +kernel) (pa_cons (pv 0) pa_nil)) pe_int (nomark _)))))
 (pss_one (ps_ret pe_bl))
 pss_nil)
 (pss_cons (ps_for (passes_of rfl) rfl (pi_tup (pv 0)) (pg_name (i := 1) sc__law_is_octets.nd rfl (Or.inl rfl))
 (pss_one (ps_if (PW.pt (pw_or (pt_not (pt_val (pe_callB (call_isG' (K := K) rfl) (by rfl) T.b_isinstance (by decide +kernel) (pa_cons (pv 1) (pa_cons (pe_bltn (v := .ty "int") (u := .type "int") (by rfl) T.b_int (by decide +kernel) (by exact rfl)) pa_nil))))) (pw_or (pt_val (pe_callB (call_isG' (K := K) rfl) (by rfl) T.b_isinstance (by decide +kernel) (pa_cons (pv 1) (pa_cons (pe_bltn (v := .ty "bool") (u := .type "bool") (by rfl) T.b_bool (by decide +kernel) (by exact rfl)) pa_nil)))) (pw_or1 (pt_not (pt_chain op_le op_le pe_int (pv 1) pe_int))))))
 (pss_one (ps_ret pe_bl))
 pss_nil)))
 (pss_one (ps_ret pe_bl)))), ?_⟩
    obtain ⟨_, _, _, k4⟩ := kitD d
    have t1 : EvT (tNot (tB (tCB (rIsG K) (tCons (tVar 0) (tCons (tC (.ty "tuple")) tNil))))) (L2.start ["what", "one"] [x]) H (!dTup d) :=
      et_not (et_B (ev_cb (ea_cons (ev_var rfl) (ea_cons ev_c ea_nil)) (rc_is (dz_ty dz) (n := "tuple") (kit_ty k4))))
    cases hd : dTup d with
    | false =>
      rw [hd] at t1
      have hf : octs d = false := by cases d <;> first | rfl | cases hd
      rw [hf] at hq
      exact q_when (b := true || false) (et_or t1 fun z => nomatch z) (fun _ H1 e => hq H1 e) (fun z => nomatch z)
    | true =>
      rw [hd] at t1
      cases dz with
      | @tup t xs ds hs ha =>
        have hl := dzAll_len ha
        have t2 : EvT (tTest (tOp (rI0 fun i j => V.bl (decide (j < i))) (tCB (fun xs H Q => ∃ p ys, xs = [.ref p] ∧ (SqL K H p ys ∨ SqT K H p ys) ∧ Q (.int ys.length) H) (tCons (tVar 0) tNil)) (tC (.int 2000)))) (L2.start ["what", "one"] [.ref t]) H (decide ((2000 : Int) < (xs.length : Int))) :=
          et_test (ev_op (x := .int (xs.length : Nat)) (y := .int 2000) (ev_cb (ea_cons (ev_var rfl) ea_nil) fun H1 e Q q => ⟨t, _, rfl, .inr (ex_t e hs), q H1 (Ex.refl _)⟩) ev_c rv_I0)
        by_cases hbig : 2000 < xs.length
        · have e2 : decide ((2000 : Int) < (xs.length : Int)) = true := decide_eq_true (by omega)
          rw [e2] at t2
          have hf : octs (.tuple ds) = false := by show (decide (ds.length ≤ 2000) && ds.all octD) = false; rw [decide_eq_false (by omega)]; rfl
          rw [hf] at hq
          exact q_when (b := false || true) (et_or t1 fun _ => t2) (fun _ H1 e => hq H1 e) (fun z => nomatch z)
        · have e2 : decide ((2000 : Int) < (xs.length : Int)) = false := decide_eq_false (by omega)
          rw [e2] at t2
          have hv : octs (.tuple ds) = xs.all octV := by show (decide (ds.length ≤ 2000) && ds.all octD) = _; rw [decide_eq_true (by omega), octs_all ha]; rfl
          rw [hv] at hq
          refine q_when (b := false || false) (et_or t1 fun _ => t2) (fun z => nomatch z) fun _ H1 e1 => ?_
          refine q_forT (K := K) (a := t) (xs := xs) (ev_var rfl) (ex_t e1 hs) (fun i σ' H' => ∃ v, σ' = [some (.ref t), v] ∧ Ex H H' ∧ (xs.take i).all octV = true)
            (fun H2 e2 => ⟨none, rfl, e1.trans e2, rfl⟩) (fun i σ' H' _ ⟨_, _, e, _⟩ => ex_t e hs) ?_ ?_
          · rintro i y σ' H' hi ⟨v, rfl, eH, hall⟩
            have hm : y ∈ xs := List.mem_of_getElem? hi
            obtain ⟨dy, dzy0⟩ := dzAll_mem ha y hm
            have dzy := dz_ex eH dzy0
            obtain ⟨k1, k2, _⟩ := kitD dy
            have ht2 : xs.take (i + 1) = xs.take i ++ [y] := by
              rw [List.take_add_one, hi]
              rfl
            have u1 : EvT (tNot (tB (tCB (rIsG K) (tCons (tVar 1) (tCons (tC (.ty "int")) tNil))))) [some (.ref t), some y] H' (!dInt dy) :=
              et_not (et_B (ev_cb (ea_cons (ev_var rfl) (ea_cons ev_c ea_nil)) (rc_is (dz_ty dzy) (n := "int") (kit_ty k1))))
            have u2 : EvT (tB (tCB (rIsG K) (tCons (tVar 1) (tCons (tC (.ty "bool")) tNil)))) [some (.ref t), some y] H' (dBool dy) :=
              et_B (ev_cb (ea_cons (ev_var rfl) (ea_cons ev_c ea_nil)) (rc_is (dz_ty dzy) (n := "bool") (kit_ty k2)))
            have bad : octV y = false → ∀ H2, Ex H' H2 → Q (.bl false) H2 := fun ho H2 e2 => by
              have : xs.all octV = false := by
                cases h : xs.all octV with
                | false => rfl
                | true => rw [List.all_eq_true.mp h y hm] at ho; cases ho
              rw [this] at hq
              exact hq H2 (eH.trans e2)
            cases dzy with
            | int j =>
              by_cases h0 : 0 ≤ j ∧ j ≤ 255
              · have ho : octV (.int j) = true := by show (decide _ && decide _) = true; rw [decide_eq_true h0.1, decide_eq_true h0.2]; rfl
                refine s_when (b := false || (false || false)) (et_or u1 fun _ => et_or u2 fun _ => et_not (a := true) (et_test fun H2 e2 Q2 q2 => ?_)) (fun z => nomatch z) (fun _ H2 e2 => ⟨_, rfl, eH.trans e2, by rw [ht2, List.all_append, hall]; show (true && (octV (.int j) && true)) = true; rw [ho]; rfl⟩)
                refine ⟨_, rfl, _, _, rfl, rfl, _, rfl, ?_⟩
                rw [if_pos (decide_eq_true h0.1)]
                refine ⟨_, _, rfl, rfl, ?_⟩
                show Q2 (.bl (decide (j ≤ 255))) H2
                rw [decide_eq_true h0.2]
                exact q2 H2 (Ex.refl _)
              · have ho : octV (.int j) = false := by
                  show (decide _ && decide _) = false
                  by_cases h1 : 0 ≤ j
                  · rw [decide_eq_true h1, decide_eq_false (fun z => h0 ⟨h1, z⟩)]; rfl
                  · rw [decide_eq_false h1]; rfl
                refine s_when (b := false || (false || true)) (et_or u1 fun _ => et_or u2 fun _ => et_not (a := false) (et_test fun H2 e2 Q2 q2 => ?_)) (fun _ H2 e2 => bad ho H2 e2) (fun z => nomatch z)
                refine ⟨_, rfl, _, _, rfl, rfl, _, rfl, ?_⟩
                by_cases h1 : 0 ≤ j
                · rw [if_pos (decide_eq_true h1)]
                  refine ⟨_, _, rfl, rfl, ?_⟩
                  show Q2 (.bl (decide (j ≤ 255))) H2
                  rw [decide_eq_false (fun z => h0 ⟨h1, z⟩)]
                  exact q2 H2 (Ex.refl _)
                · rw [if_neg (by rw [decide_eq_false h1]; exact Bool.false_ne_true)]
                  exact q2 H2 (Ex.refl _)
            | bl b => exact s_when (b := false || (true || false)) (et_or u1 fun _ => et_or u2 fun z => nomatch z) (fun _ H2 e2 => bad rfl H2 e2) (fun z => nomatch z)
            | _ => exact s_when (b := true || false) (et_or u1 fun z => nomatch z) (fun _ H2 e2 => bad rfl H2 e2) (fun z => nomatch z)
          · rintro σ' H' ⟨v, rfl, eH, hall⟩
            rw [List.take_length] at hall
            rw [hall] at hq
            exact hq H' eH
      | _ => cases hd
theorem ok__law_is_key (T : Txt P K mg a) : CallO P w K mg base 1 (.ref a._law_is_key) (spBV K keyV) := by
  refine fnO (T.d__law_is_key.okX sc__law_is_key (fun vs H Q E h => ?_) (fun cdv A outer s H vs Q E hr h => ?_))
  · obtain ⟨x, d, rfl, _⟩ := h
    rfl
  · obtain ⟨x, d, rfl, dz, hz, hq⟩ := h
    refine ⟨_, (pss_cons (ps_if (pt_val (pe_callB (call_isG' (K := K) rfl) (by rfl) T.b_isinstance (by decide +kernel) (pa_cons (pv 0) (pa_cons (pe_bltn (v := .ty "str") (u := .type "str") (by rfl) T.b_str (by decide +kernel) (by exact rfl)) pa_nil))))
 (pss_one (ps_ret (pe_cmpR op_le (pe_callB call_len_str (by rfl) T.b_len (by decide +kernel) (pa_cons (pv 0) pa_nil)) pe_int (nomark _))))
 pss_nil)
 (pss_cons (ps_if (PW.pt (pw_or (pt_not (pt_val (pe_callB (call_isG' (K := K) rfl) (by rfl) T.b_isinstance (by decide +kernel) (pa_cons (pv 0) (pa_cons (pe_bltn (v := .ty "int") (u := .type "int") (by rfl) T.b_int (by decide +kernel) (by exact rfl)) pa_nil))))) (pw_or1 (pt_val (pe_callB (call_isG' (K := K) rfl) (by rfl) T.b_isinstance (by decide +kernel) (pa_cons (pv 0) (pa_cons (pe_bltn (v := .ty "bool") (u := .type "bool") (by rfl) T.b_bool (by decide +kernel) (by exact rfl)) pa_nil)))))))
 (pss_one (ps_ret pe_bl))
 pss_nil)
 (pss_one (ps_ret (pe_chain op_lt op_lt (pe_op op_sub pe_int (pe_op op_powB (pe_op op_powB pe_int pe_int) pe_int)) (pv 0) (pe_op op_powB (pe_op op_powB pe_int pe_int) pe_int)))))), ?_⟩
    obtain ⟨k1, k2, k3, _⟩ := kitD d
    refine ⟨_, rfl, x, _, .type (tyN d), _, dStr d, rfl, .ty "str", .ty (dz_ty dz), kit_ty k3, dStr d, rfl, ?_⟩
    cases dz with
    | str z =>
      refine iteT ?_
      refine ⟨_, rfl, z, rfl, hz z rfl, _, _, rfl, rfl, ?_⟩
      have e : keyV (.str z) = decide ((z.length : Int) ≤ 2000) := by show (decide _ || false) = _; rw [Bool.or_false]
      rw [e] at hq
      exact hq
    | int i =>
      refine iteF ?_
      refine ⟨_, rfl, .int i, _, .type "int", _, true, rfl, .ty "int", .ty (dz_ty (.int i)), kit_ty k1, true, rfl, ?_⟩
      refine iteF ?_
      refine ⟨_, rfl, .int i, _, .type "int", _, false, rfl, .ty "bool", .ty (dz_ty (.int i)), kit_ty k2, false, rfl, ?_⟩
      refine iteF ?_
      have pe : ((10 : Int) ^ (60 : Int).toNat) ^ (5 : Int).toNat = big := by decide +kernel
      have p1 : CPowB 10 60 := ⟨by decide, by decide +kernel⟩
      have p2 : CPowB ((10 : Int) ^ (60 : Int).toNat) 5 := ⟨by decide, by decide +kernel⟩
      refine ⟨_, _, rfl, rfl, p1, _, _, rfl, rfl, p2, _, _, rfl, rfl, _, rfl, _, _, rfl, rfl, _, rfl, ?_⟩
      have e : keyV (.int i) = (decide (-big < i) && decide (i < big)) := by show (false || _) = _; rfl
      rw [e] at hq
      rw [pe, show (0 : Int) - big = -big from Int.zero_sub big]
      by_cases h1 : -big < i
      · rw [decide_eq_true h1] at hq
        rw [if_pos (decide_eq_true h1)]
        refine ⟨_, _, rfl, rfl, p1, _, _, rfl, rfl, p2, _, _, rfl, rfl, ?_⟩
        rw [pe]
        exact hq
      · rw [decide_eq_false h1] at hq
        rw [if_neg (by rw [decide_eq_false h1]; exact Bool.false_ne_true)]
        exact hq
    | bl b =>
      refine iteF ?_
      refine ⟨_, rfl, .bl b, _, .type "bool", _, true, rfl, .ty "int", .ty (dz_ty (.bl b)), kit_ty k1, true, rfl, ?_⟩
      refine iteF ?_
      refine ⟨_, rfl, .bl b, _, .type "bool", _, true, rfl, .ty "bool", .ty (dz_ty (.bl b)), kit_ty k2, true, rfl, ?_⟩
      refine iteT ?_
      exact hq
    | non =>
      refine iteF ?_
      refine ⟨_, rfl, _, _, .type "NoneType", _, false, rfl, .ty "int", .ty (dz_ty .non), kit_ty k1, false, rfl, ?_⟩
      refine iteT ?_
      exact hq
    | lst h1 h2 h3 =>
      refine iteF ?_
      refine ⟨_, rfl, _, _, .type "list", _, false, rfl, .ty "int", .ty (dz_ty (.lst h1 h2 h3)), kit_ty k1, false, rfl, ?_⟩
      refine iteT ?_
      exact hq
    | tup h1 h2 =>
      refine iteF ?_
      refine ⟨_, rfl, _, _, .type "tuple", _, false, rfl, .ty "int", .ty (dz_ty (.tup h1 h2)), kit_ty k1, false, rfl, ?_⟩
      refine iteT ?_
      exact hq
    | dict h1 h2 =>
      refine iteF ?_
      refine ⟨_, rfl, _, _, .type "dict", _, false, rfl, .ty "int", .ty (dz_ty (.dict h1 h2)), kit_ty k1, false, rfl, ?_⟩
      refine iteT ?_
      exact hq

def dueV (xs : List V) : List V := match bagErr [] xs with
  | none => []
  | some (true, x) => [.str "key", x]
  | some (false, x) => [.str "taken", x]
def spDue (K : PySem.W.Frag) : Sp := fun vs H Q _ => ∃ l xs, vs = [.ref l] ∧ SqL K H l xs ∧ (∀ x ∈ xs, ∃ d, Dz K H x d) ∧ (∀ x ∈ xs, Fits x) ∧ xs.length < 64 ∧ ∀ q H', H q = none → sysModules < q → Ex H H' → H' q = some (.lst (dueV xs)) → Q (.ref q) H'
theorem flat_key {x : V} (h : keyV x = true) : flatV x = true := by
  rcases key_cases h with ⟨i, rfl⟩ | ⟨z, rfl⟩ <;> rfl
theorem ok__law_due (T : Txt P K mg a) : CallO P w K mg base 2 (.ref a._law_due) (spDue K) := by
  have G__law_is_key : CallO P w K mg base 1 (.ref a._law_is_key) (spBV K keyV) := ok__law_is_key T
  refine fnO (T.d__law_due.okX sc__law_due (fun vs H Q E h => ?_) (fun cdv A outer s H vs Q E hr h => ?_))
  · obtain ⟨l, xs, rfl, _⟩ := h
    rfl
  · obtain ⟨l, xs, rfl, hs, hdz, hfit, hlen, hq⟩ := h
    refine ⟨_, (pss_cons (ps_set (i := 1) sc__law_due.nd rfl (Or.inl rfl) (pe_lstN pa_nil))
 (pss_cons (ps_for (passes_of rfl) rfl (pi_list (pv 0)) (pg_name (i := 2) sc__law_due.nd rfl (Or.inl rfl))
 (pss_cons (ps_if (pt_not (pt_val (pe_co G__law_is_key (hr.mono (by decide)) rfl T.g__law_is_key T.k__law_is_key (takes_of rfl rfl rfl rfl) (pa_cons (pv 2) pa_nil))))
 (pss_one (ps_ret (pe_lstN (pa_cons pe_str (pa_cons (pv 2) pa_nil)))))
 pss_nil)
 (pss_cons (ps_if (pt_cmpR op_in_seq (pv 2) (pv 1) (by rfl))
 (pss_one (ps_ret (pe_lstN (pa_cons pe_str (pa_cons (pv 2) pa_nil)))))
 pss_nil)
 (pss_one (ps_expr (pe_bm PySem.F.plainAttrs_list PySem.F.slot_list_append PySem.F.type_list_append mt_append (pv 1) (pa_cons (pv 2) pa_nil)))))))
 (pss_one (ps_ret (pe_lstN pa_nil))))), ?_⟩
    refine ⟨(by show 0 ≤ sizeLine; exact Nat.zero_le _), fun sl hsl _ => ?_⟩
    have e0 : Ex H (upd H sl (.lst [])) := Ex.new hsl
    refine q_forL (K := K) (a := l) (xs := xs) (ev_var rfl) (ex_l e0 hs) (fun i σ' H' => ∃ v, σ' = [some (.ref l), some (.ref sl), v] ∧ Ex H H' ∧ H' sl = some (.lst (xs.take i)) ∧ bagErr (xs.take i) (xs.drop i) = bagErr [] xs ∧ ∀ y ∈ xs.take i, keyV y = true)
      (fun H1 e1 => ⟨none, rfl, e0.trans e1, e1 _ _ upd_same, rfl, fun y hy => by simp at hy⟩) (fun i σ' H' _ ⟨_, _, e, _⟩ => ex_l e hs) ?_ ?_
    · rintro i x σ' H' hi ⟨v, rfl, eH, hD, hI, hk⟩
      obtain ⟨b1, b2, b3⟩ := bagErr_at hi hI
      have hm : x ∈ xs := List.mem_of_getElem? hi
      have hil : i < xs.length := (List.getElem?_eq_some_iff.mp hi).1
      obtain ⟨dd, dz⟩ := hdz x hm
      have ht2 : xs.take (i + 1) = xs.take i ++ [x] := by
        rw [List.take_add_one, hi]
        rfl
      refine ⟨_, rfl, x, dd, rfl, dz_ex eH dz, hfit x hm, _, rfl, ?_⟩
      cases kx : keyV x with
      | false =>
        refine iteT ?_
        have hd : dueV xs = [.str "key", x] := by unfold dueV; rw [b1 kx]
        refine ⟨_, rfl, (by show 2 ≤ sizeLine; decide), fun q hq' hsys => hq q _ (fresh_back eH hq') hsys (eH.trans (Ex.new hq')) (by rw [hd]; exact upd_same)⟩
      | true =>
        refine iteF ?_
        refine ⟨_, rfl, _, rfl, sl, _, rfl, .inl (sq_of hD), flat_key kx, List.all_eq_true.mpr fun y hy => flat_key (hk y hy), _, rfl, ?_⟩
        cases hin : inV x (xs.take i) with
        | true =>
          refine iteT ?_
          have hd : dueV xs = [.str "taken", x] := by unfold dueV; rw [b2 kx hin]
          refine ⟨_, rfl, (by show 2 ≤ sizeLine; decide), fun q hq' hsys => hq q _ (fresh_back eH hq') hsys (eH.trans (Ex.new hq')) (by rw [hd]; exact upd_same)⟩
        | false =>
          refine iteF ?_
          have hl2 : (xs.take i).length < 100000 := by rw [List.length_take]; omega
          refine s_app (l := sl) (xs := xs.take i) hD (ev_var rfl) (ev_var (v := x) rfl) hl2 fun H1 e1 => ⟨_, rfl, fun b o hb => ?_, ?_, b3 kx hin, fun y hy => ?_⟩
          · rw [upd_ne (ne_of_none hb hsl)]
            exact e1 _ _ (eH b o hb)
          · rw [ht2]
            exact upd_same
          · rw [ht2] at hy
            rcases List.mem_append.mp hy with hy | hy
            · exact hk y hy
            · rw [List.mem_singleton.mp hy]
              exact kx
    · rintro σ' H' ⟨v, rfl, eH, hD, hI, hk⟩
      rw [List.take_length, List.drop_length] at hI
      have hI : bagErr [] xs = none := hI.symm.trans (by unfold bagErr; rfl)
      have hd : dueV xs = [] := by unfold dueV; rw [hI]
      exact ⟨(by show 0 ≤ sizeLine; exact Nat.zero_le _), fun q hq' hsys => hq q _ (fresh_back eH hq') hsys (eH.trans (Ex.new hq')) (by rw [hd]; exact upd_same)⟩

end
end BJL

namespace BJL
open PySem PySem.Spec PyProof.Rows L2 BJ
section
variable {P : Program} {w : World} {K : PySem.W.Frag} {mg : Str → Option Value} {base : Heap} {a : Adr}
open Evl
/-- what can be shown -/
def okC (c : Nat) (d : PyData) : Bool := d.showable && d.leavesShort 310 && decide (d.depth ≤ 2) && decide (d.bulk ≤ c)
abbrev okB (d : PyData) : Bool := okC 2001 d
theorem okC_all {c : Nat} {ds : List PyData} (h : ∀ d ∈ ds, okC c d = true) : PyData.showableAll ds = true ∧ PyData.leavesShortAll 310 ds = true ∧ PyData.depthAll ds ≤ 2 ∧ PyData.bulkAll ds ≤ (c + 1) * ds.length := by
  induction ds with
  | nil => exact ⟨rfl, rfl, Nat.zero_le _, Nat.zero_le _⟩
  | cons d ds ih =>
    obtain ⟨i1, i2, i3, i4⟩ := ih fun x hx => h x (List.mem_cons_of_mem _ hx)
    have hd := h d List.mem_cons_self
    unfold okC at hd
    simp only [Bool.and_eq_true, decide_eq_true_eq] at hd
    obtain ⟨⟨⟨h1, h2⟩, h3⟩, h4⟩ := hd
    refine ⟨?_, ?_, ?_, ?_⟩
    · unfold PyData.showableAll; rw [h1, i1]; rfl
    · unfold PyData.leavesShortAll; rw [h2, i2]; rfl
    · unfold PyData.depthAll; omega
    · unfold PyData.bulkAll; rw [List.length_cons, Nat.mul_succ]; omega
theorem small_z {d : PyData} (h1 : d.showable = true) (h2 : d.leavesShort 310 = true) (h3 : d.depth ≤ 40) (h4 : d.bulk ≤ 50000) : ShowsZ d :=
  ⟨h1, h3, by have h := PyData.shown_le_bulk 310 (by decide) d h2; rw [sizeLine_eq]; omega⟩
theorem ok_z {d : PyData} (h : okB d = true) : ShowsZ d := by
  unfold okB okC at h
  simp only [Bool.and_eq_true, decide_eq_true_eq] at h
  exact small_z h.1.1.1 h.1.1.2 (by omega) (by omega)
theorem ok_lst {ds : List PyData} (h : ∀ d ∈ ds, okB d = true) (hl : ds.length ≤ 20) : ShowsZ (.list ds) := by
  obtain ⟨h1, h2, h3, h4⟩ := okC_all h
  exact small_z (by unfold PyData.showable; exact h1) (by unfold PyData.leavesShort; exact h2) (by unfold PyData.depth; omega) (by unfold PyData.bulk; omega)
theorem ok_tup {ds : List PyData} (h : ∀ d ∈ ds, okB d = true) (hl : ds.length ≤ 20) : ShowsZ (.tuple ds) := by
  obtain ⟨h1, h2, h3, h4⟩ := okC_all h
  exact small_z (by unfold PyData.showable; exact h1) (by unfold PyData.leavesShort; exact h2) (by unfold PyData.depth; omega) (by unfold PyData.bulk; omega)
/-- an atom of any kind -/
def atomD : V → Option PyData
  | .non => some .none
  | .bl b => some (.bool b)
  | .int i => some (.int i)
  | .str z => some (.str z)
  | _ => none
def okAtom (v : V) : Bool := match atomD v with
  | some d => okB d && d.canLay0 && (match v with | .str z => decide (z.length ≤ 2001) | _ => true)
  | none => false
theorem atom_dz {v : V} {d : PyData} (h : atomD v = some d) (H : Hp) : Dz K H v d := by
  cases v with
  | non => cases h; exact .non
  | bl b => cases h; exact .bl b
  | int i => cases h; exact .int i
  | str z => cases h; exact .str z
  | _ => cases h
theorem atom_dp {v : V} {d : PyData} (h : atomD v = some d) (H : Hp) : Dp K H v d := by
  cases v with
  | non => cases h; exact .non
  | bl b => cases h; exact .bl b
  | int i => cases h; exact .int i
  | str z => cases h; exact .str z
  | _ => cases h
theorem okAtom_is {v : V} (h : okAtom v = true) : ∃ d, atomD v = some d ∧ okB d = true ∧ d.canLay0 = true ∧ Fits v := by
  unfold okAtom at h
  cases e : atomD v with
  | none => rw [e] at h; cases h
  | some d =>
    rw [e] at h
    simp only [Bool.and_eq_true] at h
    refine ⟨d, rfl, h.1.1, h.1.2, fun z hz => ?_⟩
    subst hz
    have := of_decide_eq_true h.2
    rw [sizeLine_eq]
    omega
theorem atom_small : ∀ k < 600, okAtom (.int ((k : Nat) - 300 : Int)) = true := by decide +kernel
theorem atom_forty : ∀ k < 9, okAtom (.int (10 ^ 40 + (k : Nat) : Int)) = true := by decide +kernel
theorem atom_key : ∀ k < 12, okAtom (.str (("key" : Str) ++ (toString ((k : Nat) : Int) : String))) = true ∧ ((toString ((k : Nat) : Int) : String) : Str).length ≤ 100 := by decide +kernel
theorem rep_ok (n : Nat) : PyData.canLay0 (.str (repS 120 n)) = true := by
  unfold PyData.canLay0 PyData.strOk repS
  rw [Array.all_iff_forall]
  intro i hi _
  simp
theorem rep_at {n : Nat} (h1 : okB (.str (repS 120 n)) = true) (h2 : n ≤ 2001) : okAtom (.str (repS 120 n)) = true := by
  show (okB (.str (repS 120 n)) && PyData.canLay0 (.str (repS 120 n)) && decide ((repS 120 n).length ≤ 2001)) = true
  rw [h1, rep_ok, repS_len, decide_eq_true h2]
  rfl
theorem atom_x : okAtom (.str (repS 120 2000)) = true := rep_at (by decide +kernel) (by decide)
theorem atom_rest0 : okAtom (.int (big - 1)) = true ∧ okAtom (.int (0 - (big - 1))) = true ∧ okAtom (.str "") = true ∧ okAtom (.str "a") = true ∧ okAtom (.str "salt") = true ∧ okAtom (.str "two\nlines") = true ∧ okAtom (.str "q\"\\") = true ∧ okAtom (.int 0) = true ∧ okAtom (.int 1) = true := by decide +kernel
theorem atom_rest : okAtom (.int (big - 1)) = true ∧ okAtom (.int (0 - (big - 1))) = true ∧ okAtom (.str (repS 120 2000)) = true ∧ okAtom (.str "") = true ∧ okAtom (.str "a") = true ∧ okAtom (.str "salt") = true ∧ okAtom (.str "two\nlines") = true ∧ okAtom (.str "q\"\\") = true ∧ okAtom (.int 0) = true ∧ okAtom (.int 1) = true := by
  obtain ⟨a1, a2, a3, a4, a5, a6, a7, a8, a9⟩ := atom_rest0
  exact ⟨a1, a2, atom_x, a3, a4, a5, a6, a7, a8, a9⟩
def spAtom (K : PySem.W.Frag) : Sp := fun vs H Q _ => ∃ d c cells n, vs = [.ref d] ∧ Dr H d c cells n ∧ n ≤ 100000 ∧ ∀ v H', SameBut d H H' → Dr H' d c cells (n + 4) → okAtom v = true → Q v H'
theorem ok__law_atom (T : Txt P K mg a) : CallO P w K mg base 3 (.ref a._law_atom) (spAtom K) := by
  have G__law_next : CallO P w K mg base 2 (.ref a._law_next) spNext := ok__law_next T
  refine fnO (T.d__law_atom.okX sc__law_atom (fun vs H Q E h => ?_) (fun cdv A outer s H vs Q E hr h => ?_))
  · obtain ⟨d, c, cells, n, rfl, _⟩ := h
    rfl
  · obtain ⟨d, c, cells, n, rfl, D, hn, hq⟩ := h
    have hu := hu_of hr
    refine ⟨_, (pss_cons (ps_set (i := 1) sc__law_atom.nd rfl (Or.inl rfl) (pe_op op_sub (pe_op op_powB (pe_op op_powB pe_int pe_int) pe_int) pe_int))
 (pss_cons (ps_set (i := 2) sc__law_atom.nd rfl (Or.inl rfl) (pe_lst (pa_cons pe_non (pa_cons pe_bl (pa_cons pe_bl (pa_cons (pe_op op_sub (pe_co G__law_next (hr.mono (by decide)) rfl T.g__law_next T.k__law_next (takes_of rfl rfl rfl rfl) (pa_cons (pv 0) (pa_cons pe_int pa_nil))) pe_int) (pa_cons (pv 1) (pa_cons (pe_op op_sub pe_int (pv 1)) (pa_cons (pe_op op_add (pe_op op_powB pe_int pe_int) (pe_co G__law_next (hr.mono (by decide)) rfl T.g__law_next T.k__law_next (takes_of rfl rfl rfl rfl) (pa_cons (pv 0) (pa_cons pe_int pa_nil)))) pa_nil)))))))))
 (pss_cons (ps_set (i := 2) sc__law_atom.nd rfl (Or.inl rfl) (pe_op op_catS (pv 2) (pe_lst (pa_cons pe_str (pa_cons pe_str (pa_cons pe_str (pa_cons pe_str (pa_cons pe_str (pa_cons (pe_op op_mulS pe_str pe_int) (pa_cons (pe_op op_add_str pe_str (pe_callTy call_str_int (by rfl) T.b_str (by decide +kernel) (pa_cons (pe_co G__law_next (hr.mono (by decide)) rfl T.g__law_next T.k__law_next (takes_of rfl rfl rfl rfl) (pa_cons (pv 0) (pa_cons pe_int pa_nil))) pa_nil))) (pa_cons pe_int (pa_cons pe_int pa_nil))))))))))))
 (pss_one (ps_ret (pe_ix (ix_list' (K := K) rfl) (pv 2) (pe_co G__law_next (hr.mono (by decide)) rfl T.g__law_next T.k__law_next (takes_of rfl rfl rfl rfl) (pa_cons (pv 0) (pa_cons pe_int pa_nil))) (fun _ _ => rfl))))))), ?_⟩
    have pe : ((10 : Int) ^ (60 : Int).toNat) ^ (5 : Int).toNat = big := by decide +kernel
    have p1 : CPowB 10 60 := ⟨by decide, by decide +kernel⟩
    have p2 : CPowB ((10 : Int) ^ (60 : Int).toNat) 5 := ⟨by decide, by decide +kernel⟩
    have p3 : CPowB 10 40 := ⟨by decide, by decide +kernel⟩
    refine ⟨_, _, rfl, rfl, p1, _, _, rfl, rfl, p2, _, _, rfl, rfl, ?_⟩
    rw [pe]
    refine ⟨_, rfl, d, c, cells, n, 600, rfl, D, by omega, by omega, by omega, fun r H1 r0 r1 D1 B1 => ⟨_, _, rfl, rfl, _, rfl, _, rfl, _, _, rfl, rfl, _, _, rfl, rfl, p3, ?_⟩⟩
    refine ⟨_, rfl, d, c, cells, n + 1, 9, rfl, D1, by omega, by omega, by omega, fun r2 H2 s0 s1 D2 B2 => ⟨_, _, rfl, rfl, (by show 7 ≤ sizeLine; decide), fun q1 nq1 => ?_⟩⟩
    refine ⟨_, rfl, 120, 2000, rfl, rfl, (by decide), (by decide), ?_⟩
    have e1 := Ex.new (o := .lst [.non, .bl true, .bl false, .int (r - 300), .int (big - 1), .int (0 - (big - 1)), .int (10 ^ (40 : Int).toNat + r2)]) nq1
    have h1 : (upd H2 q1 (.lst [.non, .bl true, .bl false, .int (r - 300), .int (big - 1), .int (0 - (big - 1)), .int (10 ^ (40 : Int).toNat + r2)])) q1 = _ := upd_same
    generalize upd H2 q1 _ = HA at e1 h1
    have DA := D2.same e1
    obtain ⟨kvs, hd1⟩ := D2.atd
    have nq1d : q1 ≠ d := fun z => by rw [z, hd1] at nq1; cases nq1
    refine ⟨_, rfl, d, c, cells, n + 2, 12, rfl, DA, by omega, by omega, by omega, fun r3 H3 t0 t1 D3 B3 => ?_⟩
    obtain ⟨k3, hk3, rfl⟩ : ∃ k : Nat, k < 12 ∧ r3 = (k : Int) := ⟨r3.toNat, by omega, by omega⟩
    obtain ⟨ak, lk⟩ := atom_key k3 hk3
    have lkey : ("key" : Str).length = 3 := by decide +kernel
    refine ⟨_, rfl, Nat.lt_of_le_of_lt (Nat.log2_le_self _) (by omega), _, _, rfl, rfl, (by rw [sizeLine_eq, lkey]; omega), (by show 9 ≤ sizeLine; decide), fun q2 nq2 => ?_⟩
    have h3 : H3 q1 = _ := (B3 q1 nq1d).trans h1
    obtain ⟨kvs3, hd3⟩ := D3.atd
    have nq2d : q2 ≠ d := fun z => by rw [z, hd3] at nq2; cases nq2
    have e3 := Ex.new (o := .lst [.str "", .str "a", .str "salt", .str "two\nlines", .str "q\"\\", .str (repS 120 2000), .str (("key" : Str) ++ (toString ((k3 : Nat) : Int) : String)), .int 0, .int 1]) nq2
    refine ⟨q1, q2, _, _, rfl, rfl, .inl (.inl (e3 _ _ h3)), .inl (.inl upd_same), (by show 16 ≤ sizeLine; decide), fun q3 nq3 => ?_⟩
    have e4 := Ex.new (o := .lst ([.non, .bl true, .bl false, .int (r - 300), .int (big - 1), .int (0 - (big - 1)), .int (10 ^ (40 : Int).toNat + r2)] ++ [.str "", .str "a", .str "salt", .str "two\nlines", .str "q\"\\", .str (repS 120 2000), .str (("key" : Str) ++ (toString ((k3 : Nat) : Int) : String)), .int 0, .int 1])) nq3
    have nq3d : q3 ≠ d := fun z => by rw [z, e3 _ _ hd3] at nq3; cases nq3
    have D4 := (D3.same e3).same e4
    refine ⟨_, rfl, _, rfl, d, c, cells, n + 3, 16, rfl, D4, by omega, by omega, by omega, fun r4 H4 u0 u1 D5 B5 => ?_⟩
    have h4 : H4 q3 = _ := (B5 q3 nq3d).trans upd_same
    have sb : SameBut d H H4 := (((((B1.trans B2).sb.trans (SameBut.of e1)).trans B3.sb).trans (SameBut.of e3)).trans (SameBut.of e4)).trans B5.sb
    suffices h : ∃ v, atI ([V.non, .bl true, .bl false, .int (r - 300), .int (big - 1), .int (0 - (big - 1)), .int (10 ^ (40 : Int).toNat + r2)] ++ [.str "", .str "a", .str "salt", .str "two\nlines", .str "q\"\\", .str (repS 120 2000), .str (("key" : Str) ++ (toString ((k3 : Nat) : Int) : String)), .int 0, .int 1]) r4 = some v ∧ okAtom v = true by
      obtain ⟨v, hv, ho⟩ := h
      exact ⟨q3, _, r4, v, rfl, rfl, sq_of h4, hv, hq v H4 sb D5 ho⟩
    obtain ⟨a1, a2, a3, a4, a5, a6, a7, a8, a9, a10⟩ := atom_rest
    obtain ⟨i, hi, rfl⟩ : ∃ i : Nat, i < 16 ∧ r4 = (i : Int) := ⟨r4.toNat, by omega, by omega⟩
    match i, hi with
    | 0, _ => exact ⟨_, rfl, rfl⟩
    | 1, _ => exact ⟨_, rfl, rfl⟩
    | 2, _ => exact ⟨_, rfl, rfl⟩
    | 3, _ =>
      refine ⟨_, rfl, ?_⟩
      have := atom_small r.toNat (by omega)
      rwa [show ((r.toNat : Nat) : Int) = r by omega] at this
    | 4, _ => exact ⟨_, rfl, a1⟩
    | 5, _ => exact ⟨_, rfl, a2⟩
    | 6, _ =>
      refine ⟨_, rfl, ?_⟩
      have := atom_forty r2.toNat (by omega)
      rwa [show ((r2.toNat : Nat) : Int) = r2 by omega] at this
    | 7, _ => exact ⟨_, rfl, a4⟩
    | 8, _ => exact ⟨_, rfl, a5⟩
    | 9, _ => exact ⟨_, rfl, a6⟩
    | 10, _ => exact ⟨_, rfl, a7⟩
    | 11, _ => exact ⟨_, rfl, a8⟩
    | 12, _ => exact ⟨_, rfl, a3⟩
    | 13, _ => exact ⟨_, rfl, ak⟩
    | 14, _ => exact ⟨_, rfl, a9⟩
    | 15, _ => exact ⟨_, rfl, a10⟩

end
end BJL

namespace BJL
open PySem PySem.Spec PyProof.Rows L2 BJ
section
variable {P : Program} {w : World} {K : PySem.W.Frag} {mg : Str → Option Value} {base : Heap} {a : Adr}
open Evl
theorem oct_small : ∀ k < 256, okC 2 (.int ((k : Nat) : Int)) = true := by decide +kernel
theorem odd_small : okC 2 (.int 256) = true ∧ okC 2 (.int (0 - 1)) = true ∧ okC 2 (.bool true) = true ∧ okC 2 .none = true ∧ okC 2 (.str "7") = true ∧ okC 2 (.tuple [.int 7]) = true ∧ okC 2 (.list [.int 7]) = true ∧ okC 2 (.int (10 ^ (40 : Int).toNat)) = true ∧ okC 6 (.str "octets") = true ∧ okC 2 (.dict []) = true ∧ okC 2 (.int 5) = true := by decide +kernel
theorem dzAll_of {H : Hp} {R : PyData → Prop} : ∀ {xs : List V}, (∀ x ∈ xs, ∃ d, Dz K H x d ∧ R d) → ∃ ds, DzAll K H xs ds ∧ ∀ d ∈ ds, R d
  | [], _ => ⟨[], .nil, fun d h => nomatch h⟩
  | x :: xs, h => by
    obtain ⟨d, h1, h2⟩ := h x List.mem_cons_self
    obtain ⟨ds, h3, h4⟩ := dzAll_of (xs := xs) fun y hy => h y (List.mem_cons_of_mem _ hy)
    exact ⟨d :: ds, .cons h1 h3, fun y hy => by
      rcases List.mem_cons.mp hy with e | hy
      · rw [e]; exact h2
      · exact h4 y hy⟩
theorem tiny_z {ds : List PyData} (h : ∀ d ∈ ds, okC 2 d = true) (hl : ds.length ≤ 5000) : ShowsZ (.tuple ds) ∧ ShowsZ (.list ds) ∧ ShowsZ (.tuple [.tuple ds]) := by
  obtain ⟨h1, h2, h3, h4⟩ := okC_all h
  refine ⟨small_z (by unfold PyData.showable; exact h1) (by unfold PyData.leavesShort; exact h2) (by unfold PyData.depth; omega) (by unfold PyData.bulk; omega),
    small_z (by unfold PyData.showable; exact h1) (by unfold PyData.leavesShort; exact h2) (by unfold PyData.depth; omega) (by unfold PyData.bulk; omega), small_z ?_ ?_ ?_ ?_⟩
  · simp [PyData.showable, PyData.showableAll, h1]
  · simp [PyData.leavesShort, PyData.leavesShortAll, h2]
  · simp only [PyData.depth, PyData.depthAll]; omega
  · simp only [PyData.bulk, PyData.bulkAll]; omega
theorem ei_rng1 {σ : L2.St} {H : Hp} {ta : TA} {n : Int} (h : EvA ta σ H [.int n]) (h0 : 0 ≤ n) (h1 : n ≤ 1000000) : EvI (iRng1 ta) σ H ((List.range n.toNat).map fun k => V.int (0 + (k : Nat))) := fun H1 e R r => h H1 e _ fun H2 e2 =>
  ⟨n, rfl, by omega, by omega, r H2 _ _ e2 walk_rangeA fun _ _ => trivial⟩
def rowF (f : Int) : V → V | .int k => .int ((f + 7 * k) % 256) | _ => .non
def spTuple (K : PySem.W.Frag) : Sp := fun vs H Q _ => ∃ d c cells n, vs = [.ref d] ∧ Dr H d c cells n ∧ n ≤ 100000 ∧ ∀ v dv H', SameBut d H H' → Dr H' d c cells (n + 7) → Dz K (cutH d H') v dv → ShowsZ dv → Q v H'
theorem ok__law_tuple (T : Txt P K mg a) : CallO P w K mg base 3 (.ref a._law_tuple) (spTuple K) := by
  have G__law_next : CallO P w K mg base 2 (.ref a._law_next) spNext := ok__law_next T
  refine fnO (T.d__law_tuple.okX sc__law_tuple (fun vs H Q E h => ?_) (fun cdv A outer s H vs Q E hr h => ?_))
  · obtain ⟨d, c, cells, n, rfl, _⟩ := h
    rfl
  · obtain ⟨d, c, cells, n, rfl, D, hn, hq⟩ := h
    have hu := hu_of hr
    refine ⟨_, (pss_cons (ps_par (i := 1) (j := 2) rfl sc__law_tuple.nd rfl rfl (by decide) rfl rfl (pa_cons (pe_ix (ix_list' (K := K) rfl) (pe_lst (pa_cons pe_int (pa_cons pe_int (pa_cons (pe_co G__law_next (hr.mono (by decide)) rfl T.g__law_next T.k__law_next (takes_of rfl rfl rfl rfl) (pa_cons (pv 0) (pa_cons pe_int pa_nil))) (pa_cons pe_int (pa_cons pe_int pa_nil)))))) (pe_co G__law_next (hr.mono (by decide)) rfl T.g__law_next T.k__law_next (takes_of rfl rfl rfl rfl) (pa_cons (pv 0) (pa_cons pe_int pa_nil))) (fun _ _ => rfl)) (pa_cons (pe_co G__law_next (hr.mono (by decide)) rfl T.g__law_next T.k__law_next (takes_of rfl rfl rfl rfl) (pa_cons (pv 0) (pa_cons pe_int pa_nil))) pa_nil)) (by rfl))
 (pss_cons (ps_set (i := 3) sc__law_tuple.nd rfl (Or.inr rfl) (pe_co G__law_next (hr.mono (by decide)) rfl T.g__law_next T.k__law_next (takes_of rfl rfl rfl rfl) (pa_cons (pv 0) (pa_cons pe_int pa_nil))))
 (pss_cons (ps_set (i := 4) sc__law_tuple.nd rfl (Or.inl rfl) (pe_callTy call_tuple_of (by rfl) T.b_tuple (by decide +kernel) (pa_cons (pe_lc (own := [("k", 5)]) (g := (gName 5)) (by rfl) sc__law_tuple.nd (pi_range1 (by rfl) T.b_range (pa_cons (pv 1) pa_nil)) (blkOk_by (own := [("k", 5)]) (N := ["draw", "size", "way", "first", "found", "k", "at", "odd", "other"]) (sc := defScope s__law_tuple) (by decide +kernel)) (fun _ _ _ _ _ => (pg_name (i := 5) sc__law_tuple.nd rfl (Or.inl rfl))) (fun _ _ _ _ _ => pts_nil) (fun _ _ _ _ _ => (pe_op op_mod (pe_op op_add (pv 3) (pe_op op_mul pe_int (pv 5))) pe_int))) pa_nil)))
 (pss_cons (ps_set (i := 6) sc__law_tuple.nd rfl (Or.inl rfl) (pe_co G__law_next (hr.mono (by decide)) rfl T.g__law_next T.k__law_next (takes_of rfl rfl rfl rfl) (pa_cons (pv 0) (pa_cons (pe_op op_add (pv 1) pe_int) pa_nil))))
 (pss_cons (ps_set (i := 7) sc__law_tuple.nd rfl (Or.inl rfl) (pe_ix (ix_list' (K := K) rfl) (pe_lst (pa_cons pe_int (pa_cons (pe_op op_sub pe_int pe_int) (pa_cons pe_bl (pa_cons pe_non (pa_cons pe_str (pa_cons (pe_tup (pa_cons pe_int pa_nil)) (pa_cons (pe_lstN (pa_cons pe_int pa_nil)) (pa_cons (pe_op op_powB pe_int pe_int) pa_nil))))))))) (pe_co G__law_next (hr.mono (by decide)) rfl T.g__law_next T.k__law_next (takes_of rfl rfl rfl rfl) (pa_cons (pv 0) (pa_cons pe_int pa_nil))) (fun _ _ => rfl)))
 (pss_cons (ps_set (i := 8) sc__law_tuple.nd rfl (Or.inl rfl) (pe_ix (ix_list' (K := K) rfl) (pe_lst (pa_cons (pe_callTy call_list_ofN (by rfl) T.b_list (by decide +kernel) (pa_cons (pv 4) pa_nil)) (pa_cons pe_non (pa_cons pe_int (pa_cons pe_str (pa_cons pe_dnewK (pa_cons (pe_tup (pa_cons (pv 4) pa_nil)) pa_nil))))))) (pe_co G__law_next (hr.mono (by decide)) rfl T.g__law_next T.k__law_next (takes_of rfl rfl rfl rfl) (pa_cons (pv 0) (pa_cons pe_int pa_nil))) (fun _ _ => rfl)))
 (pss_one (ps_ret (pe_ix (ix_list' (K := K) rfl) (pe_lst (pa_cons (pv 4) (pa_cons (pv 4) (pa_cons (pe_op op_catA (pe_op op_catA (pe_slice sl_tupA (pv 4) po_none (po_some (pv 6))) (pe_tup (pa_cons (pv 7) pa_nil))) (pe_slice sl_tupA (pv 4) (po_some (pv 6)) po_none)) (pa_cons (pv 8) pa_nil))))) (pv 2) (fun _ _ => rfl)))))))))), ?_⟩
    have p3 : CPowB 10 40 := ⟨by decide, by decide +kernel⟩
    -- size, way
    refine ⟨_, rfl, d, c, cells, n, 20, rfl, D, by omega, by omega, by omega, fun r1 H1 a0 a1 D1 B1 => ⟨(by show 5 ≤ sizeLine; decide), fun q1 nq1 => ?_⟩⟩
    obtain ⟨kvs1, hd1⟩ := D1.atd
    have q1d : q1 ≠ d := fun z => by rw [z, hd1] at nq1; cases nq1
    have e1 := Ex.new (o := .lst [.int 0, .int 1, .int r1, .int 2000, .int 2001]) nq1
    refine ⟨_, rfl, d, c, cells, n + 1, 5, rfl, D1.same e1, by omega, by omega, by omega, fun r2 H2 b0 b1 D2 B2 => ?_⟩
    have hq1 : H2 q1 = some (.lst [.int 0, .int 1, .int r1, .int 2000, .int 2001]) := (B2 q1 q1d).trans upd_same
    obtain ⟨sz, hsz, hat⟩ : ∃ sz : Nat, sz ≤ 2001 ∧ atI [V.int 0, .int 1, .int r1, .int 2000, .int 2001] r2 = some (.int ((sz : Nat) : Int)) := by
      obtain ⟨i, hi, rfl⟩ : ∃ i : Nat, i < 5 ∧ r2 = (i : Int) := ⟨r2.toNat, by omega, by omega⟩
      match i, hi with
      | 0, _ => exact ⟨0, by omega, rfl⟩
      | 1, _ => exact ⟨1, by omega, rfl⟩
      | 2, _ => exact ⟨r1.toNat, by omega, by rw [show ((r1.toNat : Nat) : Int) = r1 by omega]; rfl⟩
      | 3, _ => exact ⟨2000, by omega, rfl⟩
      | 4, _ => exact ⟨2001, by omega, rfl⟩
    refine ⟨q1, _, r2, _, rfl, rfl, sq_of hq1, hat, ?_⟩
    refine ⟨_, rfl, d, c, cells, n + 2, 4, rfl, D2, by omega, by omega, by omega, fun wy H3 c0 c1 D3 B3 => ⟨_, _, rfl, ?_⟩⟩
    -- first
    refine ⟨_, rfl, d, c, cells, n + 3, 256, rfl, D3, by omega, by omega, by omega, fun f H4 f0 f1 D4 B4 => ?_⟩
    have sb4 : SameBut d H H4 := ((B1.sb.trans (SameBut.of e1)).trans ((B2.trans B3).trans B4).sb)
    -- found
    refine q_asgU (xs := ((List.range sz).map fun k => V.int (0 + (k : Nat))).map (rowF f)) (eu_tupL (el_all (vs := [5]) (j := 5) (ei_rng1 (n := (sz : Nat)) (ea_cons (ev_var rfl) ea_nil) (by omega) (by omega)) (rowF f) (by rw [List.length_map, List.length_range]; omega) (fun _ => rfl) (fun y hy H5 e5 => ?_))) (fun p H5 hp e5 h5 => ?_)
    · obtain ⟨k, hk, rfl⟩ := List.mem_map.mp hy
      have hk2 : k < sz := by simpa using hk
      exact fun H6 e6 Q q => ⟨_, rfl, _, rfl, _, _, rfl, rfl, .inl (by omega), _, _, rfl, rfl, _, _, rfl, rfl, (by show (0 : Int) < 256; decide), q H6 (Ex.refl _)⟩
    generalize hxs : ((List.range sz).map fun k => V.int (0 + (k : Nat))).map (rowF f) = xs at h5
    have hlen : xs.length = sz := by rw [← hxs, List.length_map, List.length_map, List.length_range]
    have hoct : ∀ H : Hp, ∀ y ∈ xs, ∃ dy, Dz K H y dy ∧ okC 2 dy = true := fun H y hy => by
      rw [← hxs] at hy
      obtain ⟨z, hz, rfl⟩ := List.mem_map.mp hy
      obtain ⟨k, hk, rfl⟩ := List.mem_map.mp hz
      have := oct_small ((f + 7 * (0 + (k : Nat))) % 256).toNat (by omega)
      rw [show ((((f + 7 * (0 + (k : Nat))) % 256).toNat : Nat) : Int) = (f + 7 * (0 + (k : Nat))) % 256 by omega] at this
      exact ⟨_, .int _, this⟩
    have D5 := D4.same e5
    obtain ⟨kvs5, hd5⟩ := D5.atd
    have st5 := cut_stab d H5
    have hS5 : SqT K (cutH d H5) p xs := sqT_cut hd5 (st_of h5)
    generalize hS5d : cutH d H5 = S5 at st5 hS5
    have x55 : Ex S5 H5 := hS5d ▸ cut_ex d H5
    have sb5 : SameBut d H H5 := sb4.trans (SameBut.of e5)
    -- at
    refine ⟨_, rfl, _, rfl, _, _, rfl, rfl, d, c, cells, n + 4, _, rfl, D5, by omega, by omega, by omega, fun ta H6 g0 g1 D6 B6 => ?_⟩
    have x56 : Ex S5 H6 := st5.but x55 B6.sb
    -- odd
    refine ⟨_, _, rfl, rfl, (by show 1 ≤ sizeLine; decide), fun p6 n6 => ⟨(by show 1 ≤ sizeLine; decide), fun p7 n7 s7 => ⟨_, _, rfl, rfl, p3, (by show 8 ≤ sizeLine; decide), fun p8 n8 => ?_⟩⟩⟩
    have y6 := Ex.new (o := .tup [.int 7]) n6
    have y7 := Ex.new (o := .lst [.int 7]) n7
    have y8 := Ex.new (o := .lst [.int 256, .int (0 - 1), .bl true, .non, .str "7", .ref p6, .ref p7, .int (10 ^ (40 : Int).toNat)]) n8
    have D8 := D6.same ((y6.trans y7).trans y8)
    obtain ⟨kvs6, hd6⟩ := D6.atd
    have p6d : p6 ≠ d := fun z => by rw [z, hd6] at n6; cases n6
    have p7d : p7 ≠ d := fun z => by rw [z, y6 _ _ hd6] at n7; cases n7
    have p8d : p8 ≠ d := fun z => by rw [z, (y6.trans y7) _ _ hd6] at n8; cases n8
    refine ⟨_, rfl, d, c, cells, n + 5, 8, rfl, D8, by omega, by omega, by omega, fun r5 H7 g2 g3 D7 B7 => ?_⟩
    have x57 : Ex S5 H7 := st5.but (x56.trans ((y6.trans y7).trans y8)) B7.sb
    have k6 : H7 p6 = some (.tup [.int 7]) := (B7 p6 p6d).trans ((y7.trans y8) _ _ upd_same)
    have k7 : H7 p7 = some (.lst [.int 7]) := (B7 p7 p7d).trans (y8 _ _ upd_same)
    have k8 : H7 p8 = some (.lst [.int 256, .int (0 - 1), .bl true, .non, .str "7", .ref p6, .ref p7, .int (10 ^ (40 : Int).toNat)]) := (B7 p8 p8d).trans upd_same
    have st7 := cut_stab d H7
    have xS7 : Ex S5 (cutH d H7) := st5.to_cut x57
    have m6 : SqT K (cutH d H7) p6 [.int 7] := st_of (cut_at k6 p6d (fun ps z => nomatch z))
    have m7 : SqL K (cutH d H7) p7 [.int 7] := sq_of (cut_at k7 p7d (fun ps z => nomatch z))
    obtain ⟨o1, o2, o3, o4, o5, o6, o7, o8, o9, o10, o11⟩ := odd_small
    obtain ⟨v7, dv7, hat7, dz7, ok7⟩ : ∃ v dv, atI [V.int 256, .int (0 - 1), .bl true, .non, .str "7", .ref p6, .ref p7, .int (10 ^ (40 : Int).toNat)] r5 = some v ∧ Dz K (cutH d H7) v dv ∧ okC 2 dv = true := by
      obtain ⟨i, hi, rfl⟩ : ∃ i : Nat, i < 8 ∧ r5 = (i : Int) := ⟨r5.toNat, by omega, by omega⟩
      match i, hi with
      | 0, _ => exact ⟨_, _, rfl, .int _, o1⟩
      | 1, _ => exact ⟨_, _, rfl, .int _, o2⟩
      | 2, _ => exact ⟨_, _, rfl, .bl _, o3⟩
      | 3, _ => exact ⟨_, _, rfl, .non, o4⟩
      | 4, _ => exact ⟨_, _, rfl, .str _, o5⟩
      | 5, _ => exact ⟨_, _, rfl, .tup m6 (.cons (.int 7) .nil), o6⟩
      | 6, _ => exact ⟨_, _, rfl, .lst m7 s7 (.cons (.int 7) .nil), o7⟩
      | 7, _ => exact ⟨_, _, rfl, .int _, o8⟩
    have x77 : Ex (cutH d H7) H7 := cut_ex d H7
    generalize cutH d H7 = S7 at st7 xS7 dz7 x77
    refine ⟨p8, _, r5, v7, rfl, rfl, sq_of k8, hat7, ?_⟩
    have sb7 : SameBut d H H7 := ((sb5.trans B6.sb).trans (SameBut.of ((y6.trans y7).trans y8))).trans B7.sb
    -- other
    refine ⟨_, rfl, p, xs, rfl, .inr (ex_t x57 hS5), fun l9 n9 s9 => ?_⟩
    have z9 := Ex.new (o := .lst xs) n9
    intro e9 ne9
    have z10 := Ex.new (o := .dK []) ne9
    refine ⟨_, rfl, (by show 1 ≤ sizeLine; decide), fun t9 nt9 => ⟨(by show 6 ≤ sizeLine; decide), fun l10 n10 => ?_⟩⟩
    have z11 := Ex.new (o := .tup [.ref p]) nt9
    have z12 := Ex.new (o := .lst [.ref l9, .non, .int 5, .str "octets", .ref e9, .ref t9]) n10
    have z8 := ((z9.trans z10).trans z11).trans z12
    have D10 := D7.same z8
    obtain ⟨kvs7, hd7⟩ := D7.atd
    have l9d : l9 ≠ d := fun z => by rw [z, hd7] at n9; cases n9
    have e9d : e9 ≠ d := fun z => by rw [z, z9 _ _ hd7] at ne9; cases ne9
    have t9d : t9 ≠ d := fun z => by rw [z, (z9.trans z10) _ _ hd7] at nt9; cases nt9
    have l10d : l10 ≠ d := fun z => by rw [z, ((z9.trans z10).trans z11) _ _ hd7] at n10; cases n10
    refine ⟨_, rfl, d, c, cells, n + 6, 6, rfl, D10, by omega, by omega, by omega, fun r6 H8 g4 g5 D11 B8 => ?_⟩
    have k9 : H8 l9 = some (.lst xs) := (B8 l9 l9d).trans (((z10.trans z11).trans z12) _ _ upd_same)
    have ke : H8 e9 = some (.dK []) := (B8 e9 e9d).trans ((z11.trans z12) _ _ upd_same)
    have kt : H8 t9 = some (.tup [.ref p]) := (B8 t9 t9d).trans (z12 _ _ upd_same)
    have k10 : H8 l10 = some (.lst [.ref l9, .non, .int 5, .str "octets", .ref e9, .ref t9]) := (B8 l10 l10d).trans upd_same
    have st8 := cut_stab d H8
    have x78 : Ex S7 H8 := st7.but (x77.trans z8) B8.sb
    have xS8 : Ex S7 (cutH d H8) := st7.to_cut x78
    have m9 : SqL K (cutH d H8) l9 xs := sq_of (cut_at k9 l9d (fun ps z => nomatch z))
    have me : cutH d H8 e9 = some (.dK []) := cut_at ke e9d (fun ps z => nomatch z)
    have mt : SqT K (cutH d H8) t9 [.ref p] := st_of (cut_at kt t9d (fun ps z => nomatch z))
    have mp : SqT K (cutH d H8) p xs := ex_t (xS7.trans xS8) hS5
    obtain ⟨dxs, hdx, hox⟩ := dzAll_of (K := K) (R := fun d => okC 2 d = true) (hoct (cutH d H8))
    have hdl := dzAll_len hdx
    obtain ⟨w1, w2, w3⟩ := tiny_z hox (by omega)
    obtain ⟨v8, dv8, hat8, dz8, ok8⟩ : ∃ v dv, atI [V.ref l9, .non, .int 5, .str "octets", .ref e9, .ref t9] r6 = some v ∧ Dz K (cutH d H8) v dv ∧ ShowsZ dv := by
      obtain ⟨i, hi, rfl⟩ : ∃ i : Nat, i < 6 ∧ r6 = (i : Int) := ⟨r6.toNat, by omega, by omega⟩
      match i, hi with
      | 0, _ => exact ⟨_, _, rfl, .lst m9 s9 hdx, w2⟩
      | 1, _ => exact ⟨_, _, rfl, .non, small_z (by decide) (by decide) (by decide) (by decide)⟩
      | 2, _ => exact ⟨_, _, rfl, .int _, small_z (by decide +kernel) (by decide +kernel) (by decide) (by decide)⟩
      | 3, _ => exact ⟨_, _, rfl, .str _, small_z (by decide +kernel) (by decide +kernel) (by decide) (by decide +kernel)⟩
      | 4, _ => exact ⟨_, _, rfl, .dict (kvs := []) (ds := []) me .nil, small_z (by decide +kernel) (by decide +kernel) (by decide +kernel) (by decide +kernel)⟩
      | 5, _ => exact ⟨_, _, rfl, .tup mt (.cons (.tup mp hdx) .nil), w3⟩
    refine ⟨l10, _, r6, v8, rfl, rfl, sq_of k10, hat8, ?_⟩
    have sb8 : SameBut d H H8 := (sb7.trans (SameBut.of z8)).trans B8.sb
    -- what comes out
    have es := es_cat (K := K) (es_cat (es_sl (es_var (σ := [some (.ref d), some (.int ((sz : Nat) : Int)), some (.int wy), some (.int f), some (.ref p), none, some (.int ta), some v7, some v8]) (i := 4) rfl (ex_t (cut_ex d H8) mp)) (tl := tNoPart) (lo := none) (fun H1 e Q q => q H1 (Ex.refl _)) (th := tPart (tVar 6)) (hi := some ta) (fun H1 e Q q => ⟨_, rfl, _, rfl, q H1 (Ex.refl _)⟩)) (es_U (eu_tup (ea_cons (ta := tVar 7) (ev_var rfl) ea_nil) (by show 1 ≤ 100000; decide))) (by have := cutV_length xs none (some ta); show _ + 1 ≤ _; omega))
      (es_sl (es_var (i := 4) rfl (ex_t (cut_ex d H8) mp)) (tl := tPart (tVar 6)) (lo := some ta) (fun H1 e Q q => ⟨_, rfl, _, rfl, q H1 (Ex.refl _)⟩) (th := tNoPart) (hi := none) (fun H1 e Q q => q H1 (Ex.refl _))) (by have := cutV_length xs none (some ta); have := cutV_length xs (some ta) none; rw [List.length_append]; show _ + 1 + _ ≤ _; omega)
    refine ⟨_, rfl, _, rfl, es H8 (Ex.refl _) _ fun z H9 x9 hz => ⟨_, rfl, (by show 4 ≤ sizeLine; decide), fun lf nf => ?_⟩⟩
    have x10 := Ex.new (o := .lst [.ref p, .ref p, .ref z, v8]) nf
    have D12 := (D11.same x9).same x10
    obtain ⟨kvs8, hd8⟩ := D12.atd
    have sbF : SameBut d H (upd H9 lf (.lst [.ref p, .ref p, .ref z, v8])) := sb8.trans (SameBut.of (x9.trans x10))
    have x8F : Ex (cutH d H8) (cutH d (upd H9 lf (.lst [.ref p, .ref p, .ref z, v8]))) := st8.to_cut (((cut_ex d H8).trans x9).trans x10)
    have mz := sqT_cut hd8 (ex_t x10 hz)
    obtain ⟨dzs, hdz1, hdz2⟩ := dzAll_of (K := K) (H := cutH d (upd H9 lf (.lst [.ref p, .ref p, .ref z, v8]))) (R := fun d => okC 2 d = true) (xs := cutV xs none (some ta) ++ [v7] ++ cutV xs (some ta) none) (fun y hy => by
      rcases List.mem_append.mp hy with hy | hy
      · rcases List.mem_append.mp hy with hy | hy
        · exact hoct _ y (List.mem_of_mem_drop (List.mem_of_mem_take hy))
        · rw [List.mem_singleton.mp hy]
          exact ⟨dv7, dz_ex (xS8.trans x8F) dz7, ok7⟩
      · exact hoct _ y (List.mem_of_mem_drop (List.mem_of_mem_take hy)))
    have hzl := dzAll_len hdz1
    have c1 := cutV_length xs none (some ta)
    have c2 := cutV_length xs (some ta) none
    rw [List.length_append, List.length_append] at hzl
    obtain ⟨u1, _, _⟩ := tiny_z hdz2 (by have e1 : [v7].length = 1 := rfl
                                         omega)
    obtain ⟨i, hi, rfl⟩ : ∃ i : Nat, i < 4 ∧ wy = (i : Int) := ⟨wy.toNat, by omega, by omega⟩
    have fin : ∀ v dv, atI [V.ref p, .ref p, .ref z, v8] (i : Int) = some v → Dz K (cutH d (upd H9 lf (.lst [.ref p, .ref p, .ref z, v8]))) v dv → ShowsZ dv → ∃ p_1 xs i_1 v, V.ref lf = .ref p_1 ∧ V.int (i : Int) = .int i_1 ∧ SqL K (upd H9 lf (.lst [.ref p, .ref p, .ref z, v8])) p_1 xs ∧ atI xs i_1 = some v ∧ Q v (upd H9 lf (.lst [.ref p, .ref p, .ref z, v8])) :=
      fun v dv h1 h2 h3 => ⟨lf, _, _, v, rfl, rfl, sq_of upd_same, h1, hq v dv _ sbF D12 h2 h3⟩
    refine ⟨_, rfl, ?_⟩
    match i, hi with
    | 0, _ => exact fin _ _ rfl (.tup (ex_t x8F mp) (dzAll_ex x8F hdx)) w1
    | 1, _ => exact fin _ _ rfl (.tup (ex_t x8F mp) (dzAll_ex x8F hdx)) w1
    | 2, _ => exact fin _ _ rfl (.tup mz hdz1) u1
    | 3, _ => exact fin _ _ rfl (dz_ex x8F dz8) ok8

end
end BJL

namespace BJL
open PySem PySem.Spec PyProof.Rows L2 BJ
section
variable {P : Program} {w : World} {K : PySem.W.Frag} {mg : Str → Option Value} {base : Heap} {a : Adr}
open Evl
theorem octs_ints {H : Hp} : ∀ {xs : List V} {ds : List PyData}, DzAll K H xs ds → ds.all octD = true → ∃ ns : List Int, xs = ns.map V.int ∧ ds = ns.map PyData.int
  | _, _, .nil, _ => ⟨[], rfl, rfl⟩
  | _, _, .cons h1 h2, h => by
    rw [List.all_cons, Bool.and_eq_true] at h
    obtain ⟨ns, e1, e2⟩ := octs_ints h2 h.2
    cases h1 with
    | int i => exact ⟨i :: ns, by rw [e1]; rfl, by rw [e2]; rfl⟩
    | _ => cases h.1
theorem octs_tup {H : Hp} {x : V} {d : PyData} (dz : Dz K H x d) (h : octs d = true) : ∃ (t : Addr) (ns : List Int), x = .ref t ∧ SqT K H t (ns.map V.int) := by
  cases dz with
  | tup hs ha =>
    have h2 := h
    simp only [octs, Bool.and_eq_true] at h2
    obtain ⟨ns, e1, e2⟩ := octs_ints ha h2.2
    rw [e1] at hs
    exact ⟨_, ns, rfl, hs⟩
  | _ => cases h
theorem exm_first {cls c1 c2 c3 : Value} {b1 b2 b3 : Bool} (h1 : PySem.W.exmOne K cls c1 = some b1) (h2 : PySem.W.exmOne K cls c2 = some b2) (h3 : PySem.W.exmOne K cls c3 = some b3) : PySem.W.exmAny K cls [c1, c2, c3] = some (b1 || (b2 || (b3 || false))) := by
  simp only [PySem.W.exmAny, h1, h2, h3]
def spORight (K : PySem.W.Frag) : Sp := fun vs H Q _ => ∃ x d, vs = [x] ∧ Dz K H x d ∧ ShowsZ d ∧ ∀ H', Ex H H' → Q (.bl true) H'
theorem ok__law_octets_right (T : Txt P K mg a) : CallP P w K mg base 13 (.ref a._law_octets_right) (spORight K) := by
  obtain ⟨G_Octets, GK_Octets_numbers, _⟩ := ok_Octets (P := P) (w := w) (base := base) (mg := mg) T
  have G__law_is_octets : CallP P w K mg base 2 (.ref a._law_is_octets) (spDB K octs) := (ok__law_is_octets T).p
  refine T.d__law_octets_right.ok sc__law_octets_right (fun vs H Q E h => ?_) (fun cdv A outer s H vs Q E hr hG h => ?_)
  · obtain ⟨x, d, rfl, _⟩ := h
    rfl
  · obtain ⟨x, d, rfl, dz0, sh, hq⟩ := h
    refine ⟨_, (pss_cons (ps_asg (pe_tup (pa_cons pe_non (pa_cons pe_non pa_nil))) (pg_tup rfl (pgs_cons (pg_name (i := 1) sc__law_octets_right.nd rfl (Or.inl rfl)) (pgs_cons (pg_name (i := 2) sc__law_octets_right.nd rfl (Or.inl rfl)) pgs_nil))) (by rfl))
 (pss_cons (ps_tryK (i := 3) (ts := fun a cls d => tAsg (tVar 3) (gName 1)) rfl rfl rfl sc__law_octets_right.nd rfl rfl (cl_three ⟨rfl, by decide, Or.inl T.g_JarError⟩ ⟨rfl, by decide, Or.inl T.g_StateError⟩ ⟨rfl, by decide, Or.inl T.g_MissingError⟩) (takes_of rfl rfl rfl rfl)
 (fun W pn xe tk pn_ => (pss_one (ps_set (i := 2) sc__law_octets_right.nd rfl (Or.inl rfl) (pe_cx G_Octets (hr.mono (by decide)) rfl T.g_Octets T.k_Octets tk (pa_cons (pv 0) pa_nil) pk_nil))))
 (fun a oe cls d pn hz hf => (pss_one (ps_set (i := 1) sc__law_octets_right.nd rfl (Or.inl rfl) (pv 3)))))
 (pss_cons (ps_if (pt_cmp (pc_notN (pv 1)))
 (pss_one (ps_ret (pe_and (pe_not (pe_ca G__law_is_octets (hr.mono (by decide)) hG rfl T.g__law_is_octets T.k__law_is_octets (takes_of rfl rfl rfl rfl) (pa_cons (pv 0) pa_nil))) (pe_and (pe_callB (call_isG' (K := K) rfl) (by rfl) T.b_isinstance (by decide +kernel) (pa_cons (pv 1) (pa_cons (pe_glob (v := .ref a.InvalidNumbers) (by rfl) T.g_InvalidNumbers rfl) pa_nil))) (pe_one (pe_cmpR op_eq (pe_callB (call_reprZ (K := K) rfl hr hG) (by rfl) T.b_repr (by decide +kernel) (pa_cons (pe_exf (pv 1)) pa_nil)) (pe_callB (call_reprZ (K := K) rfl hr hG) (by rfl) T.b_repr (by decide +kernel) (pa_cons (pv 0) pa_nil)) (nomark _)))))))
 pss_nil)
 (pss_cons (ps_if (PW.pt (pw_or (pt_not (pt_val (pe_ca G__law_is_octets (hr.mono (by decide)) hG rfl T.g__law_is_octets T.k__law_is_octets (takes_of rfl rfl rfl rfl) (pa_cons (pv 0) pa_nil)))) (pw_or (pt_cmpR (op_neD' (K := K) rfl hr.units) (pe_pr (pv 2)) (pv 0) (nomark _)) (pw_or1 (pt_cmpR op_ne (pe_pr (pv 2)) pe_str (nomark _))))))
 (pss_one (ps_ret pe_bl))
 pss_nil)
 (pss_one (ps_ret (pe_and (pe_cmpR (op_eqD' (K := K) rfl hr.units) (pe_lcY rfl (py_me0 (k := 2) (pv 2) (hr.mono (by decide))) (hr.mono (by decide)) rfl rfl) (pe_lst pa_nil) (nomark _)) (pe_and (pe_cmpR (op_eqI (Nat.lt_of_le_of_lt (Nat.le_add_right _ _) hr.units)) (pv 2) (pv 2) (nomark _)) (pe_one (pe_not (pe_cmpR (op_eqI (Nat.lt_of_le_of_lt (Nat.le_add_right _ _) hr.units)) (pv 2) (pe_cx0 GK_Octets_numbers (hr.mono (by decide)) rfl T.g_Octets T.k_Octets (takes_of rfl rfl rfl rfl) (pk_cons (pv 0) pk_nil)) (nomark _)))))))))))), ?_⟩
    refine ⟨(by show 2 ≤ sizeLine; decide), fun p0 np0 => ⟨p0, _, rfl, st_of upd_same, rfl, _, _, rfl, _, _, rfl, rfl, ?_⟩⟩
    have e0 := Ex.new (o := .tup [.non, .non]) np0
    have dz := dz_ex e0 dz0
    have hq0 : ∀ H', Ex (upd H p0 (.tup [.non, .non])) H' → Q (.bl true) H' := fun H' e => hq H' (e0.trans e)
    generalize upd H p0 _ = H0 at dz hq0
    refine ⟨_, rfl, x, rfl, rfl, d, dz, ?_⟩
    cases ho : octs d with
    | false =>
      refine .inr ⟨rfl, fun dd H1 hd e1 hx => ?_⟩
      refine ⟨true, exm_first T.v_InvalidNumbers_JarError T.v_InvalidNumbers_StateError T.v_InvalidNumbers_MissingError, fun _ e he => ⟨_, rfl, ?_⟩, fun z => nomatch z⟩
      have hat : ExcAt (upd H1 e (ExcK e (.ref a.InvalidNumbers) (some dd))) e a.InvalidNumbers dd [("value", x)] := ⟨upd_same, by rw [upd_ne (ne_of_none hx he)]; exact hx⟩
      have eE := e1.trans (Ex.new (o := ExcK e (.ref a.InvalidNumbers) (some dd)) he)
      refine ⟨_, rfl, _, rfl, ?_⟩
      refine iteT ?_
      refine ⟨_, rfl, x, d, rfl, dz_ex eE dz, fun H3 e3 => ⟨_, rfl, _, rfl, ?_⟩⟩
      rw [ho]
      have hat3 : ExcAt H3 e a.InvalidNumbers dd [("value", x)] := ⟨e3 _ _ hat.1, e3 _ _ hat.2⟩
      have dz3 := dz_ex (eE.trans e3) dz
      refine ⟨_, rfl, .ref e, .ref a.InvalidNumbers, .ref a.InvalidNumbers, .ref a.InvalidNumbers, true, rfl, .own _, .exc hat3 T.R_InvalidNumbers, T.u_InvalidNumbers_InvalidNumbers, true, rfl, ?_⟩
      refine ⟨_, rfl, e, a.InvalidNumbers, dd, _, x, rfl, hat3, T.R_InvalidNumbers, T.n_InvalidNumbers_value, rfl, x, d, rfl, dz3, sh, _, rfl, x, d, rfl, dz3, sh, rfl, ?_⟩
      have := hq0 _ (eE.trans e3)
      rw [show V.bl true = V.bl (decide (V.str d.shown = V.str d.shown)) from congrArg V.bl (decide_eq_true rfl).symm] at this
      exact this
    | true =>
      refine .inl ⟨rfl, fun p dx H1 hp hs e1 hp1 => ?_⟩
      refine ⟨_, rfl, _, rfl, iteF ?_⟩
      obtain ⟨t, ns, rfl, hsq0⟩ := octs_tup dz ho
      have hsq := ex_t e1 hsq0
      have dz1 := dz_ex e1 dz
      have look : ([("row", V.ref t)] : List (Str × V)).lookup ("row" : Str) = some (.ref t) := rfl
      have nochild : ([("row", V.ref t)] : List (Str × V)).lookup ("children" : Str) = none := rfl
      have evN : Ev (tPr (cxOf (L2.CX P w) P w K mg base ["what", "caught", "found", "e", "one"] "_law_octets_right" (defScope s__law_octets_right) a._law_octets_right cdv A outer s H E) "numbers" (tVar 2)) [some (.ref t), some .non, some (.ref p), none, none] H1 (.ref t) := fun H2 e2 Q q =>
        ⟨_, rfl, p, a.Octets, dx, _, _, _, 1, _, rfl, e2 _ _ hp1, T.c_Octets, T.p_Octets_numbers, ok_Octets_numbers T, hr.mono (by decide), p, a.Octets, dx, .ref t, _, rfl, e2 _ _ hp1, T.c_Octets, T.n_Octets_row, look, q H2 (Ex.refl _)⟩
      have evS : Ev (tPr (cxOf (L2.CX P w) P w K mg base ["what", "caught", "found", "e", "one"] "_law_octets_right" (defScope s__law_octets_right) a._law_octets_right cdv A outer s H E) "shape" (tVar 2)) [some (.ref t), some .non, some (.ref p), none, none] H1 (.str "octets") := fun H2 e2 Q q =>
        ⟨_, rfl, p, a.Octets, dx, _, _, _, 1, _, rfl, e2 _ _ hp1, T.c_Octets, T.p_Octets_shape, ok_Octets_shape T, hr.mono (by decide), _, rfl, q H2 (Ex.refl _)⟩
      have t1 : EvT (tNot (tB (tCa (spDB K octs) (fun cls d _ H => E cls d H) (tCons (tVar 0) tNil)))) [some (.ref t), some .non, some (.ref p), none, none] H1 (!true) := et_not (et_B (ev_ca (ea_cons (ev_var rfl) ea_nil) fun H2 e2 Q E q => ⟨_, d, rfl, dz_ex e2 dz1, by rw [ho]; exact fun H3 e3 => q H3 e3⟩))
      have t2 : EvT (tTest (tOp (rNeD K) (tPr (cxOf (L2.CX P w) P w K mg base ["what", "caught", "found", "e", "one"] "_law_octets_right" (defScope s__law_octets_right) a._law_octets_right cdv A outer s H E) "numbers" (tVar 2)) (tVar 0))) [some (.ref t), some .non, some (.ref p), none, none] H1 false := et_test (ev_op evN (ev_var rfl) (fun H2 e2 Q q => ⟨dT ns, dT ns, dp_T (ex_t e2 hsq), dp_T (ex_t e2 hsq), dT_shaped _, dT_shaped _, by rw [eqv_T, decide_eq_true rfl]; exact q H2 (Ex.refl _)⟩))
      have t3 : EvT (tTest (tOp rNe (tPr (cxOf (L2.CX P w) P w K mg base ["what", "caught", "found", "e", "one"] "_law_octets_right" (defScope s__law_octets_right) a._law_octets_right cdv A outer s H E) "shape" (tVar 2)) (tC (.str "octets")))) [some (.ref t), some .non, some (.ref p), none, none] H1 false := et_test (ev_is (ev_op evS ev_c (rv_ne rfl)) (congrArg V.bl (by rw [decide_eq_true rfl]; rfl)))
      refine q_when (b := !true || (false || false)) (et_or t1 fun _ => et_or t2 fun _ => t3) (fun z => nomatch z) fun _ H2 e2 => ?_
      have hp2 := e2 _ _ hp1
      refine ⟨_, rfl, p, a.Octets, dx, a.Node_children, _, syNone, [], rfl, hp2, nochild, T.c_Octets, T.p_Octets_children, (ok_Node_children T), _, rfl, rfl, fun H3 e3 => ⟨Nat.zero_le _, fun D hD hDs => ?_⟩⟩
      have e4 := Ex.new (o := .lst []) hD
      refine ⟨Nat.zero_le _, fun l hl => ?_⟩
      have e5 := Ex.new (o := .lst []) hl
      refine ⟨dL [], dL [], dp_L (ns := []) (sq_of (e5 _ _ upd_same)), dp_L (ns := []) (sq_of upd_same), dL_shaped _, dL_shaped _, _, rfl, ?_⟩
      rw [eqv_L]
      refine iteT ?_
      have hpF := ((e3.trans e4).trans e5) _ _ hp2
      refine ⟨_, rfl, _, rfl, p, p, a.Octets, dx, dx, _, _, rfl, rfl, hpF, hpF, T.e_Octets, _, rfl, ?_⟩
      rw [decide_eq_true rfl]
      refine iteT ?_
      have eF := ((e2.trans e3).trans e4).trans e5
      refine ⟨_, rfl, _, rfl, .ref t, rfl, rfl, d, dz_ex eF dz1, .inl ⟨ho, fun p2 dx2 H4 hp4 hs4 e6 hp5 => ?_⟩⟩
      refine ⟨p, p2, a.Octets, dx, dx2, _, _, rfl, rfl, e6 _ _ hpF, hp5, T.e_Octets, _, rfl, ?_⟩
      have hne : p ≠ p2 := fun z => by rw [← z, hpF] at hp4; cases hp4
      rw [decide_eq_false hne]
      exact hq0 _ ((e1.trans eF).trans e6)

end
end BJL

namespace BJL
open PySem PySem.Spec PyProof.Rows L2 BJ
section
variable {P : Program} {w : World} {K : PySem.W.Frag} {mg : Str → Option Value} {base : Heap} {a : Adr}
open Evl
/-- a thing that may be among the keys that are drawn -/
def KI (K : PySem.W.Frag) (H : Hp) (x : V) : Prop := ∃ d, Dz K H x d ∧ Dp K H x d ∧ okB d = true ∧ d.canLay0 = true ∧ Fits x
def KIs (K : PySem.W.Frag) (H : Hp) (xs : List V) : Prop := (∀ x ∈ xs, KI K H x) ∧ xs.length ≤ 20
theorem KIs.ex {H H' : Hp} {xs : List V} (h : KIs K H xs) (e : Ex H H') : KIs K H' xs := ⟨fun x hx => by
  obtain ⟨d, h1, h2, h3, h4, h5⟩ := h.1 x hx
  exact ⟨d, dz_ex e h1, dp_ex e h2, h3, h4, h5⟩, h.2⟩
def goodBag (a : Adr) (xs : List V) (H : Hp) (Q : VK) : Prop := ∀ p dx H' tt, H p = none → sysModules < p → H tt = none → Ex H H' → H' p = some (.ins a.Bag dx [("kept_keys", .ref tt)]) → H' tt = some (.tup (ascV xs)) → Q (.ref p) H'
theorem KIs.bag {H : Hp} {xs : List V} {Q : VK} {E : XK} (h : KIs K H xs) (g : bagEnd a xs H E (goodBag a xs H Q)) : spBag K a xs H Q E :=
  ⟨fun x hx => by obtain ⟨d, h1, _⟩ := h.1 x hx; exact ⟨d, h1⟩, fun x hx => by obtain ⟨d, _, _, _, _, h5⟩ := h.1 x hx; exact h5, by have := h.2; omega, g⟩
def spLBag (K : PySem.W.Frag) (a : Adr) : Sp := fun vs H Q E => ∃ wy l xs, vs = [.int wy, .ref l] ∧ SqL K H l xs ∧ KIs K H xs ∧ bagEnd a xs H E (goodBag a xs H Q)
theorem shaped1 {ds : List PyData} (h : ∀ d ∈ ds, okB d = true ∧ d.canLay0 = true) : SeqAt.shaped (.list ds) = true := by
  have h4 := okC_all (c := 2001) (fun d hd => (h d hd).1)
  have hc : ∀ ds : List PyData, (∀ d ∈ ds, d.canLay0 = true) → PyData.canLayAll0 ds = true := fun ds => by
    induction ds with
    | nil => intro _; rfl
    | cons d ds ih =>
      intro h
      unfold PyData.canLayAll0
      rw [h d List.mem_cons_self, ih fun x hx => h x (List.mem_cons_of_mem _ hx)]
      rfl
  unfold SeqAt.shaped
  rw [Bool.and_eq_true]
  refine ⟨by unfold PyData.canLay0; exact hc ds fun d hd => (h d hd).2, decide_eq_true ?_⟩
  unfold PyData.depth
  omega
theorem dpAll_of {H : Hp} : ∀ {xs : List V}, (∀ x ∈ xs, KI K H x) → ∃ ds, DpAll K H xs ds ∧ ∀ d ∈ ds, okB d = true ∧ d.canLay0 = true
  | [], _ => ⟨[], .nil, fun d h => nomatch h⟩
  | x :: xs, h => by
    obtain ⟨d, _, q2, q3, q4, _⟩ := h x List.mem_cons_self
    obtain ⟨ds, h3, h4⟩ := dpAll_of (xs := xs) fun y hy => h y (List.mem_cons_of_mem _ hy)
    exact ⟨d :: ds, .cons q2 h3, fun y hy => by
      rcases List.mem_cons.mp hy with e | hy
      · rw [e]; exact ⟨q3, q4⟩
      · exact h4 y hy⟩
theorem ok__law_bag (T : Txt P K mg a) : CallO P w K mg base 14 (.ref a._law_bag) (spLBag K a) := by
  have G0_Bag := ok_Bag (P := P) (w := w) (base := base) (mg := mg) T
  have G_Bag := ok_Bag (P := P) (w := w) (base := base) (mg := mg) T
  have hOf := of_Bag_of (P := P) (w := w) (base := base) (mg := mg) T
  have G_Bag_of : CallX P w K mg base 12 (.ref a.Bag_of) [] fun vs zs H Q E => zs = [] ∧ spBagOf K a vs H Q E := (fnO hOf).x
  have GK_Bag_of_members : CallX P w K mg base 12 (.ref a.Bag_of) ["members"] fun vs zs H Q E => vs.length = 1 ∧ zs.length = 1 ∧ spBagOf K a (vs ++ zs) H Q E := by
    obtain ⟨fd, F, _, F2⟩ := hOf
    refine callX_of F (n := 1) (g := fun us ws => us ++ ws) (gV := fun vs zs => vs ++ zs) ⟨fun s us ws X hu hw => ?_, fun r r2 => r.append r2⟩
    obtain ⟨oc, od, kV, doc, pm, an, cdv, ct, osl, rfl, lk, hcd⟩ := F2.ex
    match us, ws, hu, hw with
    | [u], [v], _, _ => exact .of_eq rfl
  refine fnO (T.d__law_bag.okX sc__law_bag (fun vs H Q E h => ?_) (fun cdv A outer s H vs Q E hr h => ?_))
  · obtain ⟨wy, l, xs, rfl, _⟩ := h
    rfl
  · obtain ⟨wy, l, xs, rfl, hs, hk, hend⟩ := h
    refine ⟨_, (pss_cons (ps_if (PW.pt (pw_or (pt_cmpR op_eq (pv 0) pe_int (nomark _)) (pw_or1 (pt_cmpR op_gt (pe_callB call_len_seq (by rfl) T.b_len (by decide +kernel) (pa_cons (pv 1) pa_nil)) pe_int (nomark _)))))
 (pss_one (ps_ret (pe_ifExp (pt_cmpR op_eq (pv 0) pe_int (nomark _)) (pe_cm (pe_glob (v := .ref a.Bag) (by rfl) T.g_Bag rfl) T.r_Bag T.p_Bag_of G_Bag_of (hr.mono (by decide)) (takes_of rfl rfl rfl rfl) (pa_cons (pe_callTy call_tuple_of (by rfl) T.b_tuple (by decide +kernel) (pa_cons (pv 1) pa_nil)) pa_nil) pk_nil) (pe_cm0 (pe_glob (v := .ref a.Bag) (by rfl) T.g_Bag rfl) T.r_Bag T.p_Bag_of GK_Bag_of_members (hr.mono (by decide)) (takes_of rfl rfl rfl rfl) (pk_cons (pe_callTy call_tuple_of (by rfl) T.b_tuple (by decide +kernel) (pa_cons (pv 1) pa_nil)) pk_nil)))))
 pss_nil)
 (pss_cons (ps_if (pt_cmpR op_lt (pe_callB call_len_seq (by rfl) T.b_len (by decide +kernel) (pa_cons (pv 1) pa_nil)) pe_int (nomark _))
 (pss_one (ps_ret (pe_ifExp (pt_cmpR (op_eqD' (K := K) rfl hr.units) (pv 1) (pe_lst pa_nil) (nomark _)) (pe_cx0 G0_Bag (hr.mono (by decide)) rfl T.g_Bag T.k_Bag (takes_of rfl rfl rfl rfl) pk_nil) (pe_cx G_Bag (hr.mono (by decide)) rfl T.g_Bag T.k_Bag (takes_of rfl rfl rfl rfl) (pa_cons (pe_ix (ix_list' (K := K) rfl) (pv 1) pe_int (fun _ _ => rfl)) pa_nil) pk_nil))))
 pss_nil)
 (pss_one (ps_ret (pe_ifExp (pt_cmpR op_eq (pe_callB call_len_seq (by rfl) T.b_len (by decide +kernel) (pa_cons (pv 1) pa_nil)) pe_int (nomark _)) (pe_cx G_Bag (hr.mono (by decide)) rfl T.g_Bag T.k_Bag (takes_of rfl rfl rfl rfl) (pa_cons (pe_ix (ix_list' (K := K) rfl) (pv 1) pe_int (fun _ _ => rfl)) (pa_cons (pe_ix (ix_list' (K := K) rfl) (pv 1) pe_int (fun _ _ => rfl)) pa_nil)) pk_nil) (pe_cx G_Bag (hr.mono (by decide)) rfl T.g_Bag T.k_Bag (takes_of rfl rfl rfl rfl) (pa_cons (pe_ix (ix_list' (K := K) rfl) (pv 1) pe_int (fun _ _ => rfl)) (pa_cons (pe_ix (ix_list' (K := K) rfl) (pv 1) pe_int (fun _ _ => rfl)) (pa_cons (pe_ix (ix_list' (K := K) rfl) (pv 1) pe_int (fun _ _ => rfl)) pa_nil))) pk_nil)))))), ?_⟩
    have lenE : ∀ H1, Ex H H1 → Ev (tCB (fun xs H Q => ∃ p ys, xs = [.ref p] ∧ (SqL K H p ys ∨ SqT K H p ys) ∧ Q (.int ys.length) H) (tCons (tVar 1) tNil)) (L2.start ["way", "keys"] [.int wy, .ref l]) H1 (.int (xs.length : Nat)) := fun H1 e1 => ev_cb (ea_cons (ev_var rfl) ea_nil) fun H2 e2 Q q => ⟨l, _, rfl, .inl (ex_l (e1.trans e2) hs), q H2 (Ex.refl _)⟩
    have back : ∀ H1, Ex H H1 → KIs K H1 xs ∧ bagEnd a xs H1 E (goodBag a xs H1 Q) := fun H1 e1 => ⟨hk.ex e1, bagEnd_imp hend (fun C x hb d' H2 hd' he hx => hb d' H2 (fresh_back e1 hd') (e1.trans he) hx) fun _ hg p dx H2 tt hp hs htt he => hg p dx H2 tt (fresh_back e1 hp) hs (fresh_back e1 htt) (e1.trans he)⟩
    have t1 : EvT (tTest (tOp rEq (tVar 0) (tC (.int 0)))) (L2.start ["way", "keys"] [.int wy, .ref l]) H (decide (V.int wy = V.int 0)) := et_test (ev_op (ev_var rfl) ev_c (rv_eq rfl))
    have t2 : EvT (tTest (tOp (rI0 fun i j => V.bl (decide (j < i))) (tCB (fun xs H Q => ∃ p ys, xs = [.ref p] ∧ (SqL K H p ys ∨ SqT K H p ys) ∧ Q (.int ys.length) H) (tCons (tVar 1) tNil)) (tC (.int 3)))) (L2.start ["way", "keys"] [.int wy, .ref l]) H (decide ((3 : Int) < (xs.length : Int))) := et_test (ev_op (lenE H (Ex.refl _)) ev_c rv_I0)
    refine q_when (et_or t1 fun _ => t2) (fun _ H1 e1 => ?_) (fun hb H1 e1 => ?_)
    · -- Bag.of
      obtain ⟨k1, b1⟩ := back H1 e1
      have of : ∀ H2, Ex H1 H2 → ∀ t, H2 t = some (.tup xs) → spBagOf K a [.ref a.Bag, .ref t] H2 Q E := fun H2 e2 t ht => ⟨_, rfl, .inr ⟨t, xs, rfl, st_of ht, (back H2 (e1.trans e2)).1.bag (back H2 (e1.trans e2)).2⟩⟩
      refine ⟨_, rfl, rfl, _, rfl, ?_⟩
      by_cases h0 : wy = 0
      · rw [decide_eq_true (congrArg V.int h0)]
        refine iteT ⟨rfl, _, rfl, l, xs, rfl, .inl ⟨ex_l e1 hs, fun t ht => ⟨rfl, of _ (Ex.new ht) t upd_same⟩⟩⟩
      · rw [decide_eq_false (fun z => h0 (V.int.inj z))]
        refine iteF ⟨rfl, _, rfl, l, xs, rfl, .inl ⟨ex_l e1 hs, fun t ht => ⟨rfl, rfl, of _ (Ex.new ht) t upd_same⟩⟩⟩
    · have hl3 : xs.length ≤ 3 := by
        simp only [Bool.or_eq_false_iff, decide_eq_false_iff_not] at hb
        omega
      have t3 : EvT (tTest (tOp (rI0 fun i j => V.bl (decide (i < j))) (tCB (fun xs H Q => ∃ p ys, xs = [.ref p] ∧ (SqL K H p ys ∨ SqT K H p ys) ∧ Q (.int ys.length) H) (tCons (tVar 1) tNil)) (tC (.int 2)))) (L2.start ["way", "keys"] [.int wy, .ref l]) H1 (decide ((xs.length : Int) < 2)) := et_test (ev_op (lenE H1 e1) ev_c rv_I0)
      refine q_when t3 (fun h2 H2 e2 => ?_) (fun h2 H2 e2 => ?_)
      · have hl2 : xs.length < 2 := by have := of_decide_eq_true h2; omega
        have e12 := e1.trans e2
        obtain ⟨ds, hds1, hds2⟩ := dpAll_of (back H2 e12).1.1
        clear h2 hb t1 t2 t3
        have two : (xs = [] ∧ ds = []) ∨ ∃ x d, xs = [x] ∧ ds = [d] := by
          cases hds1 with
          | nil => exact .inl ⟨rfl, rfl⟩
          | cons q1 q2 => cases q2 with
            | nil => exact .inr ⟨_, _, rfl, rfl⟩
            | cons q3 q4 => simp only [List.length_cons] at hl2; omega
        have eqf : (xs = [] ∧ PyData.eqv (.list ds) (dL []) = true) ∨ ((∃ x, xs = [x]) ∧ PyData.eqv (.list ds) (dL []) = false) := by
          rcases two with ⟨h1, h2⟩ | ⟨x, d, h1, h2⟩
          · exact .inl ⟨h1, by rw [h2]; rfl⟩
          · exact .inr ⟨⟨x, h1⟩, by rw [h2]; unfold dL PyData.eqv; rfl⟩
        refine ⟨_, rfl, Nat.zero_le _, fun l2 hl2' => ?_⟩
        have e3 := Ex.new (o := .lst []) hl2'
        have hs3 := ex_l (e12.trans e3) hs
        obtain ⟨k3, b3⟩ := back _ (e12.trans e3)
        refine ⟨.list ds, dL [], .lst hs3 (dpAll_ex e3 hds1), dp_L (ns := []) (sq_of upd_same), shaped1 hds2, dL_shaped _, _, rfl, ?_⟩
        rcases eqf with ⟨h1, h2⟩ | ⟨⟨x, h1⟩, h2⟩
        · rw [h2]
          have q : spBag K a [] _ Q E := h1 ▸ k3.bag b3
          exact iteT ⟨rfl, q⟩
        · rw [h2]
          subst h1
          exact iteF ⟨_, rfl, l, [x], 0, x, rfl, rfl, hs3, rfl, rfl, k3.bag b3⟩
      · have hl2 : 2 ≤ xs.length := by have := of_decide_eq_false h2; omega
        have e12 := e1.trans e2
        obtain ⟨k3, b3⟩ := back H2 e12
        have hs2 := ex_l e12 hs
        have q3 := k3.bag b3
        have sh : (∃ x y, xs = [x, y]) ∨ ∃ x y z, xs = [x, y, z] := by
          clear h2 hb t1 t2 t3
          rcases xs with _ | ⟨x, _ | ⟨y, _ | ⟨z, _ | ⟨u, r⟩⟩⟩⟩
          · simp at hl2
          · simp at hl2
          · exact .inl ⟨x, y, rfl⟩
          · exact .inr ⟨x, y, z, rfl⟩
          · simp only [List.length_cons] at hl3; omega
        refine ⟨_, rfl, l, xs, rfl, .inl hs2, rfl, _, rfl, ?_⟩
        rcases sh with ⟨x, y, h1⟩ | ⟨x, y, z, h1⟩
        · subst h1
          exact iteT ⟨_, rfl, l, [x, y], 0, x, rfl, rfl, hs2, rfl, _, rfl, l, [x, y], 1, y, rfl, rfl, hs2, rfl, rfl, q3⟩
        · subst h1
          exact iteF ⟨_, rfl, l, [x, y, z], 0, x, rfl, rfl, hs2, rfl, _, rfl, l, [x, y, z], 1, y, rfl, rfl, hs2, rfl, _, rfl, l, [x, y, z], 2, z, rfl, rfl, hs2, rfl, rfl, q3⟩

end
end BJL

namespace BJL
open PySem PySem.Spec PyProof.Rows L2 BJ
section
variable {P : Program} {w : World} {K : PySem.W.Frag} {mg : Str → Option Value} {base : Heap} {a : Adr}
open Evl
def spWord (K : PySem.W.Frag) : Sp := fun vs H Q _ => ∃ x n, vs = [x] ∧ TyX K H x (.type n) ∧ kitB n "tuple" = some false ∧ ∀ q H', H q = none → sysModules < q → Ex H H' → H' q = some (.lst [.str "key", x]) → Q (.ref q) H'
theorem ok__law_word (T : Txt P K mg a) : CallO P w K mg base 13 (.ref a._law_word) (spWord K) := by
  have hOf := of_Bag_of (P := P) (w := w) (base := base) (mg := mg) T
  have G_Bag_of : CallX P w K mg base 12 (.ref a.Bag_of) [] fun vs zs H Q E => zs = [] ∧ spBagOf K a vs H Q E := (fnO hOf).x
  refine fnO (T.d__law_word.okX sc__law_word (fun vs H Q E h => ?_) (fun cdv A outer s H vs Q E hr h => ?_))
  · obtain ⟨x, d, rfl, _⟩ := h
    rfl
  · obtain ⟨x, n, rfl, ty, ht, hq⟩ := h
    refine ⟨_, (pss_cons (ps_set (i := 1) sc__law_word.nd rfl (Or.inl rfl) pe_non)
 (pss_cons (ps_tryK (i := 2) (ts := fun a cls d => tAsg (tVar 2) (gName 1)) rfl rfl rfl sc__law_word.nd rfl rfl (cl_three ⟨rfl, by decide, Or.inl T.g_JarError⟩ ⟨rfl, by decide, Or.inl T.g_StateError⟩ ⟨rfl, by decide, Or.inl T.g_MissingError⟩) (takes_of rfl rfl rfl rfl)
 (fun W pn xe tk pn_ => (pss_one (ps_expr (pe_cm (pe_glob (v := .ref a.Bag) (by rfl) T.g_Bag rfl) T.r_Bag T.p_Bag_of G_Bag_of (hr.mono (by decide)) tk (pa_cons (pv 0) pa_nil) pk_nil))))
 (fun a oe cls d pn hz hf => (pss_one (ps_set (i := 1) sc__law_word.nd rfl (Or.inl rfl) (pv 2)))))
 (pss_one (ps_ret (pe_ifExp (pt_val (pe_callB (call_isG' (K := K) rfl) (by rfl) T.b_isinstance (by decide +kernel) (pa_cons (pv 1) (pa_cons (pe_glob (v := .ref a.InvalidKey) (by rfl) T.g_InvalidKey rfl) pa_nil)))) (pe_lstN (pa_cons pe_str (pa_cons (pe_exf (pv 1)) pa_nil))) (pe_lstN (pa_cons pe_str pa_nil))))))), ?_⟩
    refine ⟨rfl, _, rfl, rfl, x, rfl, (.inl ⟨n, ty, ht, fun dd H1 hd e1 hx => ?_⟩)⟩
    refine ⟨true, exm_first T.v_InvalidKey_JarError T.v_InvalidKey_StateError T.v_InvalidKey_MissingError, fun _ e he => ⟨_, rfl, ?_⟩, fun z => nomatch z⟩
    have hat : ExcAt (upd H1 e (ExcK e (.ref a.InvalidKey) (some dd))) e a.InvalidKey dd [("key", x)] := ⟨upd_same, by rw [upd_ne (ne_of_none hx he)]; exact hx⟩
    have eE := e1.trans (Ex.new (o := ExcK e (.ref a.InvalidKey) (some dd)) he)
    refine ⟨_, rfl, .ref e, .ref a.InvalidKey, .ref a.InvalidKey, .ref a.InvalidKey, true, rfl, .own _, .exc hat T.R_InvalidKey, T.u_InvalidKey_InvalidKey, true, rfl, iteT ?_⟩
    exact ⟨_, rfl, e, a.InvalidKey, dd, _, x, rfl, hat, T.R_InvalidKey, T.n_InvalidKey_key, rfl, (by show 2 ≤ sizeLine; decide), fun q hq1 hs => hq q _ (fresh_back eE hq1) hs (eE.trans (Ex.new hq1)) upd_same⟩

end
end BJL

namespace BJL
open PySem PySem.Spec PyProof.Rows L2 BJ
section
variable {P : Program} {w : World} {K : PySem.W.Frag} {mg : Str → Option Value} {base : Heap} {a : Adr}
open Evl
theorem eqV_key {x y : V} (hx : keyV x = true) (hy : keyV y = true) : eqV y x = true ↔ y = x := by
  rcases key_cases hx with ⟨i, rfl⟩ | ⟨z, rfl⟩ <;> rcases key_cases hy with ⟨j, rfl⟩ | ⟨u, rfl⟩ <;> simp [eqV]
theorem bagErr_nodup : ∀ {xs seen : List V}, bagErr seen xs = none → (∀ y ∈ seen, keyV y = true) → xs.Nodup ∧ ∀ x ∈ xs, x ∉ seen
  | [], _, _, _ => ⟨List.nodup_nil, fun x h => nomatch h⟩
  | y :: xs, seen, h, hs => by
    rw [bagErr_cons] at h
    split at h
    · cases h
    · rename_i hk
      have hk' : keyV y = true := by cases e : keyV y <;> first | rfl | exact absurd e hk
      split at h
      · cases h
      · rename_i hin
        have ns : y ∉ seen := fun hm => hin (List.any_eq_true.mpr ⟨y, hm, (eqV_key hk' (hs y hm)).mpr rfl⟩)
        obtain ⟨h1, h2⟩ := bagErr_nodup h (fun z hz => by
          rcases List.mem_append.mp hz with hz | hz
          · exact hs z hz
          · rw [List.mem_singleton.mp hz]; exact hk')
        refine ⟨List.nodup_cons.mpr ⟨fun hm => h2 y hm (List.mem_append_right _ (List.mem_singleton.mpr rfl)), h1⟩, fun x hx => ?_⟩
        rcases List.mem_cons.mp hx with e | hx
        · rw [e]; exact ns
        · exact fun hm => h2 x hx (List.mem_append_left _ hm)
theorem bagErr_of : ∀ {xs seen : List V}, (∀ x ∈ xs, keyV x = true) → (∀ y ∈ seen, keyV y = true) → xs.Nodup → (∀ x ∈ xs, x ∉ seen) → bagErr seen xs = none
  | [], _, _, _, _, _ => by unfold bagErr; rfl
  | y :: xs, seen, h, hs, hn, hd => by
    have hk := h y List.mem_cons_self
    obtain ⟨n1, n2⟩ := List.nodup_cons.mp hn
    rw [bagErr_cons, if_neg (by rw [hk]; decide), if_neg (fun hin => ?_)]
    · exact bagErr_of (fun x hx => h x (List.mem_cons_of_mem _ hx)) (fun z hz => by
        rcases List.mem_append.mp hz with hz | hz
        · exact hs z hz
        · rw [List.mem_singleton.mp hz]; exact hk) n2 (fun x hx hm => by
        rcases List.mem_append.mp hm with hm | hm
        · exact hd x (List.mem_cons_of_mem _ hx) hm
        · rw [List.mem_singleton.mp hm] at hx; exact n1 hx)
    · obtain ⟨z, hz, e⟩ := List.any_eq_true.mp hin
      rw [(eqV_key hk (hs z hz)).mp e] at hz
      exact hd y List.mem_cons_self hz
theorem part_perm : ∀ {xs : List V}, (∀ x ∈ xs, keyV x = true) → ((iOf xs).map V.int ++ (sOf xs).map V.str).Perm xs
  | [], _ => .nil
  | x :: xs, h => by
    have ih := part_perm (xs := xs) fun y hy => h y (List.mem_cons_of_mem _ hy)
    rcases key_cases (h x List.mem_cons_self) with ⟨i, rfl⟩ | ⟨z, rfl⟩
    · exact List.Perm.cons _ ih
    · show ((iOf xs).map V.int ++ V.str z :: (sOf xs).map V.str).Perm (V.str z :: xs)
      exact List.perm_middle.trans (List.Perm.cons _ ih)
theorem asc_perm {xs : List V} (h : ∀ x ∈ xs, keyV x = true) : (ascV xs).Perm xs :=
  (List.Perm.append ((List.mergeSort_perm (iOf xs) _).map _) ((List.mergeSort_perm (sOf xs) _).map _)).trans (part_perm h)
theorem bagErr_asc {xs : List V} (h : bagErr [] xs = none) : bagErr [] (ascV xs) = none := by
  have hk := bagErr_keys h
  have hp := asc_perm hk
  exact bagErr_of (fun x hx => hk x (hp.mem_iff.mp hx)) (fun y hy => nomatch hy) (hp.nodup_iff.mpr (bagErr_nodup h (fun y hy => nomatch hy)).1) (fun x _ hm => nomatch hm)

end
end BJL

namespace BJL
open PySem PySem.Spec PyProof.Rows L2 BJ
section
variable {P : Program} {w : World} {K : PySem.W.Frag} {mg : Str → Option Value} {base : Heap} {a : Adr}
open Evl
theorem bagErr_mem : ∀ {xs seen : List V} {b : Bool} {x : V}, bagErr seen xs = some (b, x) → x ∈ xs
  | [], _, _, _, h => nomatch h
  | y :: xs, seen, b, x, h => by
    rw [bagErr_cons] at h
    split at h
    · cases h; exact List.mem_cons_self
    · split at h
      · cases h; exact List.mem_cons_self
      · exact List.mem_cons_of_mem _ (bagErr_mem h)
theorem asc_mem {xs : List V} {y : V} (h : y ∈ ascV xs) : y ∈ xs := by
  unfold ascV at h
  rcases List.mem_append.mp h with h | h
  · obtain ⟨i, hi, rfl⟩ := List.mem_map.mp h
    have h2 : i ∈ iOf xs := (List.mergeSort_perm (iOf xs) _).mem_iff.mp hi
    obtain ⟨z, hz, e⟩ := List.mem_filterMap.mp h2
    cases z <;> first | (cases e; exact hz) | cases e
  · obtain ⟨i, hi, rfl⟩ := List.mem_map.mp h
    have h2 : i ∈ sOf xs := (List.mergeSort_perm (sOf xs) _).mem_iff.mp hi
    obtain ⟨z, hz, e⟩ := List.mem_filterMap.mp h2
    cases z <;> first | (cases e; exact hz) | cases e
/-- the data of a list of such things -/
theorem KIs.data {H : Hp} {xs ys : List V} (h : KIs K H xs) (hy : ∀ y ∈ ys, y ∈ xs) : ∃ ds, DzAll K H ys ds ∧ ∀ d ∈ ds, okB d = true := dzAll_of (R := fun d => okB d = true) fun y hm => by
  obtain ⟨d, h1, _, h3, _⟩ := h.1 y (hy y hm)
  exact ⟨d, h1, h3⟩
theorem word_ok : okB (.str "key") = true ∧ okB (.str "taken") = true ∧ PyData.canLay0 (.str "key") = true ∧ PyData.canLay0 (.str "taken") = true := by decide +kernel
def spBRight (K : PySem.W.Frag) : Sp := fun vs H Q _ => ∃ wy l xs, vs = [.int wy, .ref l] ∧ SqL K H l xs ∧ KIs K H xs ∧ ∀ H', Ex H H' → Q (.bl true) H'
theorem ok__law_bag_right (T : Txt P K mg a) : CallP P w K mg base 18 (.ref a._law_bag_right) (spBRight K) := by
  have G__law_due : CallP P w K mg base 2 (.ref a._law_due) (spDue K) := (ok__law_due T).p
  have G__law_bag : CallP P w K mg base 14 (.ref a._law_bag) (spLBag K a) := (ok__law_bag T).p
  have hOf := of_Bag_of (P := P) (w := w) (base := base) (mg := mg) T
  have G_Bag_of : CallX P w K mg base 12 (.ref a.Bag_of) [] fun vs zs H Q E => zs = [] ∧ spBagOf K a vs H Q E := (fnO hOf).x
  refine T.d__law_bag_right.ok sc__law_bag_right (fun vs H Q E h => ?_) (fun cdv A outer s H vs Q E hr hG h => ?_)
  · obtain ⟨wy, l, xs, rfl, _⟩ := h
    rfl
  · obtain ⟨wy, l, xs, rfl, hs0, hk0, hq0⟩ := h
    refine ⟨_, (pss_cons (ps_par3 (i := 2) (j := 3) (l := 4) rfl sc__law_bag_right.nd rfl rfl rfl (by decide) (by decide) (by decide) rfl rfl rfl (pa_cons pe_non (pa_cons pe_non (pa_cons (pe_ca G__law_due (hr.mono (by decide)) hG rfl T.g__law_due T.k__law_due (takes_of rfl rfl rfl rfl) (pa_cons (pv 1) pa_nil)) pa_nil))) (by rfl))
 (pss_cons (ps_tryK (i := 5) (ts := fun a cls d => tAsg (tVar 5) (gName 2)) rfl rfl rfl sc__law_bag_right.nd rfl rfl (cl_three ⟨rfl, by decide, Or.inl T.g_JarError⟩ ⟨rfl, by decide, Or.inl T.g_StateError⟩ ⟨rfl, by decide, Or.inl T.g_MissingError⟩) (takes_of rfl rfl rfl rfl)
 (fun W pn xe tk pn_ => (pss_one (ps_set (i := 3) sc__law_bag_right.nd rfl (Or.inl rfl) (pe_ca G__law_bag (hr.mono (by decide)) hG rfl T.g__law_bag T.k__law_bag tk (pa_cons (pv 0) (pa_cons (pv 1) pa_nil))))))
 (fun a oe cls d pn hz hf => (pss_one (ps_set (i := 2) sc__law_bag_right.nd rfl (Or.inl rfl) (pv 5)))))
 (pss_cons (ps_if (pt_cmp (pc_notN (pv 2)))
 (pss_cons (ps_set (i := 6) sc__law_bag_right.nd rfl (Or.inl rfl) (pe_ifExp (pt_val (pe_callB (call_isG' (K := K) rfl) (by rfl) T.b_isinstance (by decide +kernel) (pa_cons (pv 2) (pa_cons (pe_glob (v := .ref a.InvalidKey) (by rfl) T.g_InvalidKey rfl) pa_nil)))) pe_str (pe_ifExp (pt_val (pe_callB (call_isG' (K := K) rfl) (by rfl) T.b_isinstance (by decide +kernel) (pa_cons (pv 2) (pa_cons (pe_glob (v := .ref a.KeyTaken) (by rfl) T.g_KeyTaken rfl) pa_nil)))) pe_str pe_str)))
 (pss_one (ps_ret (pe_and (pe_cmpR (op_neD' (K := K) rfl hr.units) (pv 4) (pe_lst pa_nil) (nomark _)) (pe_one (pe_cmpR op_eq (pe_callB (call_reprZ (K := K) rfl hr hG) (by rfl) T.b_repr (by decide +kernel) (pa_cons (pe_lstN (pa_cons (pv 6) (pa_cons (pe_exf (pv 2)) pa_nil))) pa_nil)) (pe_callB (call_reprZ (K := K) rfl hr hG) (by rfl) T.b_repr (by decide +kernel) (pa_cons (pv 4) pa_nil)) (nomark _)))))))
 pss_nil)
 (pss_cons (ps_set (i := 7) sc__law_bag_right.nd rfl (Or.inl rfl) (pe_callB cr_sortedI (by rfl) T.b_sorted (by decide +kernel) (pa_cons (pe_lc (own := [("one", 8)]) (g := (gName 8)) (by rfl) sc__law_bag_right.nd (pi_list (pv 1)) (blkOk_by (own := [("one", 8)]) (N := ["way", "keys", "caught", "found", "due", "e", "word", "low", "one", "rows"]) (sc := defScope s__law_bag_right) (by decide +kernel)) (fun _ _ _ _ _ => (pg_name (i := 8) sc__law_bag_right.nd rfl (Or.inl rfl))) (fun _ _ _ _ _ => (pts_one (pt_val (pe_callB (call_isG' (K := K) rfl) (by rfl) T.b_isinstance (by decide +kernel) (pa_cons (pv 8) (pa_cons (pe_bltn (v := .ty "int") (u := .type "int") (by rfl) T.b_int (by decide +kernel) (by exact rfl)) pa_nil)))))) (fun _ _ _ _ _ => (pv 8))) pa_nil)))
 (pss_cons (ps_set (i := 9) sc__law_bag_right.nd rfl (Or.inl rfl) (pe_op op_catN (pv 7) (pe_callB cr_sortedS (by rfl) T.b_sorted (by decide +kernel) (pa_cons (pe_lc (own := [("one", 8)]) (g := (gName 8)) (by rfl) sc__law_bag_right.nd (pi_list (pv 1)) (blkOk_by (own := [("one", 8)]) (N := ["way", "keys", "caught", "found", "due", "e", "word", "low", "one", "rows"]) (sc := defScope s__law_bag_right) (by decide +kernel)) (fun _ _ _ _ _ => (pg_name (i := 8) sc__law_bag_right.nd rfl (Or.inl rfl))) (fun _ _ _ _ _ => (pts_one (pt_val (pe_callB (call_isG' (K := K) rfl) (by rfl) T.b_isinstance (by decide +kernel) (pa_cons (pv 8) (pa_cons (pe_bltn (v := .ty "str") (u := .type "str") (by rfl) T.b_str (by decide +kernel) (by exact rfl)) pa_nil)))))) (fun _ _ _ _ _ => (pv 8))) pa_nil))))
 (pss_cons (ps_if (PW.pt (pw_or (pt_cmpR (op_neD' (K := K) rfl hr.units) (pv 4) (pe_lst pa_nil) (nomark _)) (pw_or (pt_cmpR op_ne (pe_callB (call_reprZ (K := K) rfl hr hG) (by rfl) T.b_repr (by decide +kernel) (pa_cons (pe_pr (pv 3)) pa_nil)) (pe_callB (call_reprZ (K := K) rfl hr hG) (by rfl) T.b_repr (by decide +kernel) (pa_cons (pe_callTy call_tuple_of (by rfl) T.b_tuple (by decide +kernel) (pa_cons (pv 9) pa_nil)) pa_nil)) (nomark _)) (pw_or1 (pt_cmpR op_ne (pe_pr (pv 3)) pe_str (nomark _))))))
 (pss_one (ps_ret pe_bl))
 pss_nil)
 (pss_one (ps_ret (pe_and (pe_cmpR op_eq (pe_callB (call_reprZ (K := K) rfl hr hG) (by rfl) T.b_repr (by decide +kernel) (pa_cons (pe_lcY rfl (py_me0 (k := 2) (pv 3) (hr.mono (by decide))) (hr.mono (by decide)) rfl rfl) pa_nil)) (pe_callB (call_reprZ (K := K) rfl hr hG) (by rfl) T.b_repr (by decide +kernel) (pa_cons (pv 9) pa_nil)) (nomark _)) (pe_one (pe_not (pe_cmpR (op_eqI (Nat.lt_of_le_of_lt (Nat.le_add_right _ _) hr.units)) (pv 3) (pe_cm (pe_glob (v := .ref a.Bag) (by rfl) T.g_Bag rfl) T.r_Bag T.p_Bag_of G_Bag_of (hr.mono (by decide)) (takes_of rfl rfl rfl rfl) (pa_cons (pe_pr (pv 3)) pa_nil) pk_nil) (nomark _))))))))))))), ?_⟩
    refine ⟨_, rfl, l, xs, rfl, hs0, fun x hx => by obtain ⟨d, h1, _⟩ := hk0.1 x hx; exact ⟨d, h1⟩, fun x hx => by obtain ⟨d, _, _, _, _, h5⟩ := hk0.1 x hx; exact h5, by have := hk0.2; omega, fun q H1 hq1 hqs e1 hdue => ⟨_, _, _, rfl, ?_⟩⟩
    have hs := ex_l e1 hs0
    have hk := hk0.ex e1
    have hq : ∀ H', Ex H1 H' → Q (.bl true) H' := fun H' e => hq0 H' (e1.trans e)
    have sub : ∀ (C : Addr) (b : Bool) (x : V) (wd : Str), bagErr [] xs = some (b, x) → dueV xs = [.str wd, x] → okB (.str wd) = true → PyData.canLay0 (.str wd) = true → True := fun _ _ _ _ _ _ _ _ => trivial
    refine ⟨_, rfl, _, rfl, wy, l, xs, rfl, hs, hk, ?_⟩
    unfold bagEnd
    cases hb : bagErr [] xs with
    | some bx =>
      obtain ⟨b, x⟩ := bx
      obtain ⟨d, dz, dp, okd, lay, _⟩ := hk.1 x (bagErr_mem hb)
      obtain ⟨wk1, wk2, wk3, wk4⟩ := word_ok
      cases b with
      | true =>
        have hd : dueV xs = [.str "key", x] := by unfold dueV; rw [hb]
        rw [hd] at hdue
        intro dd H2 hdn e2 hx
        refine ⟨true, exm_first T.v_InvalidKey_JarError T.v_InvalidKey_StateError T.v_InvalidKey_MissingError, fun _ e he => ⟨_, rfl, ?_⟩, fun z => nomatch z⟩
        have hat : ExcAt (upd H2 e (ExcK e (.ref a.InvalidKey) (some dd))) e a.InvalidKey dd [("key", x)] := ⟨upd_same, by rw [upd_ne (ne_of_none hx he)]; exact hx⟩
        have eE := e2.trans (Ex.new (o := ExcK e (.ref a.InvalidKey) (some dd)) he)
        refine ⟨_, rfl, _, rfl, iteT ?_⟩
        refine ⟨_, rfl, .ref e, .ref a.InvalidKey, .ref a.InvalidKey, .ref a.InvalidKey, true, rfl, .own _, .exc hat T.R_InvalidKey, T.u_InvalidKey_InvalidKey, true, rfl, iteT ?_⟩
        refine ⟨_, rfl, Nat.zero_le _, fun l2 hl2 => ?_⟩
        have e3 := Ex.new (o := .lst []) hl2
        have eF := eE.trans e3
        refine ⟨.list [.str "key", d], dL [], .lst (sq_of (eF _ _ hdue)) (.cons (.str _) (.cons (dp_ex eF dp) .nil)), dp_L (ns := []) (sq_of upd_same), shaped1 (fun y hy => ?_), dL_shaped _, _, rfl, ?_⟩
        · rcases List.mem_cons.mp hy with e | hy
          · rw [e]; exact ⟨wk1, wk3⟩
          · rw [List.mem_singleton.mp hy]; exact ⟨okd, lay⟩
        rw [show PyData.eqv (.list [.str "key", d]) (dL []) = false from by unfold dL PyData.eqv; rfl]
        have sz : ShowsZ (.list [.str "key", d]) := ok_lst (fun y hy => by
          rcases List.mem_cons.mp hy with e | hy
          · rw [e]; exact wk1
          · rw [List.mem_singleton.mp hy]; exact okd) (by show 2 ≤ 20; decide)
        refine iteT ⟨_, rfl, _, rfl, e, a.InvalidKey, dd, _, x, rfl, ⟨e3 _ _ hat.1, e3 _ _ hat.2⟩, T.R_InvalidKey, T.n_InvalidKey_key, rfl, (by show 2 ≤ sizeLine; decide), fun l3 hl3 hs3 => ?_⟩
        have e4 := Ex.new (o := .lst [.str "key", x]) hl3
        have dzF := dz_ex (eF.trans e4) dz
        refine ⟨.ref l3, _, rfl, .lst (sq_of upd_same) hs3 (.cons (.str _) (.cons dzF .nil)), sz, _, rfl, .ref q, _, rfl, .lst (sq_of ((eF.trans e4) _ _ hdue)) hqs (.cons (.str _) (.cons dzF .nil)), sz, rfl, ?_⟩
        have := hq _ (eF.trans e4)
        rw [show V.bl true = V.bl (decide (V.str (PyData.list [.str "key", d]).shown = V.str (PyData.list [.str "key", d]).shown)) from congrArg V.bl (decide_eq_true rfl).symm] at this
        exact this
      | false =>
        have hd : dueV xs = [.str "taken", x] := by unfold dueV; rw [hb]
        rw [hd] at hdue
        intro dd H2 hdn e2 hx
        refine ⟨true, exm_first T.v_KeyTaken_JarError T.v_KeyTaken_StateError T.v_KeyTaken_MissingError, fun _ e he => ⟨_, rfl, ?_⟩, fun z => nomatch z⟩
        have hat : ExcAt (upd H2 e (ExcK e (.ref a.KeyTaken) (some dd))) e a.KeyTaken dd [("key", x)] := ⟨upd_same, by rw [upd_ne (ne_of_none hx he)]; exact hx⟩
        have eE := e2.trans (Ex.new (o := ExcK e (.ref a.KeyTaken) (some dd)) he)
        refine ⟨_, rfl, _, rfl, iteT ?_⟩
        refine ⟨_, rfl, .ref e, .ref a.InvalidKey, .ref a.KeyTaken, .ref a.InvalidKey, false, rfl, .own _, .exc hat T.R_KeyTaken, T.u_KeyTaken_InvalidKey, false, rfl, iteF ?_⟩
        refine ⟨_, rfl, .ref e, .ref a.KeyTaken, .ref a.KeyTaken, .ref a.KeyTaken, true, rfl, .own _, .exc hat T.R_KeyTaken, T.u_KeyTaken_KeyTaken, true, rfl, iteT ?_⟩
        refine ⟨_, rfl, Nat.zero_le _, fun l2 hl2 => ?_⟩
        have e3 := Ex.new (o := .lst []) hl2
        have eF := eE.trans e3
        refine ⟨.list [.str "taken", d], dL [], .lst (sq_of (eF _ _ hdue)) (.cons (.str _) (.cons (dp_ex eF dp) .nil)), dp_L (ns := []) (sq_of upd_same), shaped1 (fun y hy => ?_), dL_shaped _, _, rfl, ?_⟩
        · rcases List.mem_cons.mp hy with e | hy
          · rw [e]; exact ⟨wk2, wk4⟩
          · rw [List.mem_singleton.mp hy]; exact ⟨okd, lay⟩
        rw [show PyData.eqv (.list [.str "taken", d]) (dL []) = false from by unfold dL PyData.eqv; rfl]
        have sz : ShowsZ (.list [.str "taken", d]) := ok_lst (fun y hy => by
          rcases List.mem_cons.mp hy with e | hy
          · rw [e]; exact wk2
          · rw [List.mem_singleton.mp hy]; exact okd) (by show 2 ≤ 20; decide)
        refine iteT ⟨_, rfl, _, rfl, e, a.KeyTaken, dd, _, x, rfl, ⟨e3 _ _ hat.1, e3 _ _ hat.2⟩, T.R_KeyTaken, T.n_KeyTaken_key, rfl, (by show 2 ≤ sizeLine; decide), fun l3 hl3 hs3 => ?_⟩
        have e4 := Ex.new (o := .lst [.str "taken", x]) hl3
        have dzF := dz_ex (eF.trans e4) dz
        refine ⟨.ref l3, _, rfl, .lst (sq_of upd_same) hs3 (.cons (.str _) (.cons dzF .nil)), sz, _, rfl, .ref q, _, rfl, .lst (sq_of ((eF.trans e4) _ _ hdue)) hqs (.cons (.str _) (.cons dzF .nil)), sz, rfl, ?_⟩
        have := hq _ (eF.trans e4)
        rw [show V.bl true = V.bl (decide (V.str (PyData.list [.str "taken", d]).shown = V.str (PyData.list [.str "taken", d]).shown)) from congrArg V.bl (decide_eq_true rfl).symm] at this
        exact this
    | none =>
      have hd : dueV xs = [] := by unfold dueV; rw [hb]
      rw [hd] at hdue
      have hkey := bagErr_keys hb
      intro p dx H2 tt hp hps htt e2 hp2 ht2
      refine ⟨_, rfl, _, rfl, iteF ?_⟩
      have hlen := hk.2
      have il := iOf_len xs
      have hs2 := ex_l e2 hs
      have hk2 := hk.ex e2
      unfold tNext
      dsimp only
      -- low
      refine q_asgL (xs := (srtI (iOf xs)).map V.int) (el_sortI ?_) (fun lw H3 hl3 e3 h3 => ?_)
      · rw [← iOf_filter]
        exact el_at (vs := [8]) (j := 8) (te := tVar 8) (ei_list (K := K) (tl := tVar 1) (ev_var rfl) hs2) isI (fun x => x) (by omega) (fun _ => rfl)
          (fun y hy H4 e4 => by
            obtain ⟨d, dz, _⟩ := hk2.1 y hy
            obtain ⟨k1, _⟩ := kitD d
            have e : dInt d = isI y := by
              rcases key_cases (hkey y hy) with ⟨i, rfl⟩ | ⟨z, rfl⟩ <;> cases dz <;> rfl
            rw [e] at k1
            exact et_B (ev_cb (ea_cons (ev_var rfl) (ea_cons ev_c ea_nil)) (rc_is (dz_ty (dz_ex e4 dz)) (n := "int") (kit_ty k1))))
          (fun y hy H4 e4 _ => ev_var rfl)
      -- rows
      have e23 := e2.trans e3
      have eS : EvL (tCB (rSortedS K) (tCons (tLc (iList K (tVar 1)) (gName 8) (tB (tCB (rIsG K) (tCons (tVar 8) (tCons (tC (.ty "str")) tNil)))) (tVar 8) [8]) tNil)) [some (.int wy), some (.ref l), some .non, some (.ref p), some (.ref q), none, none, some (.ref lw), none, none] H3 ((srtS (sOf xs)).map V.str) := el_sortS (by
        rw [← sOf_filter]
        exact el_at (vs := [8]) (j := 8) (te := tVar 8) (ei_list (K := K) (tl := tVar 1) (ev_var rfl) (ex_l e3 hs2)) isS (fun x => x) (by omega) (fun _ => rfl)
          (fun y hy H4 e4 => by
            obtain ⟨d, dz, _⟩ := hk2.1 y hy
            obtain ⟨_, _, k3, _⟩ := kitD d
            rw [isS_d dz] at k3
            exact et_B (ev_cb (ea_cons (ev_var rfl) (ea_cons ev_c ea_nil)) (rc_is (dz_ty (dz_ex (e3.trans e4) dz)) (n := "str") (kit_ty k3))))
          (fun y hy H4 e4 _ => ev_var rfl)) (by omega)
      have eR := eln_catV (K := K) (σ := [some (.int wy), some (.ref l), some .non, some (.ref p), some (.ref q), none, none, some (.ref lw), none, none]) (i := 7) rfl h3 eS (by rw [List.length_map, List.length_map, srtI_len, srtS_len]; omega)
      refine eR H3 (Ex.refl _) _ fun rw H4 hl4 hrs e4 h4 => ?_
      have h4 : H4 rw = some (.lst (ascV xs)) := h4
      have e24 := e23.trans e4
      have hp4 := (e3.trans e4) _ _ hp2
      have ht4 := (e3.trans e4) _ _ ht2
      have hdue4 := e24 _ _ hdue
      have hal := ascV_len xs
      obtain ⟨ds, hds, hok⟩ := (hk2.ex (e3.trans e4)).data (ys := ascV xs) (fun y hy => asc_mem hy)
      have hdl := dzAll_len hds
      have szT : ShowsZ (.tuple ds) := ok_tup hok (by omega)
      have szL : ShowsZ (.list ds) := ok_lst hok (by omega)
      have look : ([("kept_keys", V.ref tt)] : List (Str × V)).lookup ("kept_keys" : Str) = some (.ref tt) := rfl
      have nochild : ([("kept_keys", V.ref tt)] : List (Str × V)).lookup ("children" : Str) = none := rfl
      have noof : True := trivial
      have t1 : EvT (tTest (tOp (rNeD K) (tVar 4) (tLst tNil))) [some (.int wy), some (.ref l), some .non, some (.ref p), some (.ref q), none, none, some (.ref lw), none, some (.ref rw)] H4 false := et_test fun H5 e5 Q5 q5 => ⟨_, rfl, Nat.zero_le _, fun l2 hl2 => ⟨dL [], dL [], dp_L (ns := []) (sq_of ((e5.trans (Ex.new hl2)) _ _ hdue4)), dp_L (ns := []) (sq_of upd_same), dL_shaped _, dL_shaped _, by rw [eqv_L]; exact q5 _ (Ex.new hl2)⟩⟩
      have t2 : EvT (tTest (tOp rNe (tCB (rReprZ K) (tCons (tPr (cxOf (L2.CX P w) P w K mg base ["way", "keys", "caught", "found", "due", "e", "word", "low", "one", "rows"] "_law_bag_right" (defScope s__law_bag_right) a._law_bag_right cdv A outer s H E) "members" (tVar 3)) tNil)) (tCB (rReprZ K) (tCons (tCB (fun xs H Q => ∃ p ys, xs = [.ref p] ∧ ((SqL K H p ys ∧ ∀ l, H l = none → Q (.ref l) (upd H l (.tup ys))) ∨ (SqT K H p ys ∧ Q (.ref p) H))) (tCons (tVar 9) tNil)) tNil)))) [some (.int wy), some (.ref l), some .non, some (.ref p), some (.ref q), none, none, some (.ref lw), none, some (.ref rw)] H4 false := et_test fun H5 e5 Q5 q5 =>
        ⟨_, rfl, p, a.Bag, dx, _, _, _, 1, _, rfl, e5 _ _ hp4, T.c_Bag, T.p_Bag_members, ok_Bag_members T, hr.mono (by decide), p, a.Bag, dx, .ref tt, _, rfl, e5 _ _ hp4, T.c_Bag, T.n_Bag_kept_keys, look, .ref tt, _, rfl, .tup (st_of (e5 _ _ ht4)) (dzAll_ex e5 hds), szT,
          _, rfl, rw, ascV xs, rfl, .inl ⟨sq_of (e5 _ _ h4), fun t5 ht5 => ⟨.ref t5, _, rfl, .tup (st_of upd_same) (dzAll_ex (e5.trans (Ex.new ht5)) hds), szT, rfl, by rw [decide_eq_true rfl]; exact q5 _ (Ex.new ht5)⟩⟩⟩
      have t3 : EvT (tTest (tOp rNe (tPr (cxOf (L2.CX P w) P w K mg base ["way", "keys", "caught", "found", "due", "e", "word", "low", "one", "rows"] "_law_bag_right" (defScope s__law_bag_right) a._law_bag_right cdv A outer s H E) "shape" (tVar 3)) (tC (.str "bag")))) [some (.int wy), some (.ref l), some .non, some (.ref p), some (.ref q), none, none, some (.ref lw), none, some (.ref rw)] H4 false := et_test fun H5 e5 Q5 q5 =>
        ⟨_, rfl, p, a.Bag, dx, _, _, _, 1, _, rfl, e5 _ _ hp4, T.c_Bag, T.p_Bag_shape, ok_Bag_shape T, hr.mono (by decide), _, rfl, rfl, by rw [decide_eq_true rfl]; exact q5 _ (Ex.refl _)⟩
      refine q_when (b := false || (false || false)) (et_or t1 fun _ => et_or t2 fun _ => t3) (fun z => nomatch z) fun _ H6 e6 => ?_
      have hp6 := e6 _ _ hp4
      have ht6 := e6 _ _ ht4
      refine ⟨_, rfl, p, a.Bag, dx, a.Bag_children, _, syKept K a, ascV xs, rfl, hp6, nochild, T.c_Bag, T.p_Bag_children, ok_Bag_children T, p, dx, tt, rfl, hp6, ht6, (by rw [sizeLine_eq]; omega), fun D hD hDs => ?_⟩
      have e7 := Ex.new (o := .lst (ascV xs)) hD
      have e67 := e6.trans e7
      refine ⟨.ref D, _, rfl, .lst (sq_of upd_same) hDs (dzAll_ex e67 hds), szL, _, rfl, .ref rw, _, rfl, .lst (sq_of (e67 _ _ h4)) hrs (dzAll_ex e67 hds), szL, rfl, _, rfl, ?_⟩
      rw [decide_eq_true rfl]
      refine iteT ?_
      have hp7 := e67 _ _ hp4
      have ht7 := e67 _ _ ht4
      refine ⟨_, rfl, rfl, _, rfl, p, a.Bag, dx, _, _, _, 1, _, rfl, hp7, T.c_Bag, T.p_Bag_members, ok_Bag_members T, hr.mono (by decide), p, a.Bag, dx, .ref tt, _, rfl, hp7, T.c_Bag, T.n_Bag_kept_keys, look, rfl, .ref tt, rfl, .inr ⟨tt, ascV xs, rfl, st_of ht7, ?_⟩⟩
      have hkA : KIs K _ (ascV xs) := ⟨fun y hy => (hk2.ex ((e3.trans e4).trans e67)).1 y (asc_mem hy), by omega⟩
      refine hkA.bag ?_
      unfold bagEnd
      rw [bagErr_asc hb]
      intro p8 dx8 H8 tt8 hp8 hps8 htt8 e8 hp8' htt8'
      refine ⟨p, p8, a.Bag, dx, dx8, _, _, rfl, rfl, e8 _ _ hp7, hp8', T.e_Bag, _, rfl, ?_⟩
      have hne : p ≠ p8 := fun z => by rw [← z, hp7] at hp8; cases hp8
      rw [decide_eq_false hne]
      exact hq _ (((e24).trans e67).trans e8)

end
end BJL

namespace BJL
open PySem PySem.Spec PyProof.Rows L2 BJ
section
variable {P : Program} {w : World} {K : PySem.W.Frag} {mg : Str → Option Value} {base : Heap} {a : Adr}
open Evl
abbrev lawN : List Str := ["script", "draw", "turn", "keys", "k", "one", "odd", "at", "some", "what"]
abbrev lawB (i : Nat) : Stmt := (defBody s_law).getD i (.Pass ⟨0, 0, 0, 0⟩)
abbrev turnB (i : Nat) : Stmt := (match lawB 2 with | .For _ _ b _ _ => b | _ => []).getD i (.Pass ⟨0, 0, 0, 0⟩)
abbrev lawX (P : Program) (w : World) (K : PySem.W.Frag) (mg : Str → Option Value) (base : Heap) (a : Adr) (cdv : Value) (A : Around) (outer : List Env) (s : Shared) (H : Hp) (E : XK) : Cx := cxOf (L2.CX P w) P w K mg base lawN "law" (defScope s_law) a.law cdv A outer s H E
/-- what stands at a turn -/
structure LW (d c : Addr) (cells : List Int) (n : Nat) (S H : Hp) : Prop where
  st : Stab d S
  ex : Ex S H
  dr : Dr H d c cells n
theorem LW.same {d c : Addr} {cells : List Int} {n : Nat} {S H H' : Hp} (l : LW d c cells n S H) (e : Ex H H') : LW d c cells n S H' := ⟨l.st, l.ex.trans e, l.dr.same e⟩
theorem LW.cut {d c : Addr} {cells : List Int} {n : Nat} {S H : Hp} (l : LW d c cells n S H) : LW d c cells n (cutH d H) H ∧ Ex S (cutH d H) := ⟨⟨cut_stab d H, cut_ex d H, l.dr⟩, l.st.to_cut l.ex⟩
theorem law_if (T : Txt P K mg a) {cdv : Value} {A : Around} {outer : List Env} {s : Shared} {H0 : Hp} {E : XK} (hr : Room 20 (A.deeper (envOfC "law" (defScope s_law) s.heap.objs.size a.law cdv))) (hG : A.guards = some []) :
    ∃ t, PS (lawX P w K mg base a cdv A outer s H0 E) (lawB 1) t ∧ ∀ (D : Ends) (σ : L2.St) (H : Hp), (∀ H', Ex H H' → D.nx σ H') → t D σ H := by
  have G0_Octets := (ok_Octets (P := P) (w := w) (base := base) (mg := mg) T).2.2
  have G0_Bag := ok_Bag (P := P) (w := w) (base := base) (mg := mg) T
  refine ⟨_, (ps_if (PW.pt (pw_or (pt_cmpR (op_neD' (K := K) rfl hr.units) (pe_pr (pe_cx0 G0_Octets (hr.mono (by decide)) rfl T.g_Octets T.k_Octets (takes_of rfl rfl rfl rfl) pk_nil)) (pe_tup pa_nil) (nomark _)) (pw_or1 (pt_cmpR (op_neD' (K := K) rfl hr.units) (pe_pr (pe_cx0 G0_Bag (hr.mono (by decide)) rfl T.g_Bag T.k_Bag (takes_of rfl rfl rfl rfl) pk_nil)) (pe_tup pa_nil) (nomark _)))))
 (pss_one (ps_ret pe_bl))
 pss_nil), ?_⟩
  intro D σ H k
  refine s_when (b := false || false) (et_or (et_test fun H1 e1 Q q => ?one) fun _ => et_test fun H1 e1 Q q => ?two) (fun z => nomatch z) fun _ H1 e1 => k H1 e1
  case one =>
    have look : ([("row", V.ref a.Octets___init___dv)] : List (Str × V)).lookup ("row" : Str) = some (.ref a.Octets___init___dv) := rfl
    refine ⟨rfl, rfl, .tuple [], .tup (T.v_Octets___init__ H1) .nil, .inl ⟨rfl, fun p dx H2 hp hs e2 hp2 => ?_⟩⟩
    refine ⟨p, a.Octets, dx, _, _, _, 1, _, rfl, hp2, T.c_Octets, T.p_Octets_numbers, ok_Octets_numbers T, hr.mono (by decide), p, a.Octets, dx, _, _, rfl, hp2, T.c_Octets, T.n_Octets_row, look, Nat.zero_le _, fun t ht => ?_⟩
    refine ⟨dT [], dT [], dp_T (ns := []) (T.v_Octets___init__ _), dp_T (ns := []) (st_of upd_same), dT_shaped _, dT_shaped _, ?_⟩
    rw [eqv_T]
    exact q _ (e2.trans (Ex.new ht))
  case two =>
    refine ⟨rfl, fun x hx => (nomatch hx), fun x hx => (nomatch hx), by decide, ?_⟩
    intro p dx H2 tt hp hs htt e2 hp2 ht2
    have look : ([("kept_keys", V.ref tt)] : List (Str × V)).lookup ("kept_keys" : Str) = some (.ref tt) := rfl
    refine ⟨p, a.Bag, dx, _, _, _, 1, _, rfl, hp2, T.c_Bag, T.p_Bag_members, ok_Bag_members T, hr.mono (by decide), p, a.Bag, dx, _, _, rfl, hp2, T.c_Bag, T.n_Bag_kept_keys, look, Nat.zero_le _, fun t ht => ?_⟩
    have ha : ascV [] = ([] : List Int).map V.int := by decide +kernel
    rw [ha] at ht2
    refine ⟨dT [], dT [], dp_T (ns := []) (st_of ((Ex.new ht) _ _ ht2)), dp_T (ns := []) (st_of upd_same), dT_shaped _, dT_shaped _, ?_⟩
    rw [eqv_T]
    exact q _ (e2.trans (Ex.new ht))

end
end BJL

namespace BJL
open PySem PySem.Spec PyProof.Rows L2 BJ
section
variable {P : Program} {w : World} {K : PySem.W.Frag} {mg : Str → Option Value} {base : Heap} {a : Adr}
open Evl
def Sl (sc d : Addr) (σ : L2.St) : Prop := ∃ o2 o3 o4 o5 o6 o7 o8 o9, σ = [some (.ref sc), some (.ref d), o2, o3, o4, o5, o6, o7, o8, o9]
theorem turn_oct (T : Txt P K mg a) {cdv : Value} {A : Around} {outer : List Env} {s : Shared} {H0 : Hp} {E : XK} (hr : Room 20 (A.deeper (envOfC "law" (defScope s_law) s.heap.objs.size a.law cdv))) (hG : A.guards = some []) :
    ∃ t, PS (lawX P w K mg base a cdv A outer s H0 E) (turnB 0) t ∧ ∀ (D : Ends) (σ : L2.St) (H S : Hp) (sc d c : Addr) (cells : List Int) (n : Nat), Sl sc d σ → LW d c cells n S H → n ≤ 90000 → (∀ H', LW d c cells (n + 14) S H' → D.nx σ H') → t D σ H := by
  have G__law_tuple : CallP P w K mg base 3 (.ref a._law_tuple) (spTuple K) := (ok__law_tuple T).p
  have G__law_octets_right : CallP P w K mg base 13 (.ref a._law_octets_right) (spORight K) := ok__law_octets_right T
  refine ⟨_, (ps_if (PW.pt (pw_or (pt_not (pt_val (pe_ca G__law_octets_right (hr.mono (by decide)) hG rfl T.g__law_octets_right T.k__law_octets_right (takes_of rfl rfl rfl rfl) (pa_cons (pe_ca G__law_tuple (hr.mono (by decide)) hG rfl T.g__law_tuple T.k__law_tuple (takes_of rfl rfl rfl rfl) (pa_cons (pv 1) pa_nil)) pa_nil)))) (pw_or1 (pt_not (pt_val (pe_ca G__law_octets_right (hr.mono (by decide)) hG rfl T.g__law_octets_right T.k__law_octets_right (takes_of rfl rfl rfl rfl) (pa_cons (pe_ca G__law_tuple (hr.mono (by decide)) hG rfl T.g__law_tuple T.k__law_tuple (takes_of rfl rfl rfl rfl) (pa_cons (pv 1) pa_nil)) pa_nil)))))))
 (pss_one (ps_ret pe_bl))
 pss_nil), ?_⟩
  rintro D σ H S sc d c cells n ⟨o2, o3, o4, o5, o6, o7, o8, o9, rfl⟩ l hn k
  refine ⟨_, rfl, d, c, cells, n, rfl, l.dr, by omega, fun v dv H1 sb D1 dz sh => ⟨v, dv, rfl, dz_ex (cut_ex d H1) dz, sh, fun H2 e2 => ⟨_, rfl, iteF ?_⟩⟩⟩
  have l2 : LW d c cells (n + 7) S H2 := ⟨l.st, (l.st.but l.ex sb).trans e2, D1.same e2⟩
  refine ⟨_, rfl, d, c, cells, n + 7, rfl, l2.dr, by omega, fun v3 dv3 H3 sb3 D3 dz3 sh3 => ⟨v3, dv3, rfl, dz_ex (cut_ex d H3) dz3, sh3, fun H4 e4 => ⟨_, rfl, iteF ?_⟩⟩⟩
  exact k H4 ⟨l.st, (l2.st.but l2.ex sb3).trans e4, D3.same e4⟩

end
end BJL

namespace BJL
open PySem PySem.Spec PyProof.Rows L2 BJ
section
variable {P : Program} {w : World} {K : PySem.W.Frag} {mg : Str → Option Value} {base : Heap} {a : Adr}
open Evl
theorem turn_keys (T : Txt P K mg a) {cdv : Value} {A : Around} {outer : List Env} {s : Shared} {H0 : Hp} {E : XK} (hr : Room 20 (A.deeper (envOfC "law" (defScope s_law) s.heap.objs.size a.law cdv))) (hG : A.guards = some []) :
    ∃ t, PS (lawX P w K mg base a cdv A outer s H0 E) (turnB 1) t ∧ ∀ (D : Ends) (σ : L2.St) (H S : Hp) (sc d c : Addr) (cells : List Int) (n : Nat), Sl sc d σ → LW d c cells n S H → n ≤ 90000 →
      (∀ (o2 o4 o5 o6 o7 o8 o9 : Option V) (p : Addr) (xs : List V) H', H' p = some (.lst xs) → xs.length ≤ 6 → (∀ x ∈ xs, okAtom x = true) → LW d c cells (n + 30) S H' → D.nx [some (.ref sc), some (.ref d), o2, some (.ref p), o4, o5, o6, o7, o8, o9] H') → t D σ H := by
  have G__law_next : CallP P w K mg base 2 (.ref a._law_next) spNext := (ok__law_next T).p
  have G__law_atom : CallP P w K mg base 3 (.ref a._law_atom) (spAtom K) := (ok__law_atom T).p
  refine ⟨_, (ps_setLc (i := 3) (own := [("k", 4)]) (g := (gName 4)) (by rfl) sc_law.nd rfl rfl (sw_true rfl rfl rfl (by decide +kernel)) (pi_range1 (by rfl) T.b_range (pa_cons (pe_ca G__law_next (hr.mono (by decide)) hG rfl T.g__law_next T.k__law_next (takes_of rfl rfl rfl rfl) (pa_cons (pv 1) (pa_cons pe_int pa_nil))) pa_nil)) (blkOk_by (own := [("k", 4)]) (N := ["script", "draw", "turn", "keys", "k", "one", "odd", "at", "some", "what"]) (sc := defScope s_law) (by decide +kernel)) (fun _ _ _ _ _ => (pg_name (i := 4) sc_law.nd rfl (Or.inl rfl))) (fun _ _ _ _ _ => pts_nil) (fun _ _ _ _ _ => (pe_ca G__law_atom (hr.mono (by decide)) hG rfl T.g__law_atom T.k__law_atom tkN (pa_cons (pv 1) pa_nil)))), ?_⟩
  rintro D σ H S sc d c cells n ⟨o2, o3, o4, o5, o6, o7, o8, o9, rfl⟩ l hn k
  refine ⟨_, rfl, d, c, cells, n, 7, rfl, l.dr, by omega, by omega, by omega, fun r H1 r0 r1 D1 B1 => ⟨r, rfl, by omega, by omega, ?_⟩⟩
  have l1 : LW d c cells (n + 1) S H1 := ⟨l.st, l.st.but l.ex B1.sb, D1⟩
  intro Dl hDl
  have hS : S Dl = none := fresh_back l1.ex hDl
  obtain ⟨kvs, hd1⟩ := l1.dr.atd
  have nd : Dl ≠ d := fun z => by rw [z, hd1] at hDl; cases hDl
  have nc : Dl ≠ c := fun z => by rw [z, l1.dr.list] at hDl; cases hDl
  refine lc_it (walk_range (lo := 0) (n := r.toNat)) (fun i H' => LW d c cells (n + 1 + 4 * i) S H' ∧ ∃ xs, H' Dl = some (.lst xs) ∧ xs.length = i ∧ ∀ x ∈ xs, okAtom x = true) ⟨l1.same (Ex.new hDl), [], upd_same, rfl, fun x h => nomatch h⟩ (fun _ _ _ _ => trivial) (fun i x H2 H3 hi ⟨l2, xs, hx, hl, ho⟩ y => ?_) (fun H' ⟨l2, xs, hx, hl, ho⟩ => ?_)
  · obtain ⟨y1, y2⟩ := y
    subst y1
    refine ⟨rfl, ?_⟩
    unfold tYes
    dsimp only
    rw [if_pos rfl]
    refine ⟨_, rfl, d, c, cells, n + 1 + 4 * i, rfl, l2.dr, by omega, fun v H4 sb D4 ov => ?_⟩
    have hx4 := sb Dl _ nd hx
    refine ⟨xs, hx4, by rw [sizeLine_eq]; omega, ⟨l2.st, Ex.mut (l2.st.but l2.ex sb) hS, ?_⟩, xs ++ [v], upd_same, by rw [List.length_append, hl]; rfl, fun z hz => ?_⟩
    · rw [show n + 1 + 4 * (i + 1) = n + 1 + 4 * i + 4 by omega]
      obtain ⟨⟨a', l', u', h1, h2⟩, h3, h4, h5⟩ := D4
      exact ⟨⟨a', l', u', by rw [upd_ne nd.symm]; exact h1, h2⟩, by rw [upd_ne nc.symm]; exact h3, h4, h5⟩
    · rcases List.mem_append.mp hz with hz | hz
      · exact ho z hz
      · rw [List.mem_singleton.mp hz]; exact ov
  · exact k _ _ _ _ _ _ _ Dl xs H' hx (by omega) ho ⟨l2.st, l2.ex, l2.dr.mono (by omega)⟩

end
end BJL

namespace BJL
open PySem PySem.Spec PyProof.Rows L2 BJ
section
variable {P : Program} {w : World} {K : PySem.W.Frag} {mg : Str → Option Value} {base : Heap} {a : Adr}
open Evl
theorem turn_filter (T : Txt P K mg a) {cdv : Value} {A : Around} {outer : List Env} {s : Shared} {H0 : Hp} {E : XK} (hr : Room 20 (A.deeper (envOfC "law" (defScope s_law) s.heap.objs.size a.law cdv))) (hG : A.guards = some []) :
    ∃ t, PS (lawX P w K mg base a cdv A outer s H0 E) (turnB 2) t ∧ ∀ (D : Ends) (H : Hp) (sc d p : Addr) (o2 o4 o5 o6 o7 o8 o9 : Option V) (xs : List V), H p = some (.lst xs) → xs.length ≤ 6 → (∀ x ∈ xs, okAtom x = true) →
      (∀ (q : Addr) (ys : List V) H', H q = none → Ex H H' → H' q = some (.lst ys) → ys.length ≤ 6 → (∀ y ∈ ys, okAtom y = true ∧ keyV y = true) → D.nx [some (.ref sc), some (.ref d), o2, some (.ref q), o4, o5, o6, o7, o8, o9] H') →
      t D [some (.ref sc), some (.ref d), o2, some (.ref p), o4, o5, o6, o7, o8, o9] H := by
  have G__law_is_key : CallP P w K mg base 1 (.ref a._law_is_key) (spBV K keyV) := (ok__law_is_key T).p
  refine ⟨_, (ps_setLc (i := 3) (own := [("one", 5)]) (g := (gName 5)) (by rfl) sc_law.nd rfl rfl (sw_true rfl rfl rfl (by decide +kernel)) (pi_list (pv 3)) (blkOk_by (own := [("one", 5)]) (N := ["script", "draw", "turn", "keys", "k", "one", "odd", "at", "some", "what"]) (sc := defScope s_law) (by decide +kernel)) (fun _ _ _ _ _ => (pg_name (i := 5) sc_law.nd rfl (Or.inl rfl))) (fun _ _ _ _ _ => (pts_one (pt_val (pe_ca G__law_is_key (hr.mono (by decide)) hG rfl T.g__law_is_key T.k__law_is_key tkN (pa_cons (pv 5) pa_nil))))) (fun _ _ _ _ _ => (pv 5))), ?_⟩
  intro D H sc d p o2 o4 o5 o6 o7 o8 o9 xs hp hl ho k
  refine s_asgL (xs := (xs.filter keyV).map fun x => x) (el_at (vs := [5]) (j := 5) (te := tVar 5) (ei_list (K := K) (tl := tVar 3) (ev_var rfl) (sq_of hp)) keyV (fun x => x) (by omega) (fun _ => rfl) (fun y hy H1 e1 => ?_) (fun y hy H1 e1 _ => ev_var rfl)) (fun q H1 hq e1 h1 => k q _ H1 hq e1 h1 ?_ fun y hy => ?_)
  · obtain ⟨dd, h1, _, _, h4⟩ := okAtom_is (ho y hy)
    exact et_B (ev_ca (ea_cons (ev_var rfl) ea_nil) fun H2 e2 Q E q => ⟨y, dd, rfl, atom_dz h1 H2, h4, q H2 (Ex.refl _)⟩)
  · rw [List.length_map]
    exact Nat.le_trans (List.length_filter_le _ _) hl
  · obtain ⟨z, hz, rfl⟩ := List.mem_map.mp hy
    obtain ⟨z1, z2⟩ := List.mem_filter.mp hz
    exact ⟨ho _ z1, z2⟩

end
end BJL

namespace BJL
open PySem PySem.Spec PyProof.Rows L2 BJ
section
variable {P : Program} {w : World} {K : PySem.W.Frag} {mg : Str → Option Value} {base : Heap} {a : Adr}
open Evl
theorem odd_ok : okB (.int big) = true ∧ okB (.str (repS 120 2001)) = true ∧ okB (.tuple [.int 1]) = true ∧ okB (.list [.int 1]) = true ∧ okB .none = true ∧ okB (.bool true) = true ∧ okB (.bool false) = true := by decide +kernel
theorem turn_odd (T : Txt P K mg a) {cdv : Value} {A : Around} {outer : List Env} {s : Shared} {H0 : Hp} {E : XK} (hr : Room 20 (A.deeper (envOfC "law" (defScope s_law) s.heap.objs.size a.law cdv))) (hG : A.guards = some []) :
    ∃ t, PS (lawX P w K mg base a cdv A outer s H0 E) (turnB 3) t ∧ ∀ (D : Ends) (H : Hp) (sc d p c : Addr) (cells : List Int) (n : Nat) (o2 o4 o5 o6 o7 o8 o9 : Option V), Dr H d c cells n → n ≤ 90000 →
      (∀ v H', SameBut d H H' → Dr H' d c cells (n + 1) → KI K (cutH d H') v → D.nx [some (.ref sc), some (.ref d), o2, some (.ref p), o4, o5, some v, o7, o8, o9] H') →
      t D [some (.ref sc), some (.ref d), o2, some (.ref p), o4, o5, o6, o7, o8, o9] H := by
  have G__law_next : CallP P w K mg base 2 (.ref a._law_next) spNext := (ok__law_next T).p
  refine ⟨_, (ps_set (i := 6) sc_law.nd rfl (Or.inl rfl) (pe_ix (ix_list' (K := K) rfl) (pe_lst (pa_cons pe_non (pa_cons pe_bl (pa_cons pe_bl (pa_cons (pe_op op_powB (pe_op op_powB pe_int pe_int) pe_int) (pa_cons (pe_op op_mulS pe_str pe_int) (pa_cons (pe_tup (pa_cons pe_int pa_nil)) (pa_cons (pe_lstN (pa_cons pe_int pa_nil)) pa_nil)))))))) (pe_ca G__law_next (hr.mono (by decide)) hG rfl T.g__law_next T.k__law_next (takes_of rfl rfl rfl rfl) (pa_cons (pv 1) (pa_cons pe_int pa_nil))) (fun _ _ => rfl))), ?_⟩
  intro D H sc d p c cells n o2 o4 o5 o6 o7 o8 o9 dr hn k
  have pe : ((10 : Int) ^ (60 : Int).toNat) ^ (5 : Int).toNat = big := by decide +kernel
  have p1 : CPowB 10 60 := ⟨by decide, by decide +kernel⟩
  have p2 : CPowB ((10 : Int) ^ (60 : Int).toNat) 5 := ⟨by decide, by decide +kernel⟩
  refine ⟨_, _, rfl, rfl, p1, _, _, rfl, rfl, p2, 120, 2001, rfl, rfl, by decide, by decide, (by show 1 ≤ sizeLine; decide), fun p5 n5 => ⟨(by show 1 ≤ sizeLine; decide), fun p6 n6 s6 => ⟨(by show 7 ≤ sizeLine; decide), fun p7 n7 => ?_⟩⟩⟩
  rw [pe] at *
  have y5 := Ex.new (o := .tup [.int 1]) n5
  have y6 := Ex.new (o := .lst [.int 1]) n6
  have y7 := Ex.new (o := .lst [.non, .bl true, .bl false, .int big, .str (repS 120 2001), .ref p5, .ref p6]) n7
  obtain ⟨kvs, hd⟩ := dr.atd
  have p5d : p5 ≠ d := fun z => by rw [z, hd] at n5; cases n5
  have p6d : p6 ≠ d := fun z => by rw [z, y5 _ _ hd] at n6; cases n6
  have p7d : p7 ≠ d := fun z => by rw [z, (y5.trans y6) _ _ hd] at n7; cases n7
  refine ⟨_, rfl, d, c, cells, n, 7, rfl, dr.same ((y5.trans y6).trans y7), by omega, by omega, by omega, fun r H2 r0 r1 D2 B2 => ?_⟩
  have k5 : H2 p5 = some (.tup [.int 1]) := (B2 p5 p5d).trans ((y6.trans y7) _ _ upd_same)
  have k6 : H2 p6 = some (.lst [.int 1]) := (B2 p6 p6d).trans (y7 _ _ upd_same)
  have k7 : H2 p7 = some (.lst [.non, .bl true, .bl false, .int big, .str (repS 120 2001), .ref p5, .ref p6]) := (B2 p7 p7d).trans upd_same
  have m5 : SqT K (cutH d H2) p5 [.int 1] := st_of (cut_at k5 p5d (fun ps z => nomatch z))
  have m6 : SqL K (cutH d H2) p6 [.int 1] := sq_of (cut_at k6 p6d (fun ps z => nomatch z))
  obtain ⟨w1, w2, w3, w4, w5, w6, w7⟩ := odd_ok
  suffices h : ∃ v, atI [V.non, .bl true, .bl false, .int big, .str (repS 120 2001), .ref p5, .ref p6] r = some v ∧ KI K (cutH d H2) v by
    obtain ⟨v, hv, hk⟩ := h
    exact ⟨p7, _, r, v, rfl, rfl, sq_of k7, hv, k v H2 ((SameBut.of ((y5.trans y6).trans y7)).trans B2.sb) D2 hk⟩
  obtain ⟨i, hi, rfl⟩ : ∃ i : Nat, i < 7 ∧ r = (i : Int) := ⟨r.toNat, by omega, by omega⟩
  match i, hi with
  | 0, _ => exact ⟨_, rfl, _, .non, .non, w5, rfl, fun z h => nomatch h⟩
  | 1, _ => exact ⟨_, rfl, _, .bl _, .bl _, w6, rfl, fun z h => nomatch h⟩
  | 2, _ => exact ⟨_, rfl, _, .bl _, .bl _, w7, rfl, fun z h => nomatch h⟩
  | 3, _ => exact ⟨_, rfl, _, .int _, .int _, w1, rfl, fun z h => nomatch h⟩
  | 4, _ => exact ⟨_, rfl, _, .str _, .str _, w2, rep_ok _, fun z h => by cases h; rw [repS_len, sizeLine_eq]; omega⟩
  | 5, _ => exact ⟨_, rfl, _, .tup m5 (.cons (.int 1) .nil), .tup m5 (.cons (.int 1) .nil), w3, rfl, fun z h => nomatch h⟩
  | 6, _ => exact ⟨_, rfl, _, .lst m6 s6 (.cons (.int 1) .nil), .lst m6 (.cons (.int 1) .nil), w4, rfl, fun z h => nomatch h⟩

end
end BJL

namespace BJL
open PySem PySem.Spec PyProof.Rows L2 BJ
section
variable {P : Program} {w : World} {K : PySem.W.Frag} {mg : Str → Option Value} {base : Heap} {a : Adr}
open Evl
theorem turn_at (T : Txt P K mg a) {cdv : Value} {A : Around} {outer : List Env} {s : Shared} {H0 : Hp} {E : XK} (hr : Room 20 (A.deeper (envOfC "law" (defScope s_law) s.heap.objs.size a.law cdv))) (hG : A.guards = some []) :
    ∃ t, PS (lawX P w K mg base a cdv A outer s H0 E) (turnB 4) t ∧ ∀ (D : Ends) (H : Hp) (sc d p c : Addr) (cells : List Int) (n : Nat) (o2 o4 o5 o6 o7 o8 o9 : Option V) (ys : List V), Dr H d c cells n → n ≤ 90000 → H p = some (.lst ys) → ys.length ≤ 6 →
      (∀ r H', But d H H' → Dr H' d c cells (n + 1) → D.nx [some (.ref sc), some (.ref d), o2, some (.ref p), o4, o5, o6, some (.int r), o8, o9] H') →
      t D [some (.ref sc), some (.ref d), o2, some (.ref p), o4, o5, o6, o7, o8, o9] H := by
  have G__law_next : CallP P w K mg base 2 (.ref a._law_next) spNext := (ok__law_next T).p
  refine ⟨_, (ps_set (i := 7) sc_law.nd rfl (Or.inl rfl) (pe_ca G__law_next (hr.mono (by decide)) hG rfl T.g__law_next T.k__law_next (takes_of rfl rfl rfl rfl) (pa_cons (pv 1) (pa_cons (pe_op op_add (pe_callB call_len_seq (by rfl) T.b_len (by decide +kernel) (pa_cons (pv 3) pa_nil)) pe_int) pa_nil)))), ?_⟩
  intro D H sc d p c cells n o2 o4 o5 o6 o7 o8 o9 ys dr hn hp hl k
  exact ⟨_, rfl, _, rfl, p, ys, rfl, .inl (sq_of hp), _, _, rfl, rfl, d, c, cells, n, _, rfl, dr, by omega, by omega, by omega, fun r H2 r0 r1 D2 B2 => k r H2 B2 D2⟩
theorem turn_three (T : Txt P K mg a) {cdv : Value} {A : Around} {outer : List Env} {s : Shared} {H0 : Hp} {E : XK} (hr : Room 20 (A.deeper (envOfC "law" (defScope s_law) s.heap.objs.size a.law cdv))) (hG : A.guards = some []) :
    ∃ t, PS (lawX P w K mg base a cdv A outer s H0 E) (turnB 5) t ∧ ∀ (D : Ends) (H : Hp) (sc d p : Addr) (o2 o4 o5 o8 o9 : Option V) (v : V) (r : Int) (ys : List V), H p = some (.lst ys) → KIs K H ys → ys.length ≤ 6 → KI K H v →
      (∀ o8' H', Ex H H' → D.nx [some (.ref sc), some (.ref d), o2, some (.ref p), o4, o5, some v, some (.int r), o8', o9] H') →
      t D [some (.ref sc), some (.ref d), o2, some (.ref p), o4, o5, some v, some (.int r), o8, o9] H := by
  have G__law_bag_right : CallP P w K mg base 18 (.ref a._law_bag_right) (spBRight K) := ok__law_bag_right T
  refine ⟨_, (ps_for (passes_of rfl) rfl (pi_list (pe_lst (pa_cons (pv 3) (pa_cons (pe_op op_catN (pe_op op_catN (pe_slice sl_list (pv 3) po_none (po_some (pv 7))) (pe_lst (pa_cons (pv 6) pa_nil))) (pe_slice sl_list (pv 3) (po_some (pv 7)) po_none)) (pa_cons (pe_op op_catN (pv 3) (pe_slice sl_list (pv 3) po_none (po_some pe_int))) pa_nil))))) (pg_name (i := 8) sc_law.nd rfl (Or.inl rfl))
 (pss_one (ps_if (PW.pt (pw_or (pt_not (pt_val (pe_ca G__law_bag_right (hr.mono (by decide)) hG rfl T.g__law_bag_right T.k__law_bag_right (takes_of rfl rfl rfl rfl) (pa_cons pe_int (pa_cons (pv 8) pa_nil))))) (pw_or1 (pt_not (pt_val (pe_ca G__law_bag_right (hr.mono (by decide)) hG rfl T.g__law_bag_right T.k__law_bag_right (takes_of rfl rfl rfl rfl) (pa_cons pe_int (pa_cons (pv 8) pa_nil))))))))
 (pss_one (ps_ret pe_bl))
 pss_nil))), ?_⟩
  intro D H sc d p o2 o4 o5 o8 o9 v r ys hp hks hl hkv k
  have hs := sq_of (K := K) hp
  have c1 := cutV_length ys none (some r)
  have c2 := cutV_length ys (some r) none
  have c3 := cutV_length ys none (some 1)
  have big20 : ∀ m : Nat, m ≤ 100 → m ≤ sizeLine := fun m h => by rw [sizeLine_eq]; omega
  refine ⟨_, rfl, _, rfl, _, rfl, r, rfl, p, ys, rfl, hs, fun q1 n1 => ⟨_, rfl, big20 1 (by omega), fun q2 n2 => ⟨q1, q2, _, _, rfl, rfl, .inl (.inl ((Ex.new n2) _ _ upd_same)), .inl (.inl upd_same), big20 _ (by show _ + 1 ≤ 100; omega), fun q3 n3 s3 => ?_⟩⟩⟩
  have x3 := ((Ex.new (o := .lst (cutV ys none (some r))) n1).trans (Ex.new (o := .lst [v]) n2)).trans (Ex.new (o := .lst (cutV ys none (some r) ++ [v])) n3)
  refine ⟨_, rfl, _, rfl, r, rfl, p, ys, rfl, ex_l x3 hs, fun q4 n4 => ⟨q3, q4, _, _, rfl, rfl, .inl (.inl ((Ex.new n4) _ _ upd_same)), .inl (.inl upd_same), big20 _ (by rw [List.length_append]; show _ + 1 + _ ≤ 100; omega), fun q5 n5 s5 => ?_⟩⟩
  have x5 := (x3.trans (Ex.new (o := .lst (cutV ys (some r) none)) n4)).trans (Ex.new (o := .lst (cutV ys none (some r) ++ [v] ++ cutV ys (some r) none)) n5)
  have h5 := upd_same (H := (upd (upd (upd (upd H q1 (.lst (cutV ys none (some r)))) q2 (.lst [v])) q3 (.lst (cutV ys none (some r) ++ [v]))) q4 (.lst (cutV ys (some r) none)))) (a := q5) (o := HO.lst (cutV ys none (some r) ++ [v] ++ cutV ys (some r) none))
  generalize upd _ q5 (.lst (cutV ys none (some r) ++ [v] ++ cutV ys (some r) none)) = H5 at x5 h5
  refine ⟨_, rfl, _, rfl, _, rfl, p, ys, rfl, ex_l x5 hs, fun q6 n6 => ⟨p, q6, _, _, rfl, rfl, .inl (.inl ((x5.trans (Ex.new n6)) _ _ hp)), .inl (.inl upd_same), big20 _ (by omega), fun q7 n7 s7 => ⟨big20 3 (by omega), fun q8 n8 => ?_⟩⟩⟩
  have x6 := Ex.new (o := .lst (cutV ys none (some 1))) n6
  have x7 := Ex.new (o := .lst (ys ++ cutV ys none (some 1))) n7
  have x8 := Ex.new (o := .lst [.ref p, .ref q5, .ref q7]) n8
  have h7 := x8 q7 _ upd_same
  have h8 := upd_same (H := (upd (upd H5 q6 (.lst (cutV ys none (some 1)))) q7 (.lst (ys ++ cutV ys none (some 1))))) (a := q8) (o := HO.lst [.ref p, .ref q5, .ref q7])
  have xF := (x5.trans x6).trans (x7.trans x8)
  have h5F := (x6.trans (x7.trans x8)) _ _ h5
  generalize upd _ q8 (.lst [.ref p, .ref q5, .ref q7]) = HF at h7 h8 xF h5F
  have hkF := hks.ex xF
  obtain ⟨dv, a1, a2, a3, a4, a5⟩ := hkv
  have hvF : KI K HF v := ⟨dv, dz_ex xF a1, dp_ex xF a2, a3, a4, a5⟩
  have cm : ∀ lo hi, ∀ y ∈ cutV ys lo hi, KI K HF y := fun lo hi y hy => hkF.1 y (List.mem_of_mem_drop (List.mem_of_mem_take hy))
  have items : ∀ x ∈ [V.ref p, .ref q5, .ref q7], ∃ lq zs, x = .ref lq ∧ SqL K HF lq zs ∧ KIs K HF zs := fun x hx => by
    simp only [List.mem_cons, List.not_mem_nil, or_false] at hx
    rcases hx with rfl | rfl | rfl
    · exact ⟨p, ys, rfl, ex_l xF hs, hkF⟩
    · refine ⟨q5, _, rfl, sq_of h5F, fun y hy => ?_, by rw [List.length_append, List.length_append]; show _ + 1 + _ ≤ 20; omega⟩
      rcases List.mem_append.mp hy with hy | hy
      · rcases List.mem_append.mp hy with hy | hy
        · exact cm _ _ y hy
        · rw [List.mem_singleton.mp hy]; exact hvF
      · exact cm _ _ y hy
    · refine ⟨q7, _, rfl, sq_of h7, fun y hy => ?_, by rw [List.length_append]; omega⟩
      rcases List.mem_append.mp hy with hy | hy
      · exact hkF.1 y hy
      · exact cm _ _ y hy
  refine ⟨q8, rfl, ⟨_, sq_of h8⟩, for_list (K := K) (a := q8) (xs := [.ref p, .ref q5, .ref q7]) (fun i σ' H' => (∃ o, σ' = [some (.ref sc), some (.ref d), o2, some (.ref p), o4, o5, some v, some (.int r), o, o9]) ∧ Ex HF H') ⟨⟨o8, rfl⟩, Ex.refl _⟩ (fun i σ' H' _ h => ex_l h.2 (sq_of h8)) (fun i x σ' H' hi ⟨⟨o, hσ⟩, e⟩ => ?_) (fun σ' H' ⟨⟨o, hσ⟩, e⟩ => ?_)⟩
  · subst hσ
    obtain ⟨lq, zs, rfl, z1, z2⟩ := items x (List.mem_of_getElem? hi)
    refine ⟨_, rfl, 0, lq, zs, rfl, ex_l e z1, z2.ex e, fun H2 e2 => ⟨_, rfl, iteF ⟨_, rfl, 1, lq, zs, rfl, ex_l (e.trans e2) z1, z2.ex (e.trans e2), fun H3 e3 => ⟨_, rfl, iteF ?_⟩⟩⟩⟩
    exact ⟨⟨_, rfl⟩, (e.trans e2).trans e3⟩
  · subst hσ
    exact k _ H' (xF.trans e)

end
end BJL

namespace BJL
open PySem PySem.Spec PyProof.Rows L2 BJ
section
variable {P : Program} {w : World} {K : PySem.W.Frag} {mg : Str → Option Value} {base : Heap} {a : Adr}
open Evl
theorem key_nodict {H : Hp} {x : V} {d : PyData} (h : Dp K H x d) (hk : keyV x = true) : d.hasDict = false := by
  rcases key_cases hk with ⟨i, rfl⟩ | ⟨z, rfl⟩ <;> cases h <;> rfl
theorem keys_dp {H : Hp} : ∀ {ys : List V}, (∀ y ∈ ys, okAtom y = true ∧ keyV y = true) → ∃ ds, DpAll K H ys ds ∧ (∀ d ∈ ds, okB d = true) ∧ PyData.hasDictAll ds = false
  | [], _ => ⟨[], .nil, (fun d h => nomatch h), rfl⟩
  | y :: ys, h => by
    obtain ⟨h1, h2⟩ := h y List.mem_cons_self
    obtain ⟨d, e1, e2, _, _⟩ := okAtom_is h1
    obtain ⟨ds, f1, f2, f3⟩ := keys_dp (ys := ys) fun z hz => h z (List.mem_cons_of_mem _ hz)
    refine ⟨d :: ds, .cons (atom_dp e1 H) f1, fun z hz => ?_, ?_⟩
    · rcases List.mem_cons.mp hz with e | hz
      · rw [e]; exact e2
      · exact f2 z hz
    · unfold PyData.hasDictAll
      rw [key_nodict (atom_dp (K := K) e1 H) h2, f3]
      rfl
/-- what Bag.of refuses: how it is shown beside its word -/
def WhOk (K : PySem.W.Frag) (H : Hp) (v : V) : Prop := ∃ d n, TyX K H v (.type n) ∧ kitB n "tuple" = some false ∧ ShowsZ (.list [.str "key", d]) ∧ (Dz K H v d ∨ (Dp K H v d ∧ d.hasDict = false))
theorem turn_what (T : Txt P K mg a) {cdv : Value} {A : Around} {outer : List Env} {s : Shared} {H0 : Hp} {E : XK} (hr : Room 20 (A.deeper (envOfC "law" (defScope s_law) s.heap.objs.size a.law cdv))) (hG : A.guards = some []) :
    ∃ t, PS (lawX P w K mg base a cdv A outer s H0 E) (turnB 6) t ∧ ∀ (D : Ends) (H : Hp) (sc d p c : Addr) (cells : List Int) (n : Nat) (o2 o4 o5 o6 o7 o8 o9 : Option V) (ys : List V), Dr H d c cells n → n ≤ 90000 → H p = some (.lst ys) → ys.length ≤ 6 → (∀ y ∈ ys, okAtom y = true ∧ keyV y = true) →
      (∀ v H', SameBut d H H' → Dr H' d c cells (n + 1) → WhOk K (cutH d H') v → D.nx [some (.ref sc), some (.ref d), o2, some (.ref p), o4, o5, o6, o7, o8, some v] H') →
      t D [some (.ref sc), some (.ref d), o2, some (.ref p), o4, o5, o6, o7, o8, o9] H := by
  have G__law_next : CallP P w K mg base 2 (.ref a._law_next) spNext := (ok__law_next T).p
  refine ⟨_, (ps_set (i := 9) sc_law.nd rfl (Or.inl rfl) (pe_ix (ix_list' (K := K) rfl) (pe_lst (pa_cons (pv 3) (pa_cons pe_non (pa_cons pe_int (pa_cons pe_str (pa_cons pe_dnewK (pa_cons pe_bl pa_nil))))))) (pe_ca G__law_next (hr.mono (by decide)) hG rfl T.g__law_next T.k__law_next (takes_of rfl rfl rfl rfl) (pa_cons (pv 1) (pa_cons pe_int pa_nil))) (fun _ _ => rfl))), ?_⟩
  intro D H sc d p c cells n o2 o4 o5 o6 o7 o8 o9 ys dr hn hp hl hk k
  refine ⟨_, rfl, fun e9 ne9 => ⟨(by show 6 ≤ sizeLine; decide), fun q nq => ?_⟩⟩
  have y1 := Ex.new (o := .dK []) ne9
  have y2 := Ex.new (o := .lst [.ref p, .non, .int 5, .str "bag", .ref e9, .bl true]) nq
  obtain ⟨kvs, hd⟩ := dr.atd
  have e9d : e9 ≠ d := fun z => by rw [z, hd] at ne9; cases ne9
  have qd : q ≠ d := fun z => by rw [z, y1 _ _ hd] at nq; cases nq
  have pd : p ≠ d := ne_of hp hd (fun z => nomatch z)
  refine ⟨_, rfl, d, c, cells, n, 6, rfl, dr.same (y1.trans y2), by omega, by omega, by omega, fun r H2 r0 r1 D2 B2 => ?_⟩
  have kp : H2 p = some (.lst ys) := (B2 p pd).trans ((y1.trans y2) _ _ hp)
  have ke : H2 e9 = some (.dK []) := (B2 e9 e9d).trans (y2 _ _ upd_same)
  have kq : H2 q = some (.lst [.ref p, .non, .int 5, .str "bag", .ref e9, .bl true]) := (B2 q qd).trans upd_same
  have me : cutH d H2 e9 = some (.dK []) := cut_at ke e9d (fun ps z => nomatch z)
  have mp : SqL K (cutH d H2) p ys := sq_of (cut_at kp pd (fun ps z => nomatch z))
  obtain ⟨ds, f1, f2, f3⟩ := keys_dp (K := K) (H := cutH d H2) hk
  have hfl : ds.length ≤ 6 := by
    have : ∀ {xs : List V} {es : List PyData}, DpAll K (cutH d H2) xs es → xs.length = es.length := fun {xs es} h => by
      induction xs generalizing es with
      | nil => cases h; rfl
      | cons x xs ih => cases h with
        | cons h1 h2 => rw [List.length_cons, List.length_cons, ih h2]
    have := this f1
    omega
  obtain ⟨g1, g2, g3, g4⟩ := okC_all f2
  have two : ∀ e, okB e = true → ShowsZ (.list [.str "key", e]) := fun e he => ok_lst (fun y hy => by
    rcases List.mem_cons.mp hy with z | hy
    · rw [z]; exact word_ok.1
    · rw [List.mem_singleton.mp hy]; exact he) (by show 2 ≤ 20; decide)
  have szk : ShowsZ (.list [.str "key", .list ds]) := by
    refine small_z ?_ ?_ ?_ ?_
    · simp [PyData.showable, PyData.showableAll, g1]
    · simp only [PyData.leavesShort, PyData.leavesShortAll, g2, Bool.and_true]; decide +kernel
    · simp only [PyData.depth, PyData.depthAll]; omega
    · have e : (PyData.str "key").bulk = 3 := by decide +kernel
      simp only [PyData.bulk, PyData.bulkAll] at *
      omega
  suffices h : ∃ v, atI [V.ref p, .non, .int 5, .str "bag", .ref e9, .bl true] r = some v ∧ WhOk K (cutH d H2) v by
    obtain ⟨v, hv, hw⟩ := h
    exact ⟨q, _, r, v, rfl, rfl, sq_of kq, hv, k v H2 ((SameBut.of (y1.trans y2)).trans B2.sb) D2 hw⟩
  obtain ⟨i, hi, rfl⟩ : ∃ i : Nat, i < 6 ∧ r = (i : Int) := ⟨r.toNat, by omega, by omega⟩
  match i, hi with
  | 0, _ => exact ⟨_, rfl, .list ds, "list", ty_lst mp, by decide +kernel, szk, .inr ⟨.lst mp f1, by unfold PyData.hasDict; exact f3⟩⟩
  | 1, _ => exact ⟨_, rfl, .none, _, dz_ty .non, by decide +kernel, two _ (by decide +kernel), .inl .non⟩
  | 2, _ => exact ⟨_, rfl, .int 5, _, dz_ty (.int 5), by decide +kernel, two _ (by decide +kernel), .inl (.int 5)⟩
  | 3, _ => exact ⟨_, rfl, .str "bag", _, dz_ty (.str _), by decide +kernel, two _ (by decide +kernel), .inl (.str _)⟩
  | 4, _ => exact ⟨_, rfl, .dict [], _, dz_ty (.dict (kvs := []) (ds := []) me .nil), by decide +kernel, two _ (by decide +kernel), .inl (.dict (kvs := []) (ds := []) me .nil)⟩
  | 5, _ => exact ⟨_, rfl, .bool true, _, dz_ty (.bl true), by decide +kernel, two _ (by decide +kernel), .inl (.bl true)⟩

end
end BJL

namespace BJL
open PySem PySem.Spec PyProof.Rows L2 BJ
section
variable {P : Program} {w : World} {K : PySem.W.Frag} {mg : Str → Option Value} {base : Heap} {a : Adr}
open Evl
theorem turn_word (T : Txt P K mg a) {cdv : Value} {A : Around} {outer : List Env} {s : Shared} {H0 : Hp} {E : XK} (hr : Room 20 (A.deeper (envOfC "law" (defScope s_law) s.heap.objs.size a.law cdv))) (hG : A.guards = some []) :
    ∃ t, PS (lawX P w K mg base a cdv A outer s H0 E) (turnB 7) t ∧ ∀ (D : Ends) (H : Hp) (sc d : Addr) (o2 o3 o4 o5 o6 o7 o8 : Option V) (v : V), WhOk K H v →
      (∀ H', Ex H H' → D.nx [some (.ref sc), some (.ref d), o2, o3, o4, o5, o6, o7, o8, some v] H') → t D [some (.ref sc), some (.ref d), o2, o3, o4, o5, o6, o7, o8, some v] H := by
  have G__law_word : CallP P w K mg base 13 (.ref a._law_word) (spWord K) := (ok__law_word T).p
  refine ⟨_, (ps_if (pt_cmpR op_ne (pe_callB (CallR.or (call_reprZ (K := K) rfl hr hG) (call_reprQ' (K := K) rfl hr hG)) (by rfl) T.b_repr (by decide +kernel) (pa_cons (pe_ca G__law_word (hr.mono (by decide)) hG rfl T.g__law_word T.k__law_word (takes_of rfl rfl rfl rfl) (pa_cons (pv 9) pa_nil)) pa_nil)) (pe_callB (CallR.or (call_reprZ (K := K) rfl hr hG) (call_reprQ' (K := K) rfl hr hG)) (by rfl) T.b_repr (by decide +kernel) (pa_cons (pe_lstN (pa_cons pe_str (pa_cons (pv 9) pa_nil))) pa_nil)) (nomark _))
 (pss_one (ps_ret pe_bl))
 pss_nil), ?_⟩
  intro D H sc d o2 o3 o4 o5 o6 o7 o8 v hv k
  obtain ⟨dd, n, ty, ht, sz, hrep⟩ := hv
  refine ⟨_, rfl, v, n, rfl, ty, ht, fun q H1 hq hs e1 h1 => ?_⟩
  rcases hrep with dz | ⟨dp, nd⟩
  · refine .inl ⟨.ref q, _, rfl, .lst (sq_of h1) hs (.cons (.str _) (.cons (dz_ex e1 dz) .nil)), sz, _, rfl, (by show 2 ≤ sizeLine; decide), fun l hl hls => .inl ⟨.ref l, _, rfl, .lst (sq_of upd_same) hls (.cons (.str _) (.cons (dz_ex (e1.trans (Ex.new hl)) dz) .nil)), sz, rfl, false, ?_, ?_⟩⟩
    · rw [decide_eq_true rfl]; rfl
    · exact k _ (e1.trans (Ex.new hl))
  · have nd2 : (PyData.list [.str "key", dd]).hasDict = false := by simp only [PyData.hasDict, PyData.hasDictAll, nd]; rfl
    refine .inr ⟨.ref q, .list [.str "key", dd], rfl, .dp (.lst (sq_of h1) (.cons (.str _) (.cons (dp_ex e1 dp) .nil))), sz.s, .inr nd2, sz.p, sz.z, _, rfl, (by show 2 ≤ sizeLine; decide), fun l hl hls => .inr ⟨.ref l, .list [.str "key", dd], rfl, .dp (.lst (sq_of upd_same) (.cons (.str _) (.cons (dp_ex (e1.trans (Ex.new hl)) dp) .nil))), sz.s, .inr nd2, sz.p, sz.z, rfl, false, ?_, ?_⟩⟩
    · rw [decide_eq_true rfl]; rfl
    · exact k _ (e1.trans (Ex.new hl))

end
end BJL

namespace BJL
open PySem PySem.Spec PyProof.Rows L2 BJ
section
variable {P : Program} {w : World} {K : PySem.W.Frag} {mg : Str → Option Value} {base : Heap} {a : Adr}
open Evl
theorem law_loop (T : Txt P K mg a) {cdv : Value} {A : Around} {outer : List Env} {s : Shared} {H0 : Hp} {E : XK} (hr : Room 20 (A.deeper (envOfC "law" (defScope s_law) s.heap.objs.size a.law cdv))) (hG : A.guards = some []) :
    ∃ t, PS (lawX P w K mg base a cdv A outer s H0 E) (lawB 2) t ∧ ∀ (D : Ends) (σ : L2.St) (H S : Hp) (sc d c : Addr) (cells : List Int) (ns : List V), Sl sc d σ → LW d c cells 0 S H → SqL K S sc ns → ns.length ≤ 63 → (∀ σ' H', D.nx σ' H') → t D σ H := by
  obtain ⟨t0, q0, k0⟩ := turn_oct (P := P) (w := w) (mg := mg) (base := base) (outer := outer) (H0 := H0) (E := E) T hr hG
  obtain ⟨t1, q1, k1⟩ := turn_keys (P := P) (w := w) (mg := mg) (base := base) (outer := outer) (H0 := H0) (E := E) T hr hG
  obtain ⟨t2, q2, k2⟩ := turn_filter (P := P) (w := w) (mg := mg) (base := base) (outer := outer) (H0 := H0) (E := E) T hr hG
  obtain ⟨t3, q3, k3⟩ := turn_odd (P := P) (w := w) (mg := mg) (base := base) (outer := outer) (H0 := H0) (E := E) T hr hG
  obtain ⟨t4, q4, k4⟩ := turn_at (P := P) (w := w) (mg := mg) (base := base) (outer := outer) (H0 := H0) (E := E) T hr hG
  obtain ⟨t5, q5, k5⟩ := turn_three (P := P) (w := w) (mg := mg) (base := base) (outer := outer) (H0 := H0) (E := E) T hr hG
  obtain ⟨t6, q6, k6⟩ := turn_what (P := P) (w := w) (mg := mg) (base := base) (outer := outer) (H0 := H0) (E := E) T hr hG
  obtain ⟨t7, q7, k7⟩ := turn_word (P := P) (w := w) (mg := mg) (base := base) (outer := outer) (H0 := H0) (E := E) T hr hG
  refine ⟨_, (ps_for (passes_of rfl) rfl (pi_range1 (by rfl) T.b_range (pa_cons (pe_callB (call_min2 rfl) (by rfl) T.b_min (by decide +kernel) (pa_cons pe_int (pa_cons (pe_op op_add pe_int (pe_callB call_len_seq (by rfl) T.b_len (by decide +kernel) (pa_cons (pv 0) pa_nil))) pa_nil))) pa_nil)) (pg_name (i := 2) sc_law.nd rfl (Or.inl rfl))
    (pss_cons q0 (pss_cons q1 (pss_cons q2 (pss_cons q3 (pss_cons q4 (pss_cons q5 (pss_cons q6 (pss_one q7))))))))), ?_⟩
  rintro D σ H S sc d c cells ns ⟨o2, o3, o4, o5, o6, o7, o8, o9, rfl⟩ lw hsc hlen k
  obtain ⟨N, hN, hN2⟩ : ∃ N : Int, N = (if 4 + ((ns.length : Nat) : Int) < 16 then 4 + ((ns.length : Nat) : Int) else 16) ∧ (0 ≤ N ∧ N ≤ 16) := ⟨_, rfl, by split <;> omega⟩
  refine ⟨_, rfl, sc, ns, rfl, .inl (ex_l lw.ex hsc), _, _, rfl, rfl, _, _, rfl, N, by rw [hN], by omega, by omega, for_range (lo := 0) (n := N.toNat) (fun i σ H' => Sl sc d σ ∧ ∃ S', LW d c cells (60 * i) S' H') ⟨⟨_, _, _, _, _, _, _, _, rfl⟩, S, lw⟩ (fun i σ H2 hi ⟨⟨o2, o3, o4, o5, o6, o7, o8, o9, hσ⟩, S2, l2⟩ => ?_) fun σ H' p => k σ H'⟩
  subst hσ
  refine k0 _ _ H2 S2 sc d c cells (60 * i) ⟨_, _, _, _, _, _, _, _, rfl⟩ l2 (by omega) fun H3 l3 => k1 _ _ H3 S2 sc d c cells _ ⟨_, _, _, _, _, _, _, _, rfl⟩ l3 (by omega) fun o2 o4 o5 o6 o7 o8 o9 p xs H4 hp hl ho l4 => k2 _ H4 sc d p o2 o4 o5 o6 o7 o8 o9 xs hp hl ho fun q ys H5 hq e5 hy hly hoy => ?_
  have D5 := l4.dr.same e5
  obtain ⟨kvs, hd5⟩ := D5.atd
  have qd : q ≠ d := ne_of hy hd5 (fun z => nomatch z)
  refine k3 _ H5 sc d q c cells _ o2 o4 o5 o6 o7 o8 o9 D5 (by omega) fun v H6 sb6 D6 kv => ?_
  have hy6 := sb6 q _ qd hy
  refine k4 _ H6 sc d q c cells _ o2 o4 o5 (some v) o7 o8 o9 ys D6 (by omega) hy6 hly fun r H7 B7 D7 => ?_
  have hy7 := (B7 q qd).trans hy6
  have x67 : Ex (cutH d H6) H7 := (cut_stab d H6).but (cut_ex d H6) B7.sb
  have kv7 : KI K H7 v := by
    obtain ⟨dd, h1, h2, h3, h4, h5⟩ := kv
    exact ⟨dd, dz_ex x67 h1, dp_ex x67 h2, h3, h4, h5⟩
  have ks7 : KIs K H7 ys := ⟨fun y hm => by
    obtain ⟨dd, h1, h2, h3, h4⟩ := okAtom_is (hoy y hm).1
    exact ⟨dd, atom_dz h1 H7, atom_dp h1 H7, h2, h3, h4⟩, by omega⟩
  refine k5 _ H7 sc d q o2 o4 o5 o8 o9 v r ys hy7 ks7 hly kv7 fun o8' H8 e8 => ?_
  refine k6 _ H8 sc d q c cells _ o2 o4 o5 (some v) (some (.int r)) o8' o9 ys (D7.same e8) (by omega) (e8 _ _ hy7) hly hoy fun v9 H9 sb9 D9 wh => ?_
  refine k7 _ H9 sc d o2 (some (.ref q)) o4 o5 (some v) (some (.int r)) o8' v9 ?_ fun H10 e10 => ?_
  · obtain ⟨dd, n, h1, h2, h3, h4⟩ := wh
    exact ⟨dd, n, tyx_ex (cut_ex d H9) h1, h2, h3, h4.elim (fun z => .inl (dz_ex (cut_ex d H9) z)) fun z => .inr ⟨dp_ex (cut_ex d H9) z.1, z.2⟩⟩
  · exact ⟨⟨_, _, _, _, _, _, _, _, rfl⟩, cutH d H10, cut_stab d H10, cut_ex d H10, (D9.same e10).mono (by omega)⟩

end
end BJL

namespace BJL
open PySem PySem.Spec PyProof.Rows L2 BJ
section
variable {P : Program} {w : World} {K : PySem.W.Frag} {mg : Str → Option Value} {base : Heap} {a : Adr}
open Evl
def sp_law (K : PySem.W.Frag) : Sp := fun vs H Q _ => ∃ (a : Addr) (ns : List Int), vs = [.ref a] ∧ Scr K H a (ns.map V.int) ∧ ns.length ≤ 63 ∧ ∀ H', Q (.bl true) H'
theorem cut_scr {d s : Addr} {H : Hp} {xs : List V} (h : Scr K H s xs) (hd : s ≠ d) : SqL K (cutH d H) s xs := by
  rcases h with (h | ⟨o, h⟩) | h
  · exact .inl (.inl (cut_at h hd (fun ps z => nomatch z)))
  · exact .inl (.inr ⟨o, cut_at h hd (fun ps z => nomatch z)⟩)
  · exact (Scr.sq (K := K) (H := cutH d H) (.inr h))
theorem ok_law (T : Txt P K mg a) : CallP P w K mg base 21 (.ref a.law) (sp_law K) := by
  have G__law_begin : CallP P w K mg base 1 (.ref a._law_begin) (spBegin K) := (ok__law_begin T).p
  refine T.d_law.ok sc_law (fun vs H Q E h => ?_) (fun cdv A outer s H vs Q E hr hG h => ?_)
  · obtain ⟨x, ns, rfl, _⟩ := h
    rfl
  · obtain ⟨sc, ns0, rfl, hS, hl, hq⟩ := h
    obtain ⟨t1, p1, k1⟩ := law_if (P := P) (w := w) (mg := mg) (base := base) (outer := outer) (H0 := H) (E := E) T hr hG
    obtain ⟨t2, p2, k2⟩ := law_loop (P := P) (w := w) (mg := mg) (base := base) (outer := outer) (H0 := H) (E := E) T hr hG
    refine ⟨_, pss_cons (ps_set (i := 1) sc_law.nd rfl (Or.inr rfl) (pe_ca G__law_begin (hr.mono (by decide)) hG rfl T.g__law_begin T.k__law_begin (takes_of rfl rfl rfl rfl) (pa_cons (pv 0) pa_nil))) (pss_cons p1 (pss_cons p2 (pss_one (ps_ret pe_bl)))), ?_⟩
    refine ⟨_, rfl, sc, ns0, rfl, hS, hl, fun d c H1 x1 nd nc D1 => k1 _ _ H1 fun H3 e3 => ?_⟩
    have x4 : Ex H H3 := Ex.trans x1 e3
    have D4 := D1.same e3
    have hsc : SqL K (cutH d H3) sc (ns0.map V.int) := by
      rcases hS with (h | ⟨o, h⟩) | h
      · exact cut_scr (.inl (.inl (x4 _ _ h))) (ne_of_none h nd)
      · exact cut_scr (.inl (.inr ⟨o, x4 _ _ h⟩)) (ne_of_none h nd)
      · exact Scr.sq (K := K) (H := cutH d H3) (.inr h)
    exact k2 _ _ H3 (cutH d H3) sc d c (ns0 ++ [0]) (ns0.map V.int) ⟨_, _, _, _, _, _, _, _, rfl⟩ ⟨cut_stab d H3, cut_ex d H3, D4⟩ hsc (by rw [List.length_map]; exact hl) fun σ' H' => hq H'
theorem law_start {K : Params → PySem.W.Frag} (w : World) (H : Hp) (a : Addr) (ns : List Int) (hl : ns.length ≤ 63) (_hb : ∀ z ∈ ns, Builtin.Int.intBits z ≤ 1048576) (h : Scr (K w.params) H a (ns.map V.int)) :
  sp_law (K w.params) [.ref a] H (fun v _ => v = .bl true) fun _ _ _ => False := ⟨a, ns, rfl, h, hl, fun _ => rfl⟩
theorem law_use {P : Program} {w : World} {K : PySem.W.Frag} {mg : Str → Option Value} {base : Heap} {a : Adr} {fa : Addr} (T : Txt P K mg a) (h : mg "law" = some (.ref fa)) : CallP P w K mg base 30 (.ref fa) (sp_law K) := by
  have q := T.g_law.symm.trans h
  cases q
  exact (ok_law T).mono (by decide)

end
end BJL
namespace BJL
open PySem PySem.Spec PyProof.Rows L2 BJ
theorem all_mk {P : Program} {K : PySem.W.Frag} {h : Heap} {mg : Str → Option Value} {Ais_integer Ais_whole_atom Ais_text Ais_key Ais_octet Acheck_key ANode_shape ANode_children AOctets___init__ AOctets_shape AOctets_numbers Aascending ABag___init__ ABag_of ABag_shape ABag_members ABag_children A_law_begin A_law_mixed A_law_next A_law_atom A_law_tuple A_law_is_octets A_law_octets_right A_law_is_key A_law_due A_law_bag A_law_bag_right A_law_word Alaw AJarError AInvalidNumbers AInvalidKey AStateError AKeyTaken AMissingError ANode AOctets ABag AInvalidNumbers_i AInvalidNumbers_c AInvalidNumbers_d AInvalidKey_i AInvalidKey_c AInvalidKey_d AKeyTaken_i AKeyTaken_c AKeyTaken_d ANode_shape_p AOctets_shape_p AOctets_numbers_p ABag_of_p ABag_shape_p ABag_members_p AOctets___init___dv : Addr} (X : K.In h) (G : h.Ns mainGlobals mg)
  {rest_Node_shape : List Value}
  {rest_Octets_shape : List Value}
  {rest_Octets_numbers : List Value}
  {rest_Bag_shape : List Value}
  {rest_Bag_of : List Value}
  {rest_Bag_members : List Value}
  {t_MOST_INTEGER : Tok}
  {t_MOST_CHARACTERS : Tok}
  {t_MOST_NUMBERS : Tok}
  {od_is_integer an_is_integer : Option Addr} {sl_is_integer : Array (Option Value)} {oc_is_integer kV_is_integer dc_is_integer pm_is_integer cd_is_integer ct_is_integer : Value}
  {od_is_whole_atom an_is_whole_atom : Option Addr} {sl_is_whole_atom : Array (Option Value)} {oc_is_whole_atom kV_is_whole_atom dc_is_whole_atom pm_is_whole_atom cd_is_whole_atom ct_is_whole_atom : Value}
  {od_is_text an_is_text : Option Addr} {sl_is_text : Array (Option Value)} {oc_is_text kV_is_text dc_is_text pm_is_text cd_is_text ct_is_text : Value}
  {od_is_key an_is_key : Option Addr} {sl_is_key : Array (Option Value)} {oc_is_key kV_is_key dc_is_key pm_is_key cd_is_key ct_is_key : Value}
  {od_is_octet an_is_octet : Option Addr} {sl_is_octet : Array (Option Value)} {oc_is_octet kV_is_octet dc_is_octet pm_is_octet cd_is_octet ct_is_octet : Value}
  {od_check_key an_check_key : Option Addr} {sl_check_key : Array (Option Value)} {oc_check_key kV_check_key dc_check_key pm_check_key cd_check_key ct_check_key : Value}
  {od_Node_shape an_Node_shape : Option Addr} {sl_Node_shape : Array (Option Value)} {oc_Node_shape kV_Node_shape dc_Node_shape pm_Node_shape cd_Node_shape ct_Node_shape : Value}
  {od_Node_children an_Node_children : Option Addr} {sl_Node_children : Array (Option Value)} {oc_Node_children kV_Node_children dc_Node_children pm_Node_children cd_Node_children ct_Node_children : Value}
  {od_Octets___init__ an_Octets___init__ : Option Addr} {sl_Octets___init__ : Array (Option Value)} {oc_Octets___init__ kV_Octets___init__ dc_Octets___init__ pm_Octets___init__ cd_Octets___init__ ct_Octets___init__ : Value}
  {T_Octets___init__ : Addr} {clT_Octets___init__ : Value} {diT_Octets___init__ diV_Octets___init__ : Option Addr} {nT_Octets___init__ nV_Octets___init__ : Nat} {slT_Octets___init__ slV_Octets___init__ : Array (Option Value)}
  {od_Octets_shape an_Octets_shape : Option Addr} {sl_Octets_shape : Array (Option Value)} {oc_Octets_shape kV_Octets_shape dc_Octets_shape pm_Octets_shape cd_Octets_shape ct_Octets_shape : Value}
  {od_Octets_numbers an_Octets_numbers : Option Addr} {sl_Octets_numbers : Array (Option Value)} {oc_Octets_numbers kV_Octets_numbers dc_Octets_numbers pm_Octets_numbers cd_Octets_numbers ct_Octets_numbers : Value}
  {od_ascending an_ascending : Option Addr} {sl_ascending : Array (Option Value)} {oc_ascending kV_ascending dc_ascending pm_ascending cd_ascending ct_ascending : Value}
  {od_Bag___init__ an_Bag___init__ : Option Addr} {sl_Bag___init__ : Array (Option Value)} {oc_Bag___init__ kV_Bag___init__ dc_Bag___init__ pm_Bag___init__ cd_Bag___init__ ct_Bag___init__ : Value}
  {od_Bag_of an_Bag_of : Option Addr} {sl_Bag_of : Array (Option Value)} {oc_Bag_of kV_Bag_of dc_Bag_of pm_Bag_of cd_Bag_of ct_Bag_of : Value}
  {od_Bag_shape an_Bag_shape : Option Addr} {sl_Bag_shape : Array (Option Value)} {oc_Bag_shape kV_Bag_shape dc_Bag_shape pm_Bag_shape cd_Bag_shape ct_Bag_shape : Value}
  {od_Bag_members an_Bag_members : Option Addr} {sl_Bag_members : Array (Option Value)} {oc_Bag_members kV_Bag_members dc_Bag_members pm_Bag_members cd_Bag_members ct_Bag_members : Value}
  {od_Bag_children an_Bag_children : Option Addr} {sl_Bag_children : Array (Option Value)} {oc_Bag_children kV_Bag_children dc_Bag_children pm_Bag_children cd_Bag_children ct_Bag_children : Value}
  {od__law_begin an__law_begin : Option Addr} {sl__law_begin : Array (Option Value)} {oc__law_begin kV__law_begin dc__law_begin pm__law_begin cd__law_begin ct__law_begin : Value}
  {od__law_mixed an__law_mixed : Option Addr} {sl__law_mixed : Array (Option Value)} {oc__law_mixed kV__law_mixed dc__law_mixed pm__law_mixed cd__law_mixed ct__law_mixed : Value}
  {od__law_next an__law_next : Option Addr} {sl__law_next : Array (Option Value)} {oc__law_next kV__law_next dc__law_next pm__law_next cd__law_next ct__law_next : Value}
  {od__law_atom an__law_atom : Option Addr} {sl__law_atom : Array (Option Value)} {oc__law_atom kV__law_atom dc__law_atom pm__law_atom cd__law_atom ct__law_atom : Value}
  {od__law_tuple an__law_tuple : Option Addr} {sl__law_tuple : Array (Option Value)} {oc__law_tuple kV__law_tuple dc__law_tuple pm__law_tuple cd__law_tuple ct__law_tuple : Value}
  {od__law_is_octets an__law_is_octets : Option Addr} {sl__law_is_octets : Array (Option Value)} {oc__law_is_octets kV__law_is_octets dc__law_is_octets pm__law_is_octets cd__law_is_octets ct__law_is_octets : Value}
  {od__law_octets_right an__law_octets_right : Option Addr} {sl__law_octets_right : Array (Option Value)} {oc__law_octets_right kV__law_octets_right dc__law_octets_right pm__law_octets_right cd__law_octets_right ct__law_octets_right : Value}
  {od__law_is_key an__law_is_key : Option Addr} {sl__law_is_key : Array (Option Value)} {oc__law_is_key kV__law_is_key dc__law_is_key pm__law_is_key cd__law_is_key ct__law_is_key : Value}
  {od__law_due an__law_due : Option Addr} {sl__law_due : Array (Option Value)} {oc__law_due kV__law_due dc__law_due pm__law_due cd__law_due ct__law_due : Value}
  {od__law_bag an__law_bag : Option Addr} {sl__law_bag : Array (Option Value)} {oc__law_bag kV__law_bag dc__law_bag pm__law_bag cd__law_bag ct__law_bag : Value}
  {od__law_bag_right an__law_bag_right : Option Addr} {sl__law_bag_right : Array (Option Value)} {oc__law_bag_right kV__law_bag_right dc__law_bag_right pm__law_bag_right cd__law_bag_right ct__law_bag_right : Value}
  {od__law_word an__law_word : Option Addr} {sl__law_word : Array (Option Value)} {oc__law_word kV__law_word dc__law_word pm__law_word cd__law_word ct__law_word : Value}
  {od_law an_law : Option Addr} {sl_law : Array (Option Value)} {oc_law kV_law dc_law pm_law cd_law ct_law : Value}
  {od_InvalidNumbers an_InvalidNumbers : Option Addr} {sl_InvalidNumbers : Array (Option Value)} {oc_InvalidNumbers kV_InvalidNumbers dc_InvalidNumbers pm_InvalidNumbers ct_InvalidNumbers : Value} {cl_InvalidNumbers ccl_InvalidNumbers : Value} {cld_InvalidNumbers cdd_InvalidNumbers : Option Addr} {csl_InvalidNumbers ccs_InvalidNumbers : Array (Option Value)} {vs_InvalidNumbers : Array Value}
  {tf_InvalidNumbers : Tok}
  {od_InvalidKey an_InvalidKey : Option Addr} {sl_InvalidKey : Array (Option Value)} {oc_InvalidKey kV_InvalidKey dc_InvalidKey pm_InvalidKey ct_InvalidKey : Value} {cl_InvalidKey ccl_InvalidKey : Value} {cld_InvalidKey cdd_InvalidKey : Option Addr} {csl_InvalidKey ccs_InvalidKey : Array (Option Value)} {vs_InvalidKey : Array Value}
  {tf_InvalidKey : Tok}
  {od_KeyTaken an_KeyTaken : Option Addr} {sl_KeyTaken : Array (Option Value)} {oc_KeyTaken kV_KeyTaken dc_KeyTaken pm_KeyTaken ct_KeyTaken : Value} {cl_KeyTaken ccl_KeyTaken : Value} {cld_KeyTaken cdd_KeyTaken : Option Addr} {csl_KeyTaken ccs_KeyTaken : Array (Option Value)} {vs_KeyTaken : Array Value}
  {tf_KeyTaken : Tok}
  (za_Node : PySem.W.nsIn K mainGlobals "Node" = some (some (.ref ANode)))
  (zc1_Node : PySem.W.plainGet K ANode Str.empty = true)
  (zc2_Node : PySem.W.hasDictIn K ANode = true)
  (zc3_Node : PySem.W.plainOver K ANode = true)
  (zc4_Node : PySem.W.findIn K (.ref ANode) "__setattr__" = some (some (.builtin "object.__setattr__")))
  (zk_Node : PySem.W.keepIn K (.ref ANode) = true)
  (ze1_Node : PySem.W.mroIn K ANode (.type "object") = some true)
  (ze2_Node : PySem.W.findIn K (.ref ANode) "__eq__" = some (some (.builtin "object.__eq__")))
  (zt_Node : PySem.W.typeIn K (.ref ANode) = some (.type "type"))
  (zp1_Node_shape : PySem.W.findIn K (.ref ANode) "shape" = some (some (.ref ANode_shape_p)))
  (zp2_Node_shape : PySem.W.specialIn K (.ref ANode_shape_p) "__get__" = some (some (.builtin "property.__get__")))
  (zp3_Node_shape : PySem.W.takesIn K (.ref ANode_shape_p) = some true)
  (zp4_Node_shape : PySem.W.recIn K ANode_shape_p "property" = some (.ref ANode_shape :: rest_Node_shape))
  (zp1_Node_children : PySem.W.findIn K (.ref ANode) "children" = some (some (.ref ANode_children)))
  (zp2_Node_children : PySem.W.isFn K (.ref ANode_children) = true)
  (zp3_Node_children : PySem.W.keepIn K (.ref ANode_children) = true)
  (za_Octets : PySem.W.nsIn K mainGlobals "Octets" = some (some (.ref AOctets)))
  (zc1_Octets : PySem.W.plainGet K AOctets Str.empty = true)
  (zc2_Octets : PySem.W.hasDictIn K AOctets = true)
  (zc3_Octets : PySem.W.plainOver K AOctets = true)
  (zc4_Octets : PySem.W.findIn K (.ref AOctets) "__setattr__" = some (some (.builtin "object.__setattr__")))
  (zk_Octets : PySem.W.keepIn K (.ref AOctets) = true)
  (ze1_Octets : PySem.W.mroIn K AOctets (.type "object") = some true)
  (ze2_Octets : PySem.W.findIn K (.ref AOctets) "__eq__" = some (some (.builtin "object.__eq__")))
  (zt_Octets : PySem.W.typeIn K (.ref AOctets) = some (.type "type"))
  (zp1_Octets_shape : PySem.W.findIn K (.ref AOctets) "shape" = some (some (.ref AOctets_shape_p)))
  (zp2_Octets_shape : PySem.W.specialIn K (.ref AOctets_shape_p) "__get__" = some (some (.builtin "property.__get__")))
  (zp3_Octets_shape : PySem.W.takesIn K (.ref AOctets_shape_p) = some true)
  (zp4_Octets_shape : PySem.W.recIn K AOctets_shape_p "property" = some (.ref AOctets_shape :: rest_Octets_shape))
  (zp1_Octets_children : PySem.W.findIn K (.ref AOctets) "children" = some (some (.ref ANode_children)))
  (zp2_Octets_children : PySem.W.isFn K (.ref ANode_children) = true)
  (zp3_Octets_children : PySem.W.keepIn K (.ref ANode_children) = true)
  (zm1_Octets : PySem.W.makesIn K AOctets = true)
  (zm2_Octets : PySem.W.findIn K (.ref AOctets) "__init__" = some (some (.ref AOctets___init__)))
  (zm3_Octets : PySem.W.isFn K (.ref AOctets___init__) = true)
  (zp1_Octets_numbers : PySem.W.findIn K (.ref AOctets) "numbers" = some (some (.ref AOctets_numbers_p)))
  (zp2_Octets_numbers : PySem.W.specialIn K (.ref AOctets_numbers_p) "__get__" = some (some (.builtin "property.__get__")))
  (zp3_Octets_numbers : PySem.W.takesIn K (.ref AOctets_numbers_p) = some true)
  (zp4_Octets_numbers : PySem.W.recIn K AOctets_numbers_p "property" = some (.ref AOctets_numbers :: rest_Octets_numbers))
  (zn_Octets_row : PySem.W.findIn K (.ref AOctets) "row" = some none)
  (za_Bag : PySem.W.nsIn K mainGlobals "Bag" = some (some (.ref ABag)))
  (zc1_Bag : PySem.W.plainGet K ABag Str.empty = true)
  (zc2_Bag : PySem.W.hasDictIn K ABag = true)
  (zc3_Bag : PySem.W.plainOver K ABag = true)
  (zc4_Bag : PySem.W.findIn K (.ref ABag) "__setattr__" = some (some (.builtin "object.__setattr__")))
  (zk_Bag : PySem.W.keepIn K (.ref ABag) = true)
  (ze1_Bag : PySem.W.mroIn K ABag (.type "object") = some true)
  (ze2_Bag : PySem.W.findIn K (.ref ABag) "__eq__" = some (some (.builtin "object.__eq__")))
  (zt_Bag : PySem.W.typeIn K (.ref ABag) = some (.type "type"))
  (zr1_Bag : PySem.W.readsIn K ABag (.type "type") = true)
  (zr2_Bag : PySem.W.specialIn K (.ref ABag) "__getattribute__" = some (some (.builtin "type.__getattribute__")))
  (zp1_Bag_shape : PySem.W.findIn K (.ref ABag) "shape" = some (some (.ref ABag_shape_p)))
  (zp2_Bag_shape : PySem.W.specialIn K (.ref ABag_shape_p) "__get__" = some (some (.builtin "property.__get__")))
  (zp3_Bag_shape : PySem.W.takesIn K (.ref ABag_shape_p) = some true)
  (zp4_Bag_shape : PySem.W.recIn K ABag_shape_p "property" = some (.ref ABag_shape :: rest_Bag_shape))
  (zp1_Bag_children : PySem.W.findIn K (.ref ABag) "children" = some (some (.ref ABag_children)))
  (zp2_Bag_children : PySem.W.isFn K (.ref ABag_children) = true)
  (zp3_Bag_children : PySem.W.keepIn K (.ref ABag_children) = true)
  (zm1_Bag : PySem.W.makesIn K ABag = true)
  (zm2_Bag : PySem.W.findIn K (.ref ABag) "__init__" = some (some (.ref ABag___init__)))
  (zm3_Bag : PySem.W.isFn K (.ref ABag___init__) = true)
  (zp1_Bag_of : PySem.W.findCls K (.ref ABag) (.type "type") "of" = some (.get (.builtin "classmethod.__get__") (.ref ABag_of_p) .none (.ref ABag)))
  (zp2_Bag_of : PySem.W.recIn K ABag_of_p "classmethod" = some (.ref ABag_of :: rest_Bag_of))
  (zp3_Bag_of : PySem.W.fnIn K ABag_of = true)
  (zp1_Bag_members : PySem.W.findIn K (.ref ABag) "members" = some (some (.ref ABag_members_p)))
  (zp2_Bag_members : PySem.W.specialIn K (.ref ABag_members_p) "__get__" = some (some (.builtin "property.__get__")))
  (zp3_Bag_members : PySem.W.takesIn K (.ref ABag_members_p) = some true)
  (zp4_Bag_members : PySem.W.recIn K ABag_members_p "property" = some (.ref ABag_members :: rest_Bag_members))
  (zn_Bag_kept_keys : PySem.W.findIn K (.ref ABag) "kept_keys" = some none)
  (zb_all : PySem.W.nsIn K mainGlobals "all" = some none)
  (zb_bool : PySem.W.nsIn K mainGlobals "bool" = some none)
  (zb_classmethod : PySem.W.nsIn K mainGlobals "classmethod" = some none)
  (zb_int : PySem.W.nsIn K mainGlobals "int" = some none)
  (zb_isinstance : PySem.W.nsIn K mainGlobals "isinstance" = some none)
  (zb_len : PySem.W.nsIn K mainGlobals "len" = some none)
  (zb_list : PySem.W.nsIn K mainGlobals "list" = some none)
  (zb_min : PySem.W.nsIn K mainGlobals "min" = some none)
  (zb_property : PySem.W.nsIn K mainGlobals "property" = some none)
  (zb_range : PySem.W.nsIn K mainGlobals "range" = some none)
  (zb_repr : PySem.W.nsIn K mainGlobals "repr" = some none)
  (zb_sorted : PySem.W.nsIn K mainGlobals "sorted" = some none)
  (zb_str : PySem.W.nsIn K mainGlobals "str" = some none)
  (zb_tuple : PySem.W.nsIn K mainGlobals "tuple" = some none)
  (zb_super : PySem.W.nsIn K mainGlobals "super" = some none)
  (zc_MOST_INTEGER : PySem.W.nsIn K mainGlobals "MOST_INTEGER" = some (some (.int (1000000000000000000000000000000000000000000000000000000000000000000000000000000000000000000000000000000000000000000000000000000000000000000000000000000000000000000000000000000000000000000000000000000000000000000000000000000000000000000000000000000000000000000000000000000000000000000000000000000000000) t_MOST_INTEGER)))
  (zc_MOST_CHARACTERS : PySem.W.nsIn K mainGlobals "MOST_CHARACTERS" = some (some (.int (2000) t_MOST_CHARACTERS)))
  (zc_MOST_NUMBERS : PySem.W.nsIn K mainGlobals "MOST_NUMBERS" = some (some (.int (2000) t_MOST_NUMBERS)))
  (za_is_integer : PySem.W.nsIn K mainGlobals "is_integer" = some (some (.ref Ais_integer)))
  (zl_is_integer : K.lookup Ais_integer = some ⟨oc_is_integer, od_is_integer, .func (PySem.W.fnOf "is_integer" "is_integer" (defArgs s_is_integer) (defBody s_is_integer) (defScope s_is_integer) .none kV_is_integer dc_is_integer pm_is_integer an_is_integer cd_is_integer ct_is_integer), sl_is_integer⟩)
  (zd_is_integer : PySem.W.codeIn K cd_is_integer "is_integer" = true)
  (zk_is_integer : PySem.W.keepIn K (.ref Ais_integer) = true)
  (za_is_whole_atom : PySem.W.nsIn K mainGlobals "is_whole_atom" = some (some (.ref Ais_whole_atom)))
  (zl_is_whole_atom : K.lookup Ais_whole_atom = some ⟨oc_is_whole_atom, od_is_whole_atom, .func (PySem.W.fnOf "is_whole_atom" "is_whole_atom" (defArgs s_is_whole_atom) (defBody s_is_whole_atom) (defScope s_is_whole_atom) .none kV_is_whole_atom dc_is_whole_atom pm_is_whole_atom an_is_whole_atom cd_is_whole_atom ct_is_whole_atom), sl_is_whole_atom⟩)
  (zd_is_whole_atom : PySem.W.codeIn K cd_is_whole_atom "is_whole_atom" = true)
  (zk_is_whole_atom : PySem.W.keepIn K (.ref Ais_whole_atom) = true)
  (za_is_text : PySem.W.nsIn K mainGlobals "is_text" = some (some (.ref Ais_text)))
  (zl_is_text : K.lookup Ais_text = some ⟨oc_is_text, od_is_text, .func (PySem.W.fnOf "is_text" "is_text" (defArgs s_is_text) (defBody s_is_text) (defScope s_is_text) .none kV_is_text dc_is_text pm_is_text an_is_text cd_is_text ct_is_text), sl_is_text⟩)
  (zd_is_text : PySem.W.codeIn K cd_is_text "is_text" = true)
  (zk_is_text : PySem.W.keepIn K (.ref Ais_text) = true)
  (za_is_key : PySem.W.nsIn K mainGlobals "is_key" = some (some (.ref Ais_key)))
  (zl_is_key : K.lookup Ais_key = some ⟨oc_is_key, od_is_key, .func (PySem.W.fnOf "is_key" "is_key" (defArgs s_is_key) (defBody s_is_key) (defScope s_is_key) .none kV_is_key dc_is_key pm_is_key an_is_key cd_is_key ct_is_key), sl_is_key⟩)
  (zd_is_key : PySem.W.codeIn K cd_is_key "is_key" = true)
  (zk_is_key : PySem.W.keepIn K (.ref Ais_key) = true)
  (za_is_octet : PySem.W.nsIn K mainGlobals "is_octet" = some (some (.ref Ais_octet)))
  (zl_is_octet : K.lookup Ais_octet = some ⟨oc_is_octet, od_is_octet, .func (PySem.W.fnOf "is_octet" "is_octet" (defArgs s_is_octet) (defBody s_is_octet) (defScope s_is_octet) .none kV_is_octet dc_is_octet pm_is_octet an_is_octet cd_is_octet ct_is_octet), sl_is_octet⟩)
  (zd_is_octet : PySem.W.codeIn K cd_is_octet "is_octet" = true)
  (zk_is_octet : PySem.W.keepIn K (.ref Ais_octet) = true)
  (za_check_key : PySem.W.nsIn K mainGlobals "check_key" = some (some (.ref Acheck_key)))
  (zl_check_key : K.lookup Acheck_key = some ⟨oc_check_key, od_check_key, .func (PySem.W.fnOf "check_key" "check_key" (defArgs s_check_key) (defBody s_check_key) (defScope s_check_key) .none kV_check_key dc_check_key pm_check_key an_check_key cd_check_key ct_check_key), sl_check_key⟩)
  (zd_check_key : PySem.W.codeIn K cd_check_key "check_key" = true)
  (zk_check_key : PySem.W.keepIn K (.ref Acheck_key) = true)
  (zl_Node_shape : K.lookup ANode_shape = some ⟨oc_Node_shape, od_Node_shape, .func (PySem.W.fnOf "shape" "Node.shape" (defArgs s_Node_shape) (defBody s_Node_shape) (defScope s_Node_shape) .none kV_Node_shape dc_Node_shape pm_Node_shape an_Node_shape cd_Node_shape ct_Node_shape), sl_Node_shape⟩)
  (zd_Node_shape : PySem.W.codeIn K cd_Node_shape "Node.shape" = true)
  (zk_Node_shape : PySem.W.keepIn K (.ref ANode_shape) = true)
  (zl_Node_children : K.lookup ANode_children = some ⟨oc_Node_children, od_Node_children, .func (PySem.W.fnOf "children" "Node.children" (defArgs s_Node_children) (defBody s_Node_children) (defScope s_Node_children) .none kV_Node_children dc_Node_children pm_Node_children an_Node_children cd_Node_children ct_Node_children), sl_Node_children⟩)
  (zd_Node_children : PySem.W.codeIn K cd_Node_children "Node.children" = true)
  (zk_Node_children : PySem.W.keepIn K (.ref ANode_children) = true)
  (zl_Octets___init__ : K.lookup AOctets___init__ = some ⟨oc_Octets___init__, od_Octets___init__, .func (PySem.W.fnOf "__init__" "Octets.__init__" (defArgs s_Octets___init__) (defBody s_Octets___init__) (defScope s_Octets___init__) (.ref T_Octets___init__) kV_Octets___init__ dc_Octets___init__ pm_Octets___init__ an_Octets___init__ cd_Octets___init__ ct_Octets___init__), sl_Octets___init__⟩)
  (zd_Octets___init__ : PySem.W.codeIn K cd_Octets___init__ "Octets.__init__" = true)
  (zk_Octets___init__ : PySem.W.keepIn K (.ref AOctets___init__) = true)
  (zT_Octets___init__ : K.lookup T_Octets___init__ = some ⟨clT_Octets___init__, diT_Octets___init__, .seq #[.ref AOctets___init___dv] nT_Octets___init__, slT_Octets___init__⟩)
  (zV_Octets___init__ : K.lookup AOctets___init___dv = some ⟨.type "tuple", diV_Octets___init__, .seq #[] nV_Octets___init__, slV_Octets___init__⟩)
  (zl_Octets_shape : K.lookup AOctets_shape = some ⟨oc_Octets_shape, od_Octets_shape, .func (PySem.W.fnOf "shape" "Octets.shape" (defArgs s_Octets_shape) (defBody s_Octets_shape) (defScope s_Octets_shape) .none kV_Octets_shape dc_Octets_shape pm_Octets_shape an_Octets_shape cd_Octets_shape ct_Octets_shape), sl_Octets_shape⟩)
  (zd_Octets_shape : PySem.W.codeIn K cd_Octets_shape "Octets.shape" = true)
  (zk_Octets_shape : PySem.W.keepIn K (.ref AOctets_shape) = true)
  (zl_Octets_numbers : K.lookup AOctets_numbers = some ⟨oc_Octets_numbers, od_Octets_numbers, .func (PySem.W.fnOf "numbers" "Octets.numbers" (defArgs s_Octets_numbers) (defBody s_Octets_numbers) (defScope s_Octets_numbers) .none kV_Octets_numbers dc_Octets_numbers pm_Octets_numbers an_Octets_numbers cd_Octets_numbers ct_Octets_numbers), sl_Octets_numbers⟩)
  (zd_Octets_numbers : PySem.W.codeIn K cd_Octets_numbers "Octets.numbers" = true)
  (zk_Octets_numbers : PySem.W.keepIn K (.ref AOctets_numbers) = true)
  (za_ascending : PySem.W.nsIn K mainGlobals "ascending" = some (some (.ref Aascending)))
  (zl_ascending : K.lookup Aascending = some ⟨oc_ascending, od_ascending, .func (PySem.W.fnOf "ascending" "ascending" (defArgs s_ascending) (defBody s_ascending) (defScope s_ascending) .none kV_ascending dc_ascending pm_ascending an_ascending cd_ascending ct_ascending), sl_ascending⟩)
  (zd_ascending : PySem.W.codeIn K cd_ascending "ascending" = true)
  (zk_ascending : PySem.W.keepIn K (.ref Aascending) = true)
  (zl_Bag___init__ : K.lookup ABag___init__ = some ⟨oc_Bag___init__, od_Bag___init__, .func (PySem.W.fnOf "__init__" "Bag.__init__" (defArgs s_Bag___init__) (defBody s_Bag___init__) (defScope s_Bag___init__) .none kV_Bag___init__ dc_Bag___init__ pm_Bag___init__ an_Bag___init__ cd_Bag___init__ ct_Bag___init__), sl_Bag___init__⟩)
  (zd_Bag___init__ : PySem.W.codeIn K cd_Bag___init__ "Bag.__init__" = true)
  (zk_Bag___init__ : PySem.W.keepIn K (.ref ABag___init__) = true)
  (zl_Bag_of : K.lookup ABag_of = some ⟨oc_Bag_of, od_Bag_of, .func (PySem.W.fnOf "of" "Bag.of" (defArgs s_Bag_of) (defBody s_Bag_of) (defScope s_Bag_of) .none kV_Bag_of dc_Bag_of pm_Bag_of an_Bag_of cd_Bag_of ct_Bag_of), sl_Bag_of⟩)
  (zd_Bag_of : PySem.W.codeIn K cd_Bag_of "Bag.of" = true)
  (zk_Bag_of : PySem.W.keepIn K (.ref ABag_of) = true)
  (zl_Bag_shape : K.lookup ABag_shape = some ⟨oc_Bag_shape, od_Bag_shape, .func (PySem.W.fnOf "shape" "Bag.shape" (defArgs s_Bag_shape) (defBody s_Bag_shape) (defScope s_Bag_shape) .none kV_Bag_shape dc_Bag_shape pm_Bag_shape an_Bag_shape cd_Bag_shape ct_Bag_shape), sl_Bag_shape⟩)
  (zd_Bag_shape : PySem.W.codeIn K cd_Bag_shape "Bag.shape" = true)
  (zk_Bag_shape : PySem.W.keepIn K (.ref ABag_shape) = true)
  (zl_Bag_members : K.lookup ABag_members = some ⟨oc_Bag_members, od_Bag_members, .func (PySem.W.fnOf "members" "Bag.members" (defArgs s_Bag_members) (defBody s_Bag_members) (defScope s_Bag_members) .none kV_Bag_members dc_Bag_members pm_Bag_members an_Bag_members cd_Bag_members ct_Bag_members), sl_Bag_members⟩)
  (zd_Bag_members : PySem.W.codeIn K cd_Bag_members "Bag.members" = true)
  (zk_Bag_members : PySem.W.keepIn K (.ref ABag_members) = true)
  (zl_Bag_children : K.lookup ABag_children = some ⟨oc_Bag_children, od_Bag_children, .func (PySem.W.fnOf "children" "Bag.children" (defArgs s_Bag_children) (defBody s_Bag_children) (defScope s_Bag_children) .none kV_Bag_children dc_Bag_children pm_Bag_children an_Bag_children cd_Bag_children ct_Bag_children), sl_Bag_children⟩)
  (zd_Bag_children : PySem.W.codeIn K cd_Bag_children "Bag.children" = true)
  (zk_Bag_children : PySem.W.keepIn K (.ref ABag_children) = true)
  (za__law_begin : PySem.W.nsIn K mainGlobals "_law_begin" = some (some (.ref A_law_begin)))
  (zl__law_begin : K.lookup A_law_begin = some ⟨oc__law_begin, od__law_begin, .func (PySem.W.fnOf "_law_begin" "_law_begin" (defArgs s__law_begin) (defBody s__law_begin) (defScope s__law_begin) .none kV__law_begin dc__law_begin pm__law_begin an__law_begin cd__law_begin ct__law_begin), sl__law_begin⟩)
  (zd__law_begin : PySem.W.codeIn K cd__law_begin "_law_begin" = true)
  (zk__law_begin : PySem.W.keepIn K (.ref A_law_begin) = true)
  (za__law_mixed : PySem.W.nsIn K mainGlobals "_law_mixed" = some (some (.ref A_law_mixed)))
  (zl__law_mixed : K.lookup A_law_mixed = some ⟨oc__law_mixed, od__law_mixed, .func (PySem.W.fnOf "_law_mixed" "_law_mixed" (defArgs s__law_mixed) (defBody s__law_mixed) (defScope s__law_mixed) .none kV__law_mixed dc__law_mixed pm__law_mixed an__law_mixed cd__law_mixed ct__law_mixed), sl__law_mixed⟩)
  (zd__law_mixed : PySem.W.codeIn K cd__law_mixed "_law_mixed" = true)
  (zk__law_mixed : PySem.W.keepIn K (.ref A_law_mixed) = true)
  (za__law_next : PySem.W.nsIn K mainGlobals "_law_next" = some (some (.ref A_law_next)))
  (zl__law_next : K.lookup A_law_next = some ⟨oc__law_next, od__law_next, .func (PySem.W.fnOf "_law_next" "_law_next" (defArgs s__law_next) (defBody s__law_next) (defScope s__law_next) .none kV__law_next dc__law_next pm__law_next an__law_next cd__law_next ct__law_next), sl__law_next⟩)
  (zd__law_next : PySem.W.codeIn K cd__law_next "_law_next" = true)
  (zk__law_next : PySem.W.keepIn K (.ref A_law_next) = true)
  (za__law_atom : PySem.W.nsIn K mainGlobals "_law_atom" = some (some (.ref A_law_atom)))
  (zl__law_atom : K.lookup A_law_atom = some ⟨oc__law_atom, od__law_atom, .func (PySem.W.fnOf "_law_atom" "_law_atom" (defArgs s__law_atom) (defBody s__law_atom) (defScope s__law_atom) .none kV__law_atom dc__law_atom pm__law_atom an__law_atom cd__law_atom ct__law_atom), sl__law_atom⟩)
  (zd__law_atom : PySem.W.codeIn K cd__law_atom "_law_atom" = true)
  (zk__law_atom : PySem.W.keepIn K (.ref A_law_atom) = true)
  (za__law_tuple : PySem.W.nsIn K mainGlobals "_law_tuple" = some (some (.ref A_law_tuple)))
  (zl__law_tuple : K.lookup A_law_tuple = some ⟨oc__law_tuple, od__law_tuple, .func (PySem.W.fnOf "_law_tuple" "_law_tuple" (defArgs s__law_tuple) (defBody s__law_tuple) (defScope s__law_tuple) .none kV__law_tuple dc__law_tuple pm__law_tuple an__law_tuple cd__law_tuple ct__law_tuple), sl__law_tuple⟩)
  (zd__law_tuple : PySem.W.codeIn K cd__law_tuple "_law_tuple" = true)
  (zk__law_tuple : PySem.W.keepIn K (.ref A_law_tuple) = true)
  (za__law_is_octets : PySem.W.nsIn K mainGlobals "_law_is_octets" = some (some (.ref A_law_is_octets)))
  (zl__law_is_octets : K.lookup A_law_is_octets = some ⟨oc__law_is_octets, od__law_is_octets, .func (PySem.W.fnOf "_law_is_octets" "_law_is_octets" (defArgs s__law_is_octets) (defBody s__law_is_octets) (defScope s__law_is_octets) .none kV__law_is_octets dc__law_is_octets pm__law_is_octets an__law_is_octets cd__law_is_octets ct__law_is_octets), sl__law_is_octets⟩)
  (zd__law_is_octets : PySem.W.codeIn K cd__law_is_octets "_law_is_octets" = true)
  (zk__law_is_octets : PySem.W.keepIn K (.ref A_law_is_octets) = true)
  (za__law_octets_right : PySem.W.nsIn K mainGlobals "_law_octets_right" = some (some (.ref A_law_octets_right)))
  (zl__law_octets_right : K.lookup A_law_octets_right = some ⟨oc__law_octets_right, od__law_octets_right, .func (PySem.W.fnOf "_law_octets_right" "_law_octets_right" (defArgs s__law_octets_right) (defBody s__law_octets_right) (defScope s__law_octets_right) .none kV__law_octets_right dc__law_octets_right pm__law_octets_right an__law_octets_right cd__law_octets_right ct__law_octets_right), sl__law_octets_right⟩)
  (zd__law_octets_right : PySem.W.codeIn K cd__law_octets_right "_law_octets_right" = true)
  (zk__law_octets_right : PySem.W.keepIn K (.ref A_law_octets_right) = true)
  (za__law_is_key : PySem.W.nsIn K mainGlobals "_law_is_key" = some (some (.ref A_law_is_key)))
  (zl__law_is_key : K.lookup A_law_is_key = some ⟨oc__law_is_key, od__law_is_key, .func (PySem.W.fnOf "_law_is_key" "_law_is_key" (defArgs s__law_is_key) (defBody s__law_is_key) (defScope s__law_is_key) .none kV__law_is_key dc__law_is_key pm__law_is_key an__law_is_key cd__law_is_key ct__law_is_key), sl__law_is_key⟩)
  (zd__law_is_key : PySem.W.codeIn K cd__law_is_key "_law_is_key" = true)
  (zk__law_is_key : PySem.W.keepIn K (.ref A_law_is_key) = true)
  (za__law_due : PySem.W.nsIn K mainGlobals "_law_due" = some (some (.ref A_law_due)))
  (zl__law_due : K.lookup A_law_due = some ⟨oc__law_due, od__law_due, .func (PySem.W.fnOf "_law_due" "_law_due" (defArgs s__law_due) (defBody s__law_due) (defScope s__law_due) .none kV__law_due dc__law_due pm__law_due an__law_due cd__law_due ct__law_due), sl__law_due⟩)
  (zd__law_due : PySem.W.codeIn K cd__law_due "_law_due" = true)
  (zk__law_due : PySem.W.keepIn K (.ref A_law_due) = true)
  (za__law_bag : PySem.W.nsIn K mainGlobals "_law_bag" = some (some (.ref A_law_bag)))
  (zl__law_bag : K.lookup A_law_bag = some ⟨oc__law_bag, od__law_bag, .func (PySem.W.fnOf "_law_bag" "_law_bag" (defArgs s__law_bag) (defBody s__law_bag) (defScope s__law_bag) .none kV__law_bag dc__law_bag pm__law_bag an__law_bag cd__law_bag ct__law_bag), sl__law_bag⟩)
  (zd__law_bag : PySem.W.codeIn K cd__law_bag "_law_bag" = true)
  (zk__law_bag : PySem.W.keepIn K (.ref A_law_bag) = true)
  (za__law_bag_right : PySem.W.nsIn K mainGlobals "_law_bag_right" = some (some (.ref A_law_bag_right)))
  (zl__law_bag_right : K.lookup A_law_bag_right = some ⟨oc__law_bag_right, od__law_bag_right, .func (PySem.W.fnOf "_law_bag_right" "_law_bag_right" (defArgs s__law_bag_right) (defBody s__law_bag_right) (defScope s__law_bag_right) .none kV__law_bag_right dc__law_bag_right pm__law_bag_right an__law_bag_right cd__law_bag_right ct__law_bag_right), sl__law_bag_right⟩)
  (zd__law_bag_right : PySem.W.codeIn K cd__law_bag_right "_law_bag_right" = true)
  (zk__law_bag_right : PySem.W.keepIn K (.ref A_law_bag_right) = true)
  (za__law_word : PySem.W.nsIn K mainGlobals "_law_word" = some (some (.ref A_law_word)))
  (zl__law_word : K.lookup A_law_word = some ⟨oc__law_word, od__law_word, .func (PySem.W.fnOf "_law_word" "_law_word" (defArgs s__law_word) (defBody s__law_word) (defScope s__law_word) .none kV__law_word dc__law_word pm__law_word an__law_word cd__law_word ct__law_word), sl__law_word⟩)
  (zd__law_word : PySem.W.codeIn K cd__law_word "_law_word" = true)
  (zk__law_word : PySem.W.keepIn K (.ref A_law_word) = true)
  (za_law : PySem.W.nsIn K mainGlobals "law" = some (some (.ref Alaw)))
  (zl_law : K.lookup Alaw = some ⟨oc_law, od_law, .func (PySem.W.fnOf "law" "law" (defArgs s_law) (defBody s_law) (defScope s_law) .none kV_law dc_law pm_law an_law cd_law ct_law), sl_law⟩)
  (zd_law : PySem.W.codeIn K cd_law "law" = true)
  (zk_law : PySem.W.keepIn K (.ref Alaw) = true)
  (za_JarError : PySem.W.nsIn K mainGlobals "JarError" = some (some (.ref AJarError)))
  (zt_JarError : PySem.W.typeIn K (.ref AJarError) = some (.type "type"))
  (zx_JarError : PySem.W.subIn K (.ref AJarError) (.type "BaseException") = some true)
  (zh_JarError : PySem.W.hasDictIn K AJarError = true)
  (za_InvalidNumbers : PySem.W.nsIn K mainGlobals "InvalidNumbers" = some (some (.ref AInvalidNumbers)))
  (zt_InvalidNumbers : PySem.W.typeIn K (.ref AInvalidNumbers) = some (.type "type"))
  (zx_InvalidNumbers : PySem.W.subIn K (.ref AInvalidNumbers) (.type "BaseException") = some true)
  (zh_InvalidNumbers : PySem.W.hasDictIn K AInvalidNumbers = true)
  (zi_InvalidNumbers : PySem.W.excInitIn K AInvalidNumbers [.type "ValueError", .type "Exception", .type "BaseException", .type "object"] "ValueError.__new__" = true)
  (zo_InvalidNumbers : PySem.W.excOver K AInvalidNumbers [.type "ValueError", .type "Exception", .type "BaseException", .type "object"] = true)
  (zI_InvalidNumbers : PySem.W.findIn K (.ref AInvalidNumbers) "__init__" = some (some (.ref AInvalidNumbers_i)))
  (zf_InvalidNumbers : PySem.W.isFn K (.ref AInvalidNumbers_i) = true)
  (zl_InvalidNumbers : K.lookup AInvalidNumbers_i = some ⟨oc_InvalidNumbers, od_InvalidNumbers, .func (PySem.W.ksFn "__init__" "InvalidNumbers.__init__" (eiA ((["value"] : List Str).zip [⟨6, 23, 6, 28⟩]) ⟨6, 17, 6, 21⟩) (eiSup "not a tuple of octets" ⟨7, 8, 7, 13⟩ ⟨7, 8, 7, 15⟩ ⟨7, 8, 7, 24⟩ ⟨7, 25, 7, 48⟩ ⟨7, 8, 7, 49⟩ :: setsB [("value", ⟨8, 8, 8, 12⟩, ⟨8, 8, 8, 18⟩, ⟨8, 21, 8, 26⟩, ⟨8, 8, 8, 26⟩)]) (eiS ["value"]) .none kV_InvalidNumbers dc_InvalidNumbers pm_InvalidNumbers an_InvalidNumbers (.ref AInvalidNumbers_d) ct_InvalidNumbers AInvalidNumbers_c), sl_InvalidNumbers⟩)
  (zq_InvalidNumbers : PySem.W.codeIn K (.ref AInvalidNumbers_d) "InvalidNumbers.__init__" = true)
  (zs_InvalidNumbers : PySem.W.ks_superIn K AInvalidNumbers AInvalidNumbers "__init__" = some (some (.builtin "ValueError.__init__")))
  (zB_InvalidNumbers : PySem.W.subIn K (.ref AInvalidNumbers) (.type "ValueError") = some true)
  (zST_InvalidNumbers : PySem.W.nsIn K PySem.cStatics "thirdparty.any" = some none)
  (zA_InvalidNumbers : PySem.W.findIn K (.ref AInvalidNumbers) "__setattr__" = some (some (.builtin "object.__setattr__")))
  (zT_InvalidNumbers_value : PySem.W.takerIn K AInvalidNumbers "value" = some none)
  (zn_InvalidNumbers_value : PySem.W.findIn K (.ref AInvalidNumbers) "value" = some none)
  (zC_InvalidNumbers : K.lookup AInvalidNumbers_c = some ⟨cl_InvalidNumbers, cld_InvalidNumbers, .cell (some (.ref AInvalidNumbers)), csl_InvalidNumbers⟩)
  (zD_InvalidNumbers : K.lookup AInvalidNumbers_d = some ⟨ccl_InvalidNumbers, cdd_InvalidNumbers, .fields vs_InvalidNumbers, ccs_InvalidNumbers⟩)
  (zE_InvalidNumbers : vs_InvalidNumbers[2]? = some (.str P.main.file tf_InvalidNumbers))
  (zM_InvalidNumbers : PySem.W.mroIn K AInvalidNumbers (.ref AInvalidNumbers) = some true)
  (zN_InvalidNumbers : (PySem.W.clsIn K AInvalidNumbers).isSome = true)
  (zP_InvalidNumbers : (P.main.scope.names.lookup ("super" : Str)).isSome = false)
  (zk_InvalidNumbers : PySem.W.keepIn K (.ref AInvalidNumbers) = true)
  (zga_InvalidNumbers : PySem.W.findIn K (.ref AInvalidNumbers) "__getattribute__" = some (some (.builtin "BaseException.__getattribute__")))
  (zgg_InvalidNumbers : PySem.W.findIn K (.ref AInvalidNumbers) "__getattr__" = some none)
  (zcc_InvalidNumbers : PySem.W.findIn K (.ref AInvalidNumbers) "__class__" = some (some (.builtin "object.__class__")))
  (zcg_InvalidNumbers : PySem.W.specialIn K (.builtin "object.__class__") "__get__" = some (some (.builtin "getset_descriptor.__get__")))
  (zct_InvalidNumbers : PySem.W.takesIn K (.builtin "object.__class__") = some true)
  (zmo_InvalidNumbers : PySem.W.mroIn K AInvalidNumbers (.type "object") = some true)
  (za_InvalidKey : PySem.W.nsIn K mainGlobals "InvalidKey" = some (some (.ref AInvalidKey)))
  (zt_InvalidKey : PySem.W.typeIn K (.ref AInvalidKey) = some (.type "type"))
  (zx_InvalidKey : PySem.W.subIn K (.ref AInvalidKey) (.type "BaseException") = some true)
  (zh_InvalidKey : PySem.W.hasDictIn K AInvalidKey = true)
  (zi_InvalidKey : PySem.W.excInitIn K AInvalidKey [.type "ValueError", .type "Exception", .type "BaseException", .type "object"] "ValueError.__new__" = true)
  (zo_InvalidKey : PySem.W.excOver K AInvalidKey [.type "ValueError", .type "Exception", .type "BaseException", .type "object"] = true)
  (zI_InvalidKey : PySem.W.findIn K (.ref AInvalidKey) "__init__" = some (some (.ref AInvalidKey_i)))
  (zf_InvalidKey : PySem.W.isFn K (.ref AInvalidKey_i) = true)
  (zl_InvalidKey : K.lookup AInvalidKey_i = some ⟨oc_InvalidKey, od_InvalidKey, .func (PySem.W.ksFn "__init__" "InvalidKey.__init__" (eiA ((["key"] : List Str).zip [⟨11, 23, 11, 26⟩]) ⟨11, 17, 11, 21⟩) (eiSup "invalid key" ⟨12, 8, 12, 13⟩ ⟨12, 8, 12, 15⟩ ⟨12, 8, 12, 24⟩ ⟨12, 25, 12, 38⟩ ⟨12, 8, 12, 39⟩ :: setsB [("key", ⟨13, 8, 13, 12⟩, ⟨13, 8, 13, 16⟩, ⟨13, 19, 13, 22⟩, ⟨13, 8, 13, 22⟩)]) (eiS ["key"]) .none kV_InvalidKey dc_InvalidKey pm_InvalidKey an_InvalidKey (.ref AInvalidKey_d) ct_InvalidKey AInvalidKey_c), sl_InvalidKey⟩)
  (zq_InvalidKey : PySem.W.codeIn K (.ref AInvalidKey_d) "InvalidKey.__init__" = true)
  (zs_InvalidKey : PySem.W.ks_superIn K AInvalidKey AInvalidKey "__init__" = some (some (.builtin "ValueError.__init__")))
  (zB_InvalidKey : PySem.W.subIn K (.ref AInvalidKey) (.type "ValueError") = some true)
  (zST_InvalidKey : PySem.W.nsIn K PySem.cStatics "thirdparty.any" = some none)
  (zA_InvalidKey : PySem.W.findIn K (.ref AInvalidKey) "__setattr__" = some (some (.builtin "object.__setattr__")))
  (zT_InvalidKey_key : PySem.W.takerIn K AInvalidKey "key" = some none)
  (zn_InvalidKey_key : PySem.W.findIn K (.ref AInvalidKey) "key" = some none)
  (zC_InvalidKey : K.lookup AInvalidKey_c = some ⟨cl_InvalidKey, cld_InvalidKey, .cell (some (.ref AInvalidKey)), csl_InvalidKey⟩)
  (zD_InvalidKey : K.lookup AInvalidKey_d = some ⟨ccl_InvalidKey, cdd_InvalidKey, .fields vs_InvalidKey, ccs_InvalidKey⟩)
  (zE_InvalidKey : vs_InvalidKey[2]? = some (.str P.main.file tf_InvalidKey))
  (zM_InvalidKey : PySem.W.mroIn K AInvalidKey (.ref AInvalidKey) = some true)
  (zN_InvalidKey : (PySem.W.clsIn K AInvalidKey).isSome = true)
  (zP_InvalidKey : (P.main.scope.names.lookup ("super" : Str)).isSome = false)
  (zk_InvalidKey : PySem.W.keepIn K (.ref AInvalidKey) = true)
  (zga_InvalidKey : PySem.W.findIn K (.ref AInvalidKey) "__getattribute__" = some (some (.builtin "BaseException.__getattribute__")))
  (zgg_InvalidKey : PySem.W.findIn K (.ref AInvalidKey) "__getattr__" = some none)
  (zcc_InvalidKey : PySem.W.findIn K (.ref AInvalidKey) "__class__" = some (some (.builtin "object.__class__")))
  (zcg_InvalidKey : PySem.W.specialIn K (.builtin "object.__class__") "__get__" = some (some (.builtin "getset_descriptor.__get__")))
  (zct_InvalidKey : PySem.W.takesIn K (.builtin "object.__class__") = some true)
  (zmo_InvalidKey : PySem.W.mroIn K AInvalidKey (.type "object") = some true)
  (za_StateError : PySem.W.nsIn K mainGlobals "StateError" = some (some (.ref AStateError)))
  (zt_StateError : PySem.W.typeIn K (.ref AStateError) = some (.type "type"))
  (zx_StateError : PySem.W.subIn K (.ref AStateError) (.type "BaseException") = some true)
  (zh_StateError : PySem.W.hasDictIn K AStateError = true)
  (za_KeyTaken : PySem.W.nsIn K mainGlobals "KeyTaken" = some (some (.ref AKeyTaken)))
  (zt_KeyTaken : PySem.W.typeIn K (.ref AKeyTaken) = some (.type "type"))
  (zx_KeyTaken : PySem.W.subIn K (.ref AKeyTaken) (.type "BaseException") = some true)
  (zh_KeyTaken : PySem.W.hasDictIn K AKeyTaken = true)
  (zi_KeyTaken : PySem.W.excInitIn K AKeyTaken [.type "RuntimeError", .type "Exception", .type "BaseException", .type "object"] "RuntimeError.__new__" = true)
  (zo_KeyTaken : PySem.W.excOver K AKeyTaken [.type "RuntimeError", .type "Exception", .type "BaseException", .type "object"] = true)
  (zI_KeyTaken : PySem.W.findIn K (.ref AKeyTaken) "__init__" = some (some (.ref AKeyTaken_i)))
  (zf_KeyTaken : PySem.W.isFn K (.ref AKeyTaken_i) = true)
  (zl_KeyTaken : K.lookup AKeyTaken_i = some ⟨oc_KeyTaken, od_KeyTaken, .func (PySem.W.ksFn "__init__" "KeyTaken.__init__" (eiA ((["key"] : List Str).zip [⟨18, 23, 18, 26⟩]) ⟨18, 17, 18, 21⟩) (eiSup "the key is there already" ⟨19, 8, 19, 13⟩ ⟨19, 8, 19, 15⟩ ⟨19, 8, 19, 24⟩ ⟨19, 25, 19, 51⟩ ⟨19, 8, 19, 52⟩ :: setsB [("key", ⟨20, 8, 20, 12⟩, ⟨20, 8, 20, 16⟩, ⟨20, 19, 20, 22⟩, ⟨20, 8, 20, 22⟩)]) (eiS ["key"]) .none kV_KeyTaken dc_KeyTaken pm_KeyTaken an_KeyTaken (.ref AKeyTaken_d) ct_KeyTaken AKeyTaken_c), sl_KeyTaken⟩)
  (zq_KeyTaken : PySem.W.codeIn K (.ref AKeyTaken_d) "KeyTaken.__init__" = true)
  (zs_KeyTaken : PySem.W.ks_superIn K AKeyTaken AKeyTaken "__init__" = some (some (.builtin "RuntimeError.__init__")))
  (zB_KeyTaken : PySem.W.subIn K (.ref AKeyTaken) (.type "RuntimeError") = some true)
  (zST_KeyTaken : PySem.W.nsIn K PySem.cStatics "thirdparty.any" = some none)
  (zA_KeyTaken : PySem.W.findIn K (.ref AKeyTaken) "__setattr__" = some (some (.builtin "object.__setattr__")))
  (zT_KeyTaken_key : PySem.W.takerIn K AKeyTaken "key" = some none)
  (zn_KeyTaken_key : PySem.W.findIn K (.ref AKeyTaken) "key" = some none)
  (zC_KeyTaken : K.lookup AKeyTaken_c = some ⟨cl_KeyTaken, cld_KeyTaken, .cell (some (.ref AKeyTaken)), csl_KeyTaken⟩)
  (zD_KeyTaken : K.lookup AKeyTaken_d = some ⟨ccl_KeyTaken, cdd_KeyTaken, .fields vs_KeyTaken, ccs_KeyTaken⟩)
  (zE_KeyTaken : vs_KeyTaken[2]? = some (.str P.main.file tf_KeyTaken))
  (zM_KeyTaken : PySem.W.mroIn K AKeyTaken (.ref AKeyTaken) = some true)
  (zN_KeyTaken : (PySem.W.clsIn K AKeyTaken).isSome = true)
  (zP_KeyTaken : (P.main.scope.names.lookup ("super" : Str)).isSome = false)
  (zk_KeyTaken : PySem.W.keepIn K (.ref AKeyTaken) = true)
  (zga_KeyTaken : PySem.W.findIn K (.ref AKeyTaken) "__getattribute__" = some (some (.builtin "BaseException.__getattribute__")))
  (zgg_KeyTaken : PySem.W.findIn K (.ref AKeyTaken) "__getattr__" = some none)
  (zcc_KeyTaken : PySem.W.findIn K (.ref AKeyTaken) "__class__" = some (some (.builtin "object.__class__")))
  (zcg_KeyTaken : PySem.W.specialIn K (.builtin "object.__class__") "__get__" = some (some (.builtin "getset_descriptor.__get__")))
  (zct_KeyTaken : PySem.W.takesIn K (.builtin "object.__class__") = some true)
  (zmo_KeyTaken : PySem.W.mroIn K AKeyTaken (.type "object") = some true)
  (za_MissingError : PySem.W.nsIn K mainGlobals "MissingError" = some (some (.ref AMissingError)))
  (zt_MissingError : PySem.W.typeIn K (.ref AMissingError) = some (.type "type"))
  (zx_MissingError : PySem.W.subIn K (.ref AMissingError) (.type "BaseException") = some true)
  (zh_MissingError : PySem.W.hasDictIn K AMissingError = true)
  (zu_InvalidNumbers_JarError : PySem.W.kitOne K (.ref AInvalidNumbers) (.ref AJarError) = some true)
  (zv_InvalidNumbers_JarError : PySem.W.exmOne K (.ref AInvalidNumbers) (.ref AJarError) = some true)
  (zu_InvalidNumbers_StateError : PySem.W.kitOne K (.ref AInvalidNumbers) (.ref AStateError) = some false)
  (zv_InvalidNumbers_StateError : PySem.W.exmOne K (.ref AInvalidNumbers) (.ref AStateError) = some false)
  (zu_InvalidNumbers_MissingError : PySem.W.kitOne K (.ref AInvalidNumbers) (.ref AMissingError) = some false)
  (zv_InvalidNumbers_MissingError : PySem.W.exmOne K (.ref AInvalidNumbers) (.ref AMissingError) = some false)
  (zu_InvalidKey_JarError : PySem.W.kitOne K (.ref AInvalidKey) (.ref AJarError) = some true)
  (zv_InvalidKey_JarError : PySem.W.exmOne K (.ref AInvalidKey) (.ref AJarError) = some true)
  (zu_InvalidKey_StateError : PySem.W.kitOne K (.ref AInvalidKey) (.ref AStateError) = some false)
  (zv_InvalidKey_StateError : PySem.W.exmOne K (.ref AInvalidKey) (.ref AStateError) = some false)
  (zu_InvalidKey_MissingError : PySem.W.kitOne K (.ref AInvalidKey) (.ref AMissingError) = some false)
  (zv_InvalidKey_MissingError : PySem.W.exmOne K (.ref AInvalidKey) (.ref AMissingError) = some false)
  (zu_KeyTaken_JarError : PySem.W.kitOne K (.ref AKeyTaken) (.ref AJarError) = some false)
  (zv_KeyTaken_JarError : PySem.W.exmOne K (.ref AKeyTaken) (.ref AJarError) = some false)
  (zu_KeyTaken_StateError : PySem.W.kitOne K (.ref AKeyTaken) (.ref AStateError) = some true)
  (zv_KeyTaken_StateError : PySem.W.exmOne K (.ref AKeyTaken) (.ref AStateError) = some true)
  (zu_KeyTaken_MissingError : PySem.W.kitOne K (.ref AKeyTaken) (.ref AMissingError) = some false)
  (zv_KeyTaken_MissingError : PySem.W.exmOne K (.ref AKeyTaken) (.ref AMissingError) = some false)
  (zu_InvalidNumbers_InvalidNumbers : PySem.W.kitOne K (.ref AInvalidNumbers) (.ref AInvalidNumbers) = some true)
  (zv_InvalidNumbers_InvalidNumbers : PySem.W.exmOne K (.ref AInvalidNumbers) (.ref AInvalidNumbers) = some true)
  (zu_InvalidKey_InvalidKey : PySem.W.kitOne K (.ref AInvalidKey) (.ref AInvalidKey) = some true)
  (zv_InvalidKey_InvalidKey : PySem.W.exmOne K (.ref AInvalidKey) (.ref AInvalidKey) = some true)
  (zu_KeyTaken_InvalidKey : PySem.W.kitOne K (.ref AKeyTaken) (.ref AInvalidKey) = some false)
  (zv_KeyTaken_InvalidKey : PySem.W.exmOne K (.ref AKeyTaken) (.ref AInvalidKey) = some false)
  (zu_KeyTaken_KeyTaken : PySem.W.kitOne K (.ref AKeyTaken) (.ref AKeyTaken) = some true)
  (zv_KeyTaken_KeyTaken : PySem.W.exmOne K (.ref AKeyTaken) (.ref AKeyTaken) = some true) : Txt P K mg ⟨Ais_integer, Ais_whole_atom, Ais_text, Ais_key, Ais_octet, Acheck_key, ANode_shape, ANode_children, AOctets___init__, AOctets_shape, AOctets_numbers, Aascending, ABag___init__, ABag_of, ABag_shape, ABag_members, ABag_children, A_law_begin, A_law_mixed, A_law_next, A_law_atom, A_law_tuple, A_law_is_octets, A_law_octets_right, A_law_is_key, A_law_due, A_law_bag, A_law_bag_right, A_law_word, Alaw, AJarError, AInvalidNumbers, AInvalidKey, AStateError, AKeyTaken, AMissingError, ANode, AOctets, ABag, AInvalidNumbers_i, AInvalidNumbers_c, AInvalidNumbers_d, AInvalidKey_i, AInvalidKey_c, AInvalidKey_d, AKeyTaken_i, AKeyTaken_c, AKeyTaken_d, ANode_shape_p, AOctets_shape_p, AOctets_numbers_p, ABag_of_p, ABag_shape_p, ABag_members_p, AOctets___init___dv⟩ := {
  g_Node := PySem.W.mg_of X G za_Node,
  c_Node := ⟨zc1_Node, zc2_Node, zc3_Node, zc4_Node⟩,
  k_Node := zk_Node,
  e_Node := ⟨ze1_Node, ze2_Node⟩,
  t_Node := zt_Node,
  p_Node_shape := ⟨zp1_Node_shape, zp2_Node_shape, zp3_Node_shape, ⟨_, zp4_Node_shape⟩⟩,
  p_Node_children := ⟨zp1_Node_children, zp2_Node_children, zp3_Node_children⟩,
  g_Octets := PySem.W.mg_of X G za_Octets,
  c_Octets := ⟨zc1_Octets, zc2_Octets, zc3_Octets, zc4_Octets⟩,
  k_Octets := zk_Octets,
  e_Octets := ⟨ze1_Octets, ze2_Octets⟩,
  t_Octets := zt_Octets,
  p_Octets_shape := ⟨zp1_Octets_shape, zp2_Octets_shape, zp3_Octets_shape, ⟨_, zp4_Octets_shape⟩⟩,
  p_Octets_children := ⟨zp1_Octets_children, zp2_Octets_children, zp3_Octets_children⟩,
  m_Octets := ⟨zm1_Octets, zm2_Octets, zm3_Octets, zk_Octets⟩,
  p_Octets_numbers := ⟨zp1_Octets_numbers, zp2_Octets_numbers, zp3_Octets_numbers, ⟨_, zp4_Octets_numbers⟩⟩,
  n_Octets_row := zn_Octets_row,
  g_Bag := PySem.W.mg_of X G za_Bag,
  c_Bag := ⟨zc1_Bag, zc2_Bag, zc3_Bag, zc4_Bag⟩,
  k_Bag := zk_Bag,
  e_Bag := ⟨ze1_Bag, ze2_Bag⟩,
  t_Bag := zt_Bag,
  r_Bag := ⟨zr1_Bag, zr2_Bag⟩,
  p_Bag_shape := ⟨zp1_Bag_shape, zp2_Bag_shape, zp3_Bag_shape, ⟨_, zp4_Bag_shape⟩⟩,
  p_Bag_children := ⟨zp1_Bag_children, zp2_Bag_children, zp3_Bag_children⟩,
  m_Bag := ⟨zm1_Bag, zm2_Bag, zm3_Bag, zk_Bag⟩,
  p_Bag_of := ⟨zp1_Bag_of, ⟨_, zp2_Bag_of⟩, zp3_Bag_of⟩,
  p_Bag_members := ⟨zp1_Bag_members, zp2_Bag_members, zp3_Bag_members, ⟨_, zp4_Bag_members⟩⟩,
  n_Bag_kept_keys := zn_Bag_kept_keys,
  b_all := PySem.W.mg_none_of X G zb_all,
  b_bool := PySem.W.mg_none_of X G zb_bool,
  b_classmethod := PySem.W.mg_none_of X G zb_classmethod,
  b_int := PySem.W.mg_none_of X G zb_int,
  b_isinstance := PySem.W.mg_none_of X G zb_isinstance,
  b_len := PySem.W.mg_none_of X G zb_len,
  b_list := PySem.W.mg_none_of X G zb_list,
  b_min := PySem.W.mg_none_of X G zb_min,
  b_property := PySem.W.mg_none_of X G zb_property,
  b_range := PySem.W.mg_none_of X G zb_range,
  b_repr := PySem.W.mg_none_of X G zb_repr,
  b_sorted := PySem.W.mg_none_of X G zb_sorted,
  b_str := PySem.W.mg_none_of X G zb_str,
  b_tuple := PySem.W.mg_none_of X G zb_tuple,
  b_super := PySem.W.mg_none_of X G zb_super,
  c_MOST_INTEGER := ⟨_, PySem.W.mg_of X G zc_MOST_INTEGER⟩,
  c_MOST_CHARACTERS := ⟨_, PySem.W.mg_of X G zc_MOST_CHARACTERS⟩,
  c_MOST_NUMBERS := ⟨_, PySem.W.mg_of X G zc_MOST_NUMBERS⟩,
  g_is_integer := PySem.W.mg_of X G za_is_integer,
  k_is_integer := zk_is_integer,
  d_is_integer := ⟨_, fun_mk (st := s_is_integer) zl_is_integer zd_is_integer zk_is_integer, (fun_mk (st := s_is_integer) zl_is_integer zd_is_integer zk_is_integer).binds (ps := ["thing"]) fun _ _ _ _ _ _ us hl => match us, hl with | [_], _ => rfl⟩,
  g_is_whole_atom := PySem.W.mg_of X G za_is_whole_atom,
  k_is_whole_atom := zk_is_whole_atom,
  d_is_whole_atom := ⟨_, fun_mk (st := s_is_whole_atom) zl_is_whole_atom zd_is_whole_atom zk_is_whole_atom, (fun_mk (st := s_is_whole_atom) zl_is_whole_atom zd_is_whole_atom zk_is_whole_atom).binds (ps := ["thing"]) fun _ _ _ _ _ _ us hl => match us, hl with | [_], _ => rfl⟩,
  g_is_text := PySem.W.mg_of X G za_is_text,
  k_is_text := zk_is_text,
  d_is_text := ⟨_, fun_mk (st := s_is_text) zl_is_text zd_is_text zk_is_text, (fun_mk (st := s_is_text) zl_is_text zd_is_text zk_is_text).binds (ps := ["thing"]) fun _ _ _ _ _ _ us hl => match us, hl with | [_], _ => rfl⟩,
  g_is_key := PySem.W.mg_of X G za_is_key,
  k_is_key := zk_is_key,
  d_is_key := ⟨_, fun_mk (st := s_is_key) zl_is_key zd_is_key zk_is_key, (fun_mk (st := s_is_key) zl_is_key zd_is_key zk_is_key).binds (ps := ["thing"]) fun _ _ _ _ _ _ us hl => match us, hl with | [_], _ => rfl⟩,
  g_is_octet := PySem.W.mg_of X G za_is_octet,
  k_is_octet := zk_is_octet,
  d_is_octet := ⟨_, fun_mk (st := s_is_octet) zl_is_octet zd_is_octet zk_is_octet, (fun_mk (st := s_is_octet) zl_is_octet zd_is_octet zk_is_octet).binds (ps := ["thing"]) fun _ _ _ _ _ _ us hl => match us, hl with | [_], _ => rfl⟩,
  g_check_key := PySem.W.mg_of X G za_check_key,
  k_check_key := zk_check_key,
  d_check_key := ⟨_, fun_mk (st := s_check_key) zl_check_key zd_check_key zk_check_key, (fun_mk (st := s_check_key) zl_check_key zd_check_key zk_check_key).binds (ps := ["key"]) fun _ _ _ _ _ _ us hl => match us, hl with | [_], _ => rfl⟩,
  k_Node_shape := zk_Node_shape,
  d_Node_shape := ⟨_, fun_mk (st := s_Node_shape) zl_Node_shape zd_Node_shape zk_Node_shape, (fun_mk (st := s_Node_shape) zl_Node_shape zd_Node_shape zk_Node_shape).binds (ps := ["self"]) fun _ _ _ _ _ _ us hl => match us, hl with | [_], _ => rfl⟩,
  k_Node_children := zk_Node_children,
  d_Node_children := ⟨_, fun_mk (st := s_Node_children) zl_Node_children zd_Node_children zk_Node_children, (fun_mk (st := s_Node_children) zl_Node_children zd_Node_children zk_Node_children).binds (ps := ["self"]) fun _ _ _ _ _ _ us hl => match us, hl with | [_], _ => rfl⟩,
  k_Octets___init__ := zk_Octets___init__,
  v_Octets___init__ := fun _ => .inr ⟨_, _, _, zV_Octets___init__, rfl, rfl, by decide, .nil⟩,
  d_Octets___init__ := ⟨⟨_, _, _, _, _, _, _, _, _, _, _, _, _, zl_Octets___init__, zd_Octets___init__, zT_Octets___init__, rfl, rfl, fun _ _ _ => ⟨_, rfl, rfl⟩, fun _ _ _ => ⟨_, rfl, rfl⟩, fun _ _ => ⟨_, rfl, rfl⟩⟩⟩,
  k_Octets_shape := zk_Octets_shape,
  d_Octets_shape := ⟨_, fun_mk (st := s_Octets_shape) zl_Octets_shape zd_Octets_shape zk_Octets_shape, (fun_mk (st := s_Octets_shape) zl_Octets_shape zd_Octets_shape zk_Octets_shape).binds (ps := ["self"]) fun _ _ _ _ _ _ us hl => match us, hl with | [_], _ => rfl⟩,
  k_Octets_numbers := zk_Octets_numbers,
  d_Octets_numbers := ⟨_, fun_mk (st := s_Octets_numbers) zl_Octets_numbers zd_Octets_numbers zk_Octets_numbers, (fun_mk (st := s_Octets_numbers) zl_Octets_numbers zd_Octets_numbers zk_Octets_numbers).binds (ps := ["self"]) fun _ _ _ _ _ _ us hl => match us, hl with | [_], _ => rfl⟩,
  g_ascending := PySem.W.mg_of X G za_ascending,
  k_ascending := zk_ascending,
  d_ascending := ⟨_, fun_mk (st := s_ascending) zl_ascending zd_ascending zk_ascending, (fun_mk (st := s_ascending) zl_ascending zd_ascending zk_ascending).binds (ps := ["keys"]) fun _ _ _ _ _ _ us hl => match us, hl with | [_], _ => rfl⟩,
  k_Bag___init__ := zk_Bag___init__,
  d_Bag___init__ := ⟨⟨_, _, _, _, _, _, _, _, _, _, zl_Bag___init__, zd_Bag___init__, StX.bind_star1 (B := fun l => bindArgs _ ⟨l, []⟩) (fun _ => rfl) (fun _ _ _ => rfl)⟩⟩,
  k_Bag_of := zk_Bag_of,
  d_Bag_of := ⟨_, fun_mk (st := s_Bag_of) zl_Bag_of zd_Bag_of zk_Bag_of, (fun_mk (st := s_Bag_of) zl_Bag_of zd_Bag_of zk_Bag_of).binds (ps := ["cls", "members"]) fun _ _ _ _ _ _ us hl => match us, hl with | [_, _], _ => rfl⟩,
  k_Bag_shape := zk_Bag_shape,
  d_Bag_shape := ⟨_, fun_mk (st := s_Bag_shape) zl_Bag_shape zd_Bag_shape zk_Bag_shape, (fun_mk (st := s_Bag_shape) zl_Bag_shape zd_Bag_shape zk_Bag_shape).binds (ps := ["self"]) fun _ _ _ _ _ _ us hl => match us, hl with | [_], _ => rfl⟩,
  k_Bag_members := zk_Bag_members,
  d_Bag_members := ⟨_, fun_mk (st := s_Bag_members) zl_Bag_members zd_Bag_members zk_Bag_members, (fun_mk (st := s_Bag_members) zl_Bag_members zd_Bag_members zk_Bag_members).binds (ps := ["self"]) fun _ _ _ _ _ _ us hl => match us, hl with | [_], _ => rfl⟩,
  k_Bag_children := zk_Bag_children,
  d_Bag_children := ⟨_, fun_mk (st := s_Bag_children) zl_Bag_children zd_Bag_children zk_Bag_children, (fun_mk (st := s_Bag_children) zl_Bag_children zd_Bag_children zk_Bag_children).binds (ps := ["self"]) fun _ _ _ _ _ _ us hl => match us, hl with | [_], _ => rfl⟩,
  g__law_begin := PySem.W.mg_of X G za__law_begin,
  k__law_begin := zk__law_begin,
  d__law_begin := ⟨_, fun_mk (st := s__law_begin) zl__law_begin zd__law_begin zk__law_begin, (fun_mk (st := s__law_begin) zl__law_begin zd__law_begin zk__law_begin).binds (ps := ["script"]) fun _ _ _ _ _ _ us hl => match us, hl with | [_], _ => rfl⟩,
  g__law_mixed := PySem.W.mg_of X G za__law_mixed,
  k__law_mixed := zk__law_mixed,
  d__law_mixed := ⟨_, fun_mk (st := s__law_mixed) zl__law_mixed zd__law_mixed zk__law_mixed, (fun_mk (st := s__law_mixed) zl__law_mixed zd__law_mixed zk__law_mixed).binds (ps := ["cell", "k"]) fun _ _ _ _ _ _ us hl => match us, hl with | [_, _], _ => rfl⟩,
  g__law_next := PySem.W.mg_of X G za__law_next,
  k__law_next := zk__law_next,
  d__law_next := ⟨_, fun_mk (st := s__law_next) zl__law_next zd__law_next zk__law_next, (fun_mk (st := s__law_next) zl__law_next zd__law_next zk__law_next).binds (ps := ["draw", "bound"]) fun _ _ _ _ _ _ us hl => match us, hl with | [_, _], _ => rfl⟩,
  g__law_atom := PySem.W.mg_of X G za__law_atom,
  k__law_atom := zk__law_atom,
  d__law_atom := ⟨_, fun_mk (st := s__law_atom) zl__law_atom zd__law_atom zk__law_atom, (fun_mk (st := s__law_atom) zl__law_atom zd__law_atom zk__law_atom).binds (ps := ["draw"]) fun _ _ _ _ _ _ us hl => match us, hl with | [_], _ => rfl⟩,
  g__law_tuple := PySem.W.mg_of X G za__law_tuple,
  k__law_tuple := zk__law_tuple,
  d__law_tuple := ⟨_, fun_mk (st := s__law_tuple) zl__law_tuple zd__law_tuple zk__law_tuple, (fun_mk (st := s__law_tuple) zl__law_tuple zd__law_tuple zk__law_tuple).binds (ps := ["draw"]) fun _ _ _ _ _ _ us hl => match us, hl with | [_], _ => rfl⟩,
  g__law_is_octets := PySem.W.mg_of X G za__law_is_octets,
  k__law_is_octets := zk__law_is_octets,
  d__law_is_octets := ⟨_, fun_mk (st := s__law_is_octets) zl__law_is_octets zd__law_is_octets zk__law_is_octets, (fun_mk (st := s__law_is_octets) zl__law_is_octets zd__law_is_octets zk__law_is_octets).binds (ps := ["what"]) fun _ _ _ _ _ _ us hl => match us, hl with | [_], _ => rfl⟩,
  g__law_octets_right := PySem.W.mg_of X G za__law_octets_right,
  k__law_octets_right := zk__law_octets_right,
  d__law_octets_right := ⟨_, fun_mk (st := s__law_octets_right) zl__law_octets_right zd__law_octets_right zk__law_octets_right, (fun_mk (st := s__law_octets_right) zl__law_octets_right zd__law_octets_right zk__law_octets_right).binds (ps := ["what"]) fun _ _ _ _ _ _ us hl => match us, hl with | [_], _ => rfl⟩,
  g__law_is_key := PySem.W.mg_of X G za__law_is_key,
  k__law_is_key := zk__law_is_key,
  d__law_is_key := ⟨_, fun_mk (st := s__law_is_key) zl__law_is_key zd__law_is_key zk__law_is_key, (fun_mk (st := s__law_is_key) zl__law_is_key zd__law_is_key zk__law_is_key).binds (ps := ["what"]) fun _ _ _ _ _ _ us hl => match us, hl with | [_], _ => rfl⟩,
  g__law_due := PySem.W.mg_of X G za__law_due,
  k__law_due := zk__law_due,
  d__law_due := ⟨_, fun_mk (st := s__law_due) zl__law_due zd__law_due zk__law_due, (fun_mk (st := s__law_due) zl__law_due zd__law_due zk__law_due).binds (ps := ["keys"]) fun _ _ _ _ _ _ us hl => match us, hl with | [_], _ => rfl⟩,
  g__law_bag := PySem.W.mg_of X G za__law_bag,
  k__law_bag := zk__law_bag,
  d__law_bag := ⟨_, fun_mk (st := s__law_bag) zl__law_bag zd__law_bag zk__law_bag, (fun_mk (st := s__law_bag) zl__law_bag zd__law_bag zk__law_bag).binds (ps := ["way", "keys"]) fun _ _ _ _ _ _ us hl => match us, hl with | [_, _], _ => rfl⟩,
  g__law_bag_right := PySem.W.mg_of X G za__law_bag_right,
  k__law_bag_right := zk__law_bag_right,
  d__law_bag_right := ⟨_, fun_mk (st := s__law_bag_right) zl__law_bag_right zd__law_bag_right zk__law_bag_right, (fun_mk (st := s__law_bag_right) zl__law_bag_right zd__law_bag_right zk__law_bag_right).binds (ps := ["way", "keys"]) fun _ _ _ _ _ _ us hl => match us, hl with | [_, _], _ => rfl⟩,
  g__law_word := PySem.W.mg_of X G za__law_word,
  k__law_word := zk__law_word,
  d__law_word := ⟨_, fun_mk (st := s__law_word) zl__law_word zd__law_word zk__law_word, (fun_mk (st := s__law_word) zl__law_word zd__law_word zk__law_word).binds (ps := ["what"]) fun _ _ _ _ _ _ us hl => match us, hl with | [_], _ => rfl⟩,
  g_law := PySem.W.mg_of X G za_law,
  k_law := zk_law,
  d_law := ⟨_, fun_mk (st := s_law) zl_law zd_law zk_law, (fun_mk (st := s_law) zl_law zd_law zk_law).binds (ps := ["script"]) fun _ _ _ _ _ _ us hl => match us, hl with | [_], _ => rfl⟩,
  g_JarError := PySem.W.mg_of X G za_JarError,
  x_JarError := zx_JarError,
  t_JarError := zt_JarError,
  h_JarError := zh_JarError,
  g_InvalidNumbers := PySem.W.mg_of X G za_InvalidNumbers,
  x_InvalidNumbers := zx_InvalidNumbers,
  t_InvalidNumbers := zt_InvalidNumbers,
  h_InvalidNumbers := zh_InvalidNumbers,
  n_InvalidNumbers_value := zn_InvalidNumbers_value,
  k_InvalidNumbers := zk_InvalidNumbers,
  e_InvalidNumbers := ⟨famV, PySem.W.mg_of X G za_InvalidNumbers, zi_InvalidNumbers, zo_InvalidNumbers, zh_InvalidNumbers, zI_InvalidNumbers, zf_InvalidNumbers, zs_InvalidNumbers, zB_InvalidNumbers, zST_InvalidNumbers, PySem.W.mg_none_of X G zb_super, zA_InvalidNumbers, (by intro f hf; rcases List.mem_cons.mp hf with rfl | hf; exact zT_InvalidNumbers_value; cases hf), ⟨_, _, _, zC_InvalidNumbers⟩, ⟨_, _, _, _, _, zD_InvalidNumbers, zE_InvalidNumbers⟩, zM_InvalidNumbers, Option.isSome_iff_exists.mp zN_InvalidNumbers, zP_InvalidNumbers⟩,
  i_InvalidNumbers := ⟨⟨_, _, _, _, _, _, _, _, _, ⟨6, 17, 6, 21⟩, [⟨6, 23, 6, 28⟩], _, _, _, _, _, [("value", ⟨8, 8, 8, 12⟩, ⟨8, 8, 8, 18⟩, ⟨8, 21, 8, 26⟩, ⟨8, 8, 8, 26⟩)], zl_InvalidNumbers, rfl, rfl, rfl⟩, zq_InvalidNumbers, (by decide +kernel), by decide +kernel, ⟨(fun z => nomatch z), by decide⟩, (by rintro fd ⟨oc, od, osl, h⟩ u us hl; have q := h.symm.trans zl_InvalidNumbers; cases q; exact match us, hl with | [_], _ => rfl)⟩,
  R_InvalidNumbers := ⟨zN_InvalidNumbers, zga_InvalidNumbers, zgg_InvalidNumbers, zx_InvalidNumbers, zcc_InvalidNumbers, zcg_InvalidNumbers, zct_InvalidNumbers, zmo_InvalidNumbers, zh_InvalidNumbers⟩,
  g_InvalidKey := PySem.W.mg_of X G za_InvalidKey,
  x_InvalidKey := zx_InvalidKey,
  t_InvalidKey := zt_InvalidKey,
  h_InvalidKey := zh_InvalidKey,
  n_InvalidKey_key := zn_InvalidKey_key,
  k_InvalidKey := zk_InvalidKey,
  e_InvalidKey := ⟨famV, PySem.W.mg_of X G za_InvalidKey, zi_InvalidKey, zo_InvalidKey, zh_InvalidKey, zI_InvalidKey, zf_InvalidKey, zs_InvalidKey, zB_InvalidKey, zST_InvalidKey, PySem.W.mg_none_of X G zb_super, zA_InvalidKey, (by intro f hf; rcases List.mem_cons.mp hf with rfl | hf; exact zT_InvalidKey_key; cases hf), ⟨_, _, _, zC_InvalidKey⟩, ⟨_, _, _, _, _, zD_InvalidKey, zE_InvalidKey⟩, zM_InvalidKey, Option.isSome_iff_exists.mp zN_InvalidKey, zP_InvalidKey⟩,
  i_InvalidKey := ⟨⟨_, _, _, _, _, _, _, _, _, ⟨11, 17, 11, 21⟩, [⟨11, 23, 11, 26⟩], _, _, _, _, _, [("key", ⟨13, 8, 13, 12⟩, ⟨13, 8, 13, 16⟩, ⟨13, 19, 13, 22⟩, ⟨13, 8, 13, 22⟩)], zl_InvalidKey, rfl, rfl, rfl⟩, zq_InvalidKey, (by decide +kernel), by decide +kernel, ⟨(fun z => nomatch z), by decide⟩, (by rintro fd ⟨oc, od, osl, h⟩ u us hl; have q := h.symm.trans zl_InvalidKey; cases q; exact match us, hl with | [_], _ => rfl)⟩,
  R_InvalidKey := ⟨zN_InvalidKey, zga_InvalidKey, zgg_InvalidKey, zx_InvalidKey, zcc_InvalidKey, zcg_InvalidKey, zct_InvalidKey, zmo_InvalidKey, zh_InvalidKey⟩,
  g_StateError := PySem.W.mg_of X G za_StateError,
  x_StateError := zx_StateError,
  t_StateError := zt_StateError,
  h_StateError := zh_StateError,
  g_KeyTaken := PySem.W.mg_of X G za_KeyTaken,
  x_KeyTaken := zx_KeyTaken,
  t_KeyTaken := zt_KeyTaken,
  h_KeyTaken := zh_KeyTaken,
  n_KeyTaken_key := zn_KeyTaken_key,
  k_KeyTaken := zk_KeyTaken,
  e_KeyTaken := ⟨famR, PySem.W.mg_of X G za_KeyTaken, zi_KeyTaken, zo_KeyTaken, zh_KeyTaken, zI_KeyTaken, zf_KeyTaken, zs_KeyTaken, zB_KeyTaken, zST_KeyTaken, PySem.W.mg_none_of X G zb_super, zA_KeyTaken, (by intro f hf; rcases List.mem_cons.mp hf with rfl | hf; exact zT_KeyTaken_key; cases hf), ⟨_, _, _, zC_KeyTaken⟩, ⟨_, _, _, _, _, zD_KeyTaken, zE_KeyTaken⟩, zM_KeyTaken, Option.isSome_iff_exists.mp zN_KeyTaken, zP_KeyTaken⟩,
  i_KeyTaken := ⟨⟨_, _, _, _, _, _, _, _, _, ⟨18, 17, 18, 21⟩, [⟨18, 23, 18, 26⟩], _, _, _, _, _, [("key", ⟨20, 8, 20, 12⟩, ⟨20, 8, 20, 16⟩, ⟨20, 19, 20, 22⟩, ⟨20, 8, 20, 22⟩)], zl_KeyTaken, rfl, rfl, rfl⟩, zq_KeyTaken, (by decide +kernel), by decide +kernel, ⟨(fun z => nomatch z), by decide⟩, (by rintro fd ⟨oc, od, osl, h⟩ u us hl; have q := h.symm.trans zl_KeyTaken; cases q; exact match us, hl with | [_], _ => rfl)⟩,
  R_KeyTaken := ⟨zN_KeyTaken, zga_KeyTaken, zgg_KeyTaken, zx_KeyTaken, zcc_KeyTaken, zcg_KeyTaken, zct_KeyTaken, zmo_KeyTaken, zh_KeyTaken⟩,
  g_MissingError := PySem.W.mg_of X G za_MissingError,
  x_MissingError := zx_MissingError,
  t_MissingError := zt_MissingError,
  h_MissingError := zh_MissingError,
  u_InvalidNumbers_JarError := zu_InvalidNumbers_JarError,
  v_InvalidNumbers_JarError := zv_InvalidNumbers_JarError,
  u_InvalidNumbers_StateError := zu_InvalidNumbers_StateError,
  v_InvalidNumbers_StateError := zv_InvalidNumbers_StateError,
  u_InvalidNumbers_MissingError := zu_InvalidNumbers_MissingError,
  v_InvalidNumbers_MissingError := zv_InvalidNumbers_MissingError,
  u_InvalidKey_JarError := zu_InvalidKey_JarError,
  v_InvalidKey_JarError := zv_InvalidKey_JarError,
  u_InvalidKey_StateError := zu_InvalidKey_StateError,
  v_InvalidKey_StateError := zv_InvalidKey_StateError,
  u_InvalidKey_MissingError := zu_InvalidKey_MissingError,
  v_InvalidKey_MissingError := zv_InvalidKey_MissingError,
  u_KeyTaken_JarError := zu_KeyTaken_JarError,
  v_KeyTaken_JarError := zv_KeyTaken_JarError,
  u_KeyTaken_StateError := zu_KeyTaken_StateError,
  v_KeyTaken_StateError := zv_KeyTaken_StateError,
  u_KeyTaken_MissingError := zu_KeyTaken_MissingError,
  v_KeyTaken_MissingError := zv_KeyTaken_MissingError,
  u_InvalidNumbers_InvalidNumbers := zu_InvalidNumbers_InvalidNumbers,
  v_InvalidNumbers_InvalidNumbers := zv_InvalidNumbers_InvalidNumbers,
  u_InvalidKey_InvalidKey := zu_InvalidKey_InvalidKey,
  v_InvalidKey_InvalidKey := zv_InvalidKey_InvalidKey,
  u_KeyTaken_InvalidKey := zu_KeyTaken_InvalidKey,
  v_KeyTaken_InvalidKey := zv_KeyTaken_InvalidKey,
  u_KeyTaken_KeyTaken := zu_KeyTaken_KeyTaken,
  v_KeyTaken_KeyTaken := zv_KeyTaken_KeyTaken }
end BJL
open PySem PySem.W PyProof.Rows
local macro_rules | `(tactic| walk_at "fact") => `(tactic| first | k_is | ks_is | (first | rfl | kernel_rfl | decide +kernel))
set_option maxHeartbeats 0 in
theorem PySem.Challenge.cw_brinejar_k02_octets_and_bags_holds : PySem.Challenge.rw_brinejar_k02_octets_and_bags.Holds := by
  w_on; o_law; k_head; (case hw => w_witness2)
  k_fill
  refine BJ.walkG (l := PySem.Challenge.rw_brinejar_k02_octets_and_bags) (n := 63) (k := 30) (sp := fun w => BJL.sp_law _) rfl (by decide) rfl ⟨rfl, by decide, by decide⟩ (fun w h Y => PySem.W.kIn_of Y) ?F BJL.law_start
  case F =>
    intro w mg fa h KX G hmg base KB GB
    refine BJL.law_use (a := ?adr) ?txt hmg
    case txt =>
    refine' BJL.all_mk KX G ?za_Node ?zc1_Node ?zc2_Node ?zc3_Node ?zc4_Node ?zk_Node ?ze1_Node ?ze2_Node ?zt_Node ?zp1_Node_shape ?zp2_Node_shape ?zp3_Node_shape ?zp4_Node_shape ?zp1_Node_children ?zp2_Node_children ?zp3_Node_children ?za_Octets ?zc1_Octets ?zc2_Octets ?zc3_Octets ?zc4_Octets ?zk_Octets ?ze1_Octets ?ze2_Octets ?zt_Octets ?zp1_Octets_shape ?zp2_Octets_shape ?zp3_Octets_shape ?zp4_Octets_shape ?zp1_Octets_children ?zp2_Octets_children ?zp3_Octets_children ?zm1_Octets ?zm2_Octets ?zm3_Octets ?zp1_Octets_numbers ?zp2_Octets_numbers ?zp3_Octets_numbers ?zp4_Octets_numbers ?zn_Octets_row ?za_Bag ?zc1_Bag ?zc2_Bag ?zc3_Bag ?zc4_Bag ?zk_Bag ?ze1_Bag ?ze2_Bag ?zt_Bag ?zr1_Bag ?zr2_Bag ?zp1_Bag_shape ?zp2_Bag_shape ?zp3_Bag_shape ?zp4_Bag_shape ?zp1_Bag_children ?zp2_Bag_children ?zp3_Bag_children ?zm1_Bag ?zm2_Bag ?zm3_Bag ?zp1_Bag_of ?zp2_Bag_of ?zp3_Bag_of ?zp1_Bag_members ?zp2_Bag_members ?zp3_Bag_members ?zp4_Bag_members ?zn_Bag_kept_keys ?zb_all ?zb_bool ?zb_classmethod ?zb_int ?zb_isinstance ?zb_len ?zb_list ?zb_min ?zb_property ?zb_range ?zb_repr ?zb_sorted ?zb_str ?zb_tuple ?zb_super ?zc_MOST_INTEGER ?zc_MOST_CHARACTERS ?zc_MOST_NUMBERS ?za_is_integer ?zl_is_integer ?zd_is_integer ?zk_is_integer ?za_is_whole_atom ?zl_is_whole_atom ?zd_is_whole_atom ?zk_is_whole_atom ?za_is_text ?zl_is_text ?zd_is_text ?zk_is_text ?za_is_key ?zl_is_key ?zd_is_key ?zk_is_key ?za_is_octet ?zl_is_octet ?zd_is_octet ?zk_is_octet ?za_check_key ?zl_check_key ?zd_check_key ?zk_check_key ?zl_Node_shape ?zd_Node_shape ?zk_Node_shape ?zl_Node_children ?zd_Node_children ?zk_Node_children ?zl_Octets___init__ ?zd_Octets___init__ ?zk_Octets___init__ ?zT_Octets___init__ ?zV_Octets___init__ ?zl_Octets_shape ?zd_Octets_shape ?zk_Octets_shape ?zl_Octets_numbers ?zd_Octets_numbers ?zk_Octets_numbers ?za_ascending ?zl_ascending ?zd_ascending ?zk_ascending ?zl_Bag___init__ ?zd_Bag___init__ ?zk_Bag___init__ ?zl_Bag_of ?zd_Bag_of ?zk_Bag_of ?zl_Bag_shape ?zd_Bag_shape ?zk_Bag_shape ?zl_Bag_members ?zd_Bag_members ?zk_Bag_members ?zl_Bag_children ?zd_Bag_children ?zk_Bag_children ?za__law_begin ?zl__law_begin ?zd__law_begin ?zk__law_begin ?za__law_mixed ?zl__law_mixed ?zd__law_mixed ?zk__law_mixed ?za__law_next ?zl__law_next ?zd__law_next ?zk__law_next ?za__law_atom ?zl__law_atom ?zd__law_atom ?zk__law_atom ?za__law_tuple ?zl__law_tuple ?zd__law_tuple ?zk__law_tuple ?za__law_is_octets ?zl__law_is_octets ?zd__law_is_octets ?zk__law_is_octets ?za__law_octets_right ?zl__law_octets_right ?zd__law_octets_right ?zk__law_octets_right ?za__law_is_key ?zl__law_is_key ?zd__law_is_key ?zk__law_is_key ?za__law_due ?zl__law_due ?zd__law_due ?zk__law_due ?za__law_bag ?zl__law_bag ?zd__law_bag ?zk__law_bag ?za__law_bag_right ?zl__law_bag_right ?zd__law_bag_right ?zk__law_bag_right ?za__law_word ?zl__law_word ?zd__law_word ?zk__law_word ?za_law ?zl_law ?zd_law ?zk_law ?za_JarError ?zt_JarError ?zx_JarError ?zh_JarError ?za_InvalidNumbers ?zt_InvalidNumbers ?zx_InvalidNumbers ?zh_InvalidNumbers ?zi_InvalidNumbers ?zo_InvalidNumbers ?zI_InvalidNumbers ?zf_InvalidNumbers ?zl_InvalidNumbers ?zq_InvalidNumbers ?zs_InvalidNumbers ?zB_InvalidNumbers ?zST_InvalidNumbers ?zA_InvalidNumbers ?zT_InvalidNumbers_value ?zn_InvalidNumbers_value ?zC_InvalidNumbers ?zD_InvalidNumbers ?zE_InvalidNumbers ?zM_InvalidNumbers ?zN_InvalidNumbers ?zP_InvalidNumbers ?zk_InvalidNumbers ?zga_InvalidNumbers ?zgg_InvalidNumbers ?zcc_InvalidNumbers ?zcg_InvalidNumbers ?zct_InvalidNumbers ?zmo_InvalidNumbers ?za_InvalidKey ?zt_InvalidKey ?zx_InvalidKey ?zh_InvalidKey ?zi_InvalidKey ?zo_InvalidKey ?zI_InvalidKey ?zf_InvalidKey ?zl_InvalidKey ?zq_InvalidKey ?zs_InvalidKey ?zB_InvalidKey ?zST_InvalidKey ?zA_InvalidKey ?zT_InvalidKey_key ?zn_InvalidKey_key ?zC_InvalidKey ?zD_InvalidKey ?zE_InvalidKey ?zM_InvalidKey ?zN_InvalidKey ?zP_InvalidKey ?zk_InvalidKey ?zga_InvalidKey ?zgg_InvalidKey ?zcc_InvalidKey ?zcg_InvalidKey ?zct_InvalidKey ?zmo_InvalidKey ?za_StateError ?zt_StateError ?zx_StateError ?zh_StateError ?za_KeyTaken ?zt_KeyTaken ?zx_KeyTaken ?zh_KeyTaken ?zi_KeyTaken ?zo_KeyTaken ?zI_KeyTaken ?zf_KeyTaken ?zl_KeyTaken ?zq_KeyTaken ?zs_KeyTaken ?zB_KeyTaken ?zST_KeyTaken ?zA_KeyTaken ?zT_KeyTaken_key ?zn_KeyTaken_key ?zC_KeyTaken ?zD_KeyTaken ?zE_KeyTaken ?zM_KeyTaken ?zN_KeyTaken ?zP_KeyTaken ?zk_KeyTaken ?zga_KeyTaken ?zgg_KeyTaken ?zcc_KeyTaken ?zcg_KeyTaken ?zct_KeyTaken ?zmo_KeyTaken ?za_MissingError ?zt_MissingError ?zx_MissingError ?zh_MissingError ?zu_InvalidNumbers_JarError ?zv_InvalidNumbers_JarError ?zu_InvalidNumbers_StateError ?zv_InvalidNumbers_StateError ?zu_InvalidNumbers_MissingError ?zv_InvalidNumbers_MissingError ?zu_InvalidKey_JarError ?zv_InvalidKey_JarError ?zu_InvalidKey_StateError ?zv_InvalidKey_StateError ?zu_InvalidKey_MissingError ?zv_InvalidKey_MissingError ?zu_KeyTaken_JarError ?zv_KeyTaken_JarError ?zu_KeyTaken_StateError ?zv_KeyTaken_StateError ?zu_KeyTaken_MissingError ?zv_KeyTaken_MissingError ?zu_InvalidNumbers_InvalidNumbers ?zv_InvalidNumbers_InvalidNumbers ?zu_InvalidKey_InvalidKey ?zv_InvalidKey_InvalidKey ?zu_KeyTaken_InvalidKey ?zv_KeyTaken_InvalidKey ?zu_KeyTaken_KeyTaken ?zv_KeyTaken_KeyTaken
    (case za_Node => walk_at "fact")
    (case zc1_Node => walk_at "fact")
    (case zc2_Node => walk_at "fact")
    (case zc3_Node => walk_at "fact")
    (case zc4_Node => walk_at "fact")
    (case zk_Node => walk_at "fact")
    (case ze1_Node => walk_at "fact")
    (case ze2_Node => walk_at "fact")
    (case zt_Node => walk_at "fact")
    (case zp1_Node_shape => walk_at "fact")
    (case zp2_Node_shape => walk_at "fact")
    (case zp3_Node_shape => walk_at "fact")
    (case zp4_Node_shape => walk_at "fact")
    (case zp1_Node_children => walk_at "fact")
    (case zp2_Node_children => walk_at "fact")
    (case zp3_Node_children => walk_at "fact")
    (case za_Octets => walk_at "fact")
    (case zc1_Octets => walk_at "fact")
    (case zc2_Octets => walk_at "fact")
    (case zc3_Octets => walk_at "fact")
    (case zc4_Octets => walk_at "fact")
    (case zk_Octets => walk_at "fact")
    (case ze1_Octets => walk_at "fact")
    (case ze2_Octets => walk_at "fact")
    (case zt_Octets => walk_at "fact")
    (case zp1_Octets_shape => walk_at "fact")
    (case zp2_Octets_shape => walk_at "fact")
    (case zp3_Octets_shape => walk_at "fact")
    (case zp4_Octets_shape => walk_at "fact")
    (case zp1_Octets_children => walk_at "fact")
    (case zp2_Octets_children => walk_at "fact")
    (case zp3_Octets_children => walk_at "fact")
    (case zm1_Octets => walk_at "fact")
    (case zm2_Octets => walk_at "fact")
    (case zm3_Octets => walk_at "fact")
    (case zp1_Octets_numbers => walk_at "fact")
    (case zp2_Octets_numbers => walk_at "fact")
    (case zp3_Octets_numbers => walk_at "fact")
    (case zp4_Octets_numbers => walk_at "fact")
    (case zn_Octets_row => walk_at "fact")
    (case za_Bag => walk_at "fact")
    (case zc1_Bag => walk_at "fact")
    (case zc2_Bag => walk_at "fact")
    (case zc3_Bag => walk_at "fact")
    (case zc4_Bag => walk_at "fact")
    (case zk_Bag => walk_at "fact")
    (case ze1_Bag => walk_at "fact")
    (case ze2_Bag => walk_at "fact")
    (case zt_Bag => walk_at "fact")
    (case zr1_Bag => walk_at "fact")
    (case zr2_Bag => walk_at "fact")
    (case zp1_Bag_shape => walk_at "fact")
    (case zp2_Bag_shape => walk_at "fact")
    (case zp3_Bag_shape => walk_at "fact")
    (case zp4_Bag_shape => walk_at "fact")
    (case zp1_Bag_children => walk_at "fact")
    (case zp2_Bag_children => walk_at "fact")
    (case zp3_Bag_children => walk_at "fact")
    (case zm1_Bag => walk_at "fact")
    (case zm2_Bag => walk_at "fact")
    (case zm3_Bag => walk_at "fact")
    (case zp1_Bag_of => walk_at "fact")
    (case zp2_Bag_of => walk_at "fact")
    (case zp3_Bag_of => walk_at "fact")
    (case zp1_Bag_members => walk_at "fact")
    (case zp2_Bag_members => walk_at "fact")
    (case zp3_Bag_members => walk_at "fact")
    (case zp4_Bag_members => walk_at "fact")
    (case zn_Bag_kept_keys => walk_at "fact")
    (case zb_all => walk_at "fact")
    (case zb_bool => walk_at "fact")
    (case zb_classmethod => walk_at "fact")
    (case zb_int => walk_at "fact")
    (case zb_isinstance => walk_at "fact")
    (case zb_len => walk_at "fact")
    (case zb_list => walk_at "fact")
    (case zb_min => walk_at "fact")
    (case zb_property => walk_at "fact")
    (case zb_range => walk_at "fact")
    (case zb_repr => walk_at "fact")
    (case zb_sorted => walk_at "fact")
    (case zb_str => walk_at "fact")
    (case zb_tuple => walk_at "fact")
    (case zb_super => walk_at "fact")
    (case zc_MOST_INTEGER => walk_at "fact")
    (case zc_MOST_CHARACTERS => walk_at "fact")
    (case zc_MOST_NUMBERS => walk_at "fact")
    (case za_is_integer => walk_at "fact")
    (case zl_is_integer => walk_at "fact")
    (case zd_is_integer => walk_at "fact")
    (case zk_is_integer => walk_at "fact")
    (case za_is_whole_atom => walk_at "fact")
    (case zl_is_whole_atom => walk_at "fact")
    (case zd_is_whole_atom => walk_at "fact")
    (case zk_is_whole_atom => walk_at "fact")
    (case za_is_text => walk_at "fact")
    (case zl_is_text => walk_at "fact")
    (case zd_is_text => walk_at "fact")
    (case zk_is_text => walk_at "fact")
    (case za_is_key => walk_at "fact")
    (case zl_is_key => walk_at "fact")
    (case zd_is_key => walk_at "fact")
    (case zk_is_key => walk_at "fact")
    (case za_is_octet => walk_at "fact")
    (case zl_is_octet => walk_at "fact")
    (case zd_is_octet => walk_at "fact")
    (case zk_is_octet => walk_at "fact")
    (case za_check_key => walk_at "fact")
    (case zl_check_key => walk_at "fact")
    (case zd_check_key => walk_at "fact")
    (case zk_check_key => walk_at "fact")
    (case zl_Node_shape => walk_at "fact")
    (case zd_Node_shape => walk_at "fact")
    (case zk_Node_shape => walk_at "fact")
    (case zl_Node_children => walk_at "fact")
    (case zd_Node_children => walk_at "fact")
    (case zk_Node_children => walk_at "fact")
    (case zl_Octets___init__ => walk_at "fact")
    (case zd_Octets___init__ => walk_at "fact")
    (case zk_Octets___init__ => walk_at "fact")
    (case zT_Octets___init__ => walk_at "fact")
    (case zV_Octets___init__ => walk_at "fact")
    (case zl_Octets_shape => walk_at "fact")
    (case zd_Octets_shape => walk_at "fact")
    (case zk_Octets_shape => walk_at "fact")
    (case zl_Octets_numbers => walk_at "fact")
    (case zd_Octets_numbers => walk_at "fact")
    (case zk_Octets_numbers => walk_at "fact")
    (case za_ascending => walk_at "fact")
    (case zl_ascending => walk_at "fact")
    (case zd_ascending => walk_at "fact")
    (case zk_ascending => walk_at "fact")
    (case zl_Bag___init__ => walk_at "fact")
    (case zd_Bag___init__ => walk_at "fact")
    (case zk_Bag___init__ => walk_at "fact")
    (case zl_Bag_of => walk_at "fact")
    (case zd_Bag_of => walk_at "fact")
    (case zk_Bag_of => walk_at "fact")
    (case zl_Bag_shape => walk_at "fact")
    (case zd_Bag_shape => walk_at "fact")
    (case zk_Bag_shape => walk_at "fact")
    (case zl_Bag_members => walk_at "fact")
    (case zd_Bag_members => walk_at "fact")
    (case zk_Bag_members => walk_at "fact")
    (case zl_Bag_children => walk_at "fact")
    (case zd_Bag_children => walk_at "fact")
    (case zk_Bag_children => walk_at "fact")
    (case za__law_begin => walk_at "fact")
    (case zl__law_begin => walk_at "fact")
    (case zd__law_begin => walk_at "fact")
    (case zk__law_begin => walk_at "fact")
    (case za__law_mixed => walk_at "fact")
    (case zl__law_mixed => walk_at "fact")
    (case zd__law_mixed => walk_at "fact")
    (case zk__law_mixed => walk_at "fact")
    (case za__law_next => walk_at "fact")
    (case zl__law_next => walk_at "fact")
    (case zd__law_next => walk_at "fact")
    (case zk__law_next => walk_at "fact")
    (case za__law_atom => walk_at "fact")
    (case zl__law_atom => walk_at "fact")
    (case zd__law_atom => walk_at "fact")
    (case zk__law_atom => walk_at "fact")
    (case za__law_tuple => walk_at "fact")
    (case zl__law_tuple => walk_at "fact")
    (case zd__law_tuple => walk_at "fact")
    (case zk__law_tuple => walk_at "fact")
    (case za__law_is_octets => walk_at "fact")
    (case zl__law_is_octets => walk_at "fact")
    (case zd__law_is_octets => walk_at "fact")
    (case zk__law_is_octets => walk_at "fact")
    (case za__law_octets_right => walk_at "fact")
    (case zl__law_octets_right => walk_at "fact")
    (case zd__law_octets_right => walk_at "fact")
    (case zk__law_octets_right => walk_at "fact")
    (case za__law_is_key => walk_at "fact")
    (case zl__law_is_key => walk_at "fact")
    (case zd__law_is_key => walk_at "fact")
    (case zk__law_is_key => walk_at "fact")
    (case za__law_due => walk_at "fact")
    (case zl__law_due => walk_at "fact")
    (case zd__law_due => walk_at "fact")
    (case zk__law_due => walk_at "fact")
    (case za__law_bag => walk_at "fact")
    (case zl__law_bag => walk_at "fact")
    (case zd__law_bag => walk_at "fact")
    (case zk__law_bag => walk_at "fact")
    (case za__law_bag_right => walk_at "fact")
    (case zl__law_bag_right => walk_at "fact")
    (case zd__law_bag_right => walk_at "fact")
    (case zk__law_bag_right => walk_at "fact")
    (case za__law_word => walk_at "fact")
    (case zl__law_word => walk_at "fact")
    (case zd__law_word => walk_at "fact")
    (case zk__law_word => walk_at "fact")
    (case za_law => walk_at "fact")
    (case zl_law => walk_at "fact")
    (case zd_law => walk_at "fact")
    (case zk_law => walk_at "fact")
    (case za_JarError => walk_at "fact")
    (case zt_JarError => walk_at "fact")
    (case zx_JarError => walk_at "fact")
    (case zh_JarError => walk_at "fact")
    (case za_InvalidNumbers => walk_at "fact")
    (case zt_InvalidNumbers => walk_at "fact")
    (case zx_InvalidNumbers => walk_at "fact")
    (case zh_InvalidNumbers => walk_at "fact")
    (case zi_InvalidNumbers => walk_at "fact")
    (case zo_InvalidNumbers => walk_at "fact")
    (case zI_InvalidNumbers => walk_at "fact")
    (case zf_InvalidNumbers => walk_at "fact")
    (case zl_InvalidNumbers => walk_at "fact")
    (case zq_InvalidNumbers => walk_at "fact")
    (case zs_InvalidNumbers => walk_at "fact")
    (case zB_InvalidNumbers => walk_at "fact")
    (case zST_InvalidNumbers => walk_at "fact")
    (case zA_InvalidNumbers => walk_at "fact")
    (case zT_InvalidNumbers_value => walk_at "fact")
    (case zn_InvalidNumbers_value => walk_at "fact")
    (case zC_InvalidNumbers => walk_at "fact")
    (case zD_InvalidNumbers => walk_at "fact")
    (case zE_InvalidNumbers => walk_at "fact")
    (case zM_InvalidNumbers => walk_at "fact")
    (case zN_InvalidNumbers => walk_at "fact")
    (case zP_InvalidNumbers => walk_at "fact")
    (case zk_InvalidNumbers => walk_at "fact")
    (case zga_InvalidNumbers => walk_at "fact")
    (case zgg_InvalidNumbers => walk_at "fact")
    (case zcc_InvalidNumbers => walk_at "fact")
    (case zcg_InvalidNumbers => walk_at "fact")
    (case zct_InvalidNumbers => walk_at "fact")
    (case zmo_InvalidNumbers => walk_at "fact")
    (case za_InvalidKey => walk_at "fact")
    (case zt_InvalidKey => walk_at "fact")
    (case zx_InvalidKey => walk_at "fact")
    (case zh_InvalidKey => walk_at "fact")
    (case zi_InvalidKey => walk_at "fact")
    (case zo_InvalidKey => walk_at "fact")
    (case zI_InvalidKey => walk_at "fact")
    (case zf_InvalidKey => walk_at "fact")
    (case zl_InvalidKey => walk_at "fact")
    (case zq_InvalidKey => walk_at "fact")
    (case zs_InvalidKey => walk_at "fact")
    (case zB_InvalidKey => walk_at "fact")
    (case zST_InvalidKey => walk_at "fact")
    (case zA_InvalidKey => walk_at "fact")
    (case zT_InvalidKey_key => walk_at "fact")
    (case zn_InvalidKey_key => walk_at "fact")
    (case zC_InvalidKey => walk_at "fact")
    (case zD_InvalidKey => walk_at "fact")
    (case zE_InvalidKey => walk_at "fact")
    (case zM_InvalidKey => walk_at "fact")
    (case zN_InvalidKey => walk_at "fact")
    (case zP_InvalidKey => walk_at "fact")
    (case zk_InvalidKey => walk_at "fact")
    (case zga_InvalidKey => walk_at "fact")
    (case zgg_InvalidKey => walk_at "fact")
    (case zcc_InvalidKey => walk_at "fact")
    (case zcg_InvalidKey => walk_at "fact")
    (case zct_InvalidKey => walk_at "fact")
    (case zmo_InvalidKey => walk_at "fact")
    (case za_StateError => walk_at "fact")
    (case zt_StateError => walk_at "fact")
    (case zx_StateError => walk_at "fact")
    (case zh_StateError => walk_at "fact")
    (case za_KeyTaken => walk_at "fact")
    (case zt_KeyTaken => walk_at "fact")
    (case zx_KeyTaken => walk_at "fact")
    (case zh_KeyTaken => walk_at "fact")
    (case zi_KeyTaken => walk_at "fact")
    (case zo_KeyTaken => walk_at "fact")
    (case zI_KeyTaken => walk_at "fact")
    (case zf_KeyTaken => walk_at "fact")
    (case zl_KeyTaken => walk_at "fact")
    (case zq_KeyTaken => walk_at "fact")
    (case zs_KeyTaken => walk_at "fact")
    (case zB_KeyTaken => walk_at "fact")
    (case zST_KeyTaken => walk_at "fact")
    (case zA_KeyTaken => walk_at "fact")
    (case zT_KeyTaken_key => walk_at "fact")
    (case zn_KeyTaken_key => walk_at "fact")
    (case zC_KeyTaken => walk_at "fact")
    (case zD_KeyTaken => walk_at "fact")
    (case zE_KeyTaken => walk_at "fact")
    (case zM_KeyTaken => walk_at "fact")
    (case zN_KeyTaken => walk_at "fact")
    (case zP_KeyTaken => walk_at "fact")
    (case zk_KeyTaken => walk_at "fact")
    (case zga_KeyTaken => walk_at "fact")
    (case zgg_KeyTaken => walk_at "fact")
    (case zcc_KeyTaken => walk_at "fact")
    (case zcg_KeyTaken => walk_at "fact")
    (case zct_KeyTaken => walk_at "fact")
    (case zmo_KeyTaken => walk_at "fact")
    (case za_MissingError => walk_at "fact")
    (case zt_MissingError => walk_at "fact")
    (case zx_MissingError => walk_at "fact")
    (case zh_MissingError => walk_at "fact")
    (case zu_InvalidNumbers_JarError => walk_at "fact")
    (case zv_InvalidNumbers_JarError => walk_at "fact")
    (case zu_InvalidNumbers_StateError => walk_at "fact")
    (case zv_InvalidNumbers_StateError => walk_at "fact")
    (case zu_InvalidNumbers_MissingError => walk_at "fact")
    (case zv_InvalidNumbers_MissingError => walk_at "fact")
    (case zu_InvalidKey_JarError => walk_at "fact")
    (case zv_InvalidKey_JarError => walk_at "fact")
    (case zu_InvalidKey_StateError => walk_at "fact")
    (case zv_InvalidKey_StateError => walk_at "fact")
    (case zu_InvalidKey_MissingError => walk_at "fact")
    (case zv_InvalidKey_MissingError => walk_at "fact")
    (case zu_KeyTaken_JarError => walk_at "fact")
    (case zv_KeyTaken_JarError => walk_at "fact")
    (case zu_KeyTaken_StateError => walk_at "fact")
    (case zv_KeyTaken_StateError => walk_at "fact")
    (case zu_KeyTaken_MissingError => walk_at "fact")
    (case zv_KeyTaken_MissingError => walk_at "fact")
    (case zu_InvalidNumbers_InvalidNumbers => walk_at "fact")
    (case zv_InvalidNumbers_InvalidNumbers => walk_at "fact")
    (case zu_InvalidKey_InvalidKey => walk_at "fact")
    (case zv_InvalidKey_InvalidKey => walk_at "fact")
    (case zu_KeyTaken_InvalidKey => walk_at "fact")
    (case zv_KeyTaken_InvalidKey => walk_at "fact")
    (case zu_KeyTaken_KeyTaken => walk_at "fact")
    (case zv_KeyTaken_KeyTaken => walk_at "fact")
