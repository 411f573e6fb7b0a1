import PyProof.Rows.All
import Wide.All
import OpenK.AllK
import Wide.FinOn
import HandS.ForMost
import HandS.Exc
import HandS.ExcOwn
import KE.KExcSuper
import HandS.ExcInit
import KE.KTryMore
import KE.KExcHand
import HandS.TryOnly
import KE.KExcIs
import HandS.IsInst
import PyProof.ReprRoads
import PyProof.CallFns
import HandS.TupMul
import KE.GoesMore
import KE.GoesEnum
import HandS.AnyAll
import HandS.EndBits
import HandS.Evl
import HandS.Walk
import HandS.Zip
import PyProof.ReprBulk
import HandS.Replace
import HandS.ExcValue
import HandS.SetFor
import HandS.Style
import HandS.Lambda
import HandS.EndTab
import HandS.WordsExc
import HandS.WrittenGet
import HandS.ReplaceLit
import HandS.ReplaceDef
import HandS.Conv
import PySem.Challenge.RW_brinejar_k08_opcodes_by_table
set_option Elab.async false
set_option linter.all false
set_option maxRecDepth 100000
set_option maxHeartbeats 4000000
/-! calls whose Around has no guards (no repr is running): promises, the rule for a def, the rules for calls -/
namespace BJ
open PySem PySem.Spec PyProof.Rows L2

/-- the promise of a def, for callers that no repr surrounds -/
structure FnG (P : Program) (w : World) (K : PySem.W.Frag) (mg : Str → Option Value) (base : Heap)
    (k : Nat) (f : Addr) (fd : FuncData) (ps : List Str) (sp : Sp) : Prop where
  len : ∀ vs H Q E, sp vs H Q E → vs.length = ps.length
  run : ∀ (A : Around) (outer : List Env) (s : Shared) (H : Hp) (args : Args) (us : List Value) (vs : List V) (Q : VK) (E : XK),
    Room k A → A.guards = some [] → Env0 P w K mg base A outer s H → BindsTo s fd args (ps.zip us) → Vals vs us →
    sp vs H Q E → codeAny (model P w) A (.call (.ref f) args) (CR (L2.CX P w) outer P w H s Q E) s

section
variable {P : Program} {w : World} {K : PySem.W.Frag} {mg : Str → Option Value} {base : Heap}
theorem FnG.mono {j k : Nat} {f : Addr} {fd : FuncData} {ps : List Str} {sp : Sp}
    (F : FnG P w K mg base j f fd ps sp) (h : j ≤ k) : FnG P w K mg base k f fd ps sp :=
  ⟨F.len, fun A o s H a us vs Q E hr => F.run A o s H a us vs Q E (hr.mono h)⟩

/-- the rule for a def -/
theorem fnG_of {k : Nat} {f : Addr} {name qual : Str} {params : Arguments} {body : List Stmt} {scope : Scope}
    {dV kV doc pm cdv ct oc : Value} {an od : Option Addr} {osl : Array (Option Value)} {N ps : List Str} {sp : Sp}
    (lk : K.lookup f = some ⟨oc, od, .func (PySem.W.fnOf name qual params body scope dV kV doc pm an cdv ct), osl⟩)
    (hcd : PySem.W.codeIn K cdv qual = true) (S : FnScope N ps scope)
    (len : ∀ vs H Q E, sp vs H Q E → vs.length = ps.length)
    (hbody : ∀ (A : Around) (outer : List Env) (s : Shared) (H : Hp) (vs : List V) (Q : VK) (E : XK),
      Room k (A.deeper (envOfC qual scope s.heap.objs.size f cdv)) → A.guards = some [] → sp vs H Q E →
      ∃ t, PSs (cxOf (L2.CX P w) P w K mg base N qual scope f cdv A outer s H E) body t ∧
        t { nx := fun _ H' => Q .non H', rt := Q } (start N vs) H) :
    FnG P w K mg base (k + 1) f (PySem.W.fnOf name qual params body scope dV kV doc pm an cdv ct) ps sp where
  len := len
  run := by
    intro A outer s H args us vs Q E room hg e0 bnd rel prom
    have KX : K.In s.heap := e0.mod.kin.keeps fun b o e => (e0.bs b o e).1
    have nl : s.heap.NoLimit := e0.mod.nolimit.keeps fun b o e => (e0.bs b o e).1
    have kinds : ∀ y ∈ ps.zip us, scope.names.lookup y.1 = some .local ∨
        (scope.names.lookup y.1 = some .cell ∧ ((cellsFrom (s.heap.objs.size + 1) scope.names []).lookup y.1).isSome = true) := by
      rintro ⟨n, v⟩ hy
      rcases S.par n (List.of_mem_zip hy).1 with q | q
      · exact .inl q
      · exact .inr ⟨q, PySem.W.cellsFrom_some _ _ _ (.inl q)⟩
    refine codeAny_call_function room.depth (KX _ _ lk) rfl S.co S.gen rfl (PySem.W.codeRec_of KX hcd) (bnd _ _ _ _ ?_)
    refine wpAny_newFunctionEnv_cells S.kind kinds fun env he s1 x => ?_
    subst he
    obtain ⟨t, ht, hq⟩ := hbody A outer s H vs Q E (room.deeper _) hg prom
    have I := inv_start (CX := L2.CX P w) (E := E) (cd := cdv) (f := f) (qual := qual) S room.hd e0 (len _ _ _ _ prom) rel x
    refine ⟨nl.keeps x.toInCall.keep, codeAny_func (wpAny_mono (ht.run [] s1 _ H _ I hq) (fun fl s' hs => ?_) fun e s' hs => hs)⟩
    match fl, hs with
    | .ret u, ⟨v, σ', H', J, rv, q⟩ => exact ⟨v, H', J.os, J.bare, J.base, J.hok, rv, q⟩
    | .next, ⟨σ', H', J, q⟩ => exact ⟨V.non, H', J.os, J.bare, J.base, J.hok, rfl, q⟩
    | .brk, ⟨_, _, _, q⟩ => exact q.elim
    | .cont, ⟨_, _, _, q⟩ => exact q.elim
end

/-- a value that may be called with positional values and the keywords ks: u (a def, a class) -/
def CallG (P : Program) (w : World) (K : PySem.W.Frag) (mg : Str → Option Value) (base : Heap) (k : Nat) (u : Value)
    (ks : List Str) (sp : List V → List V → Hp → VK → XK → Prop) : Prop :=
  ∀ (A : Around) (outer : List Env) (s : Shared) (H : Hp) (us ws : List Value) (vs zs : List V) (Q : VK) (E : XK),
    Room k A → A.guards = some [] → Env0 P w K mg base A outer s H → Vals vs us → Vals zs ws → sp vs zs H Q E →
    codeAny (model P w) A (.call u ⟨us, ks.zip ws⟩) (CR (L2.CX P w) outer P w H s Q E) s
/-- .. no keywords -/
abbrev CallP (P : Program) (w : World) (K : PySem.W.Frag) (mg : Str → Option Value) (base : Heap) (k : Nat) (u : Value) (sp : Sp) : Prop :=
  CallG P w K mg base k u [] fun vs zs H Q E => zs = [] ∧ sp vs H Q E

section
variable {P : Program} {w : World} {K : PySem.W.Frag} {mg : Str → Option Value} {base : Heap}
theorem CallG.mono {j k : Nat} {u : Value} {ks : List Str} {sp : List V → List V → Hp → VK → XK → Prop}
    (F : CallG P w K mg base j u ks sp) (h : j ≤ k) : CallG P w K mg base k u ks sp :=
  fun A o s H us ws vs zs Q E hr => F A o s H us ws vs zs Q E (hr.mono h)
/-- a def, positional values (the defaults ds behind them) -/
theorem FnG.callP {k : Nat} {f : Addr} {fd : FuncData} {ps : List Str} {sp : Sp} {ds : List Value} {dvs : List V}
    (F : FnG P w K mg base k f fd ps sp) (hb : Binds K fd ps ds) (hd : Vals dvs ds) :
    CallP P w K mg base k (.ref f) fun vs H Q E => sp (vs ++ dvs) H Q E := by
  rintro A outer s H us ws vs zs Q E room hg e0 rel relz ⟨rfl, prom⟩
  cases relz
  have r2 : Vals (vs ++ dvs) (us ++ ds) := rel.append hd
  have hl : (us ++ ds).length = ps.length := r2.length.symm.trans (F.len _ _ _ _ prom)
  have KX : K.In s.heap := e0.mod.kin.keeps fun b o e => (e0.bs b o e).1
  exact F.run A outer s H ⟨us, []⟩ (us ++ ds) (vs ++ dvs) Q E room hg e0 (hb s us KX hl) r2 prom
/-- .. with keywords -/
theorem FnG.callK {k : Nat} {f : Addr} {fd : FuncData} {ps ks : List Str} {sp : Sp}
    {g : List Value → List Value → List Value} {gV : List V → List V → List V} (F : FnG P w K mg base k f fd ps sp)
    (hb : KBinds K fd ps ks g gV) : CallG P w K mg base k (.ref f) ks fun vs zs H Q E => sp (gV vs zs) H Q E := by
  intro A outer s H us ws vs zs Q E room hg e0 rel relz prom
  have r2 := hb.rel rel relz
  have hl : (g us ws).length = ps.length := r2.length.symm.trans (F.len _ _ _ _ prom)
  have KX : K.In s.heap := e0.mod.kin.keeps fun b o e => (e0.bs b o e).1
  exact F.run A outer s H ⟨us, ks.zip ws⟩ (g us ws) (gV vs zs) Q E room hg e0 (hb.to s us ws KX hl) r2 prom
end

/-! ### the rules -/
section
variable {X : Cx} {k : Nat} {u : Value} {ks : List Str} {sp : Sp} {spk : List V → List V → Hp → VK → XK → Prop} {W : WX}
  {x m : Str} {p pos apos : Pos} {e o : Expr} {es : List Expr} {kws : List Keyword} {ta : TE} {t tk : TA}
/-- nothing that is raised is taken -/
theorem tkN : Takes X (fun _ _ _ _ => False) := fun _ _ ⟨_, _, _, _, _, _, _, _, _, _, _, _, _, _, _, _, q⟩ => q.elim

theorem run_callG {pins : List (Addr × Obj)} {σ : L2.St} {H : Hp} {s : Shared} {Q : VK} {us ws : List Value} {vs zs : List V}
    (F : CallG X.prog X.w X.K X.mg X.base k u ks spk) (hr : Room k X.A) (hG : X.A.guards = some []) (tkW : Takes X W)
    (I : Inv X pins σ H s) (r : Vals vs us) (rz : Vals zs ws) (h : spk vs zs H Q fun cls d H' => W cls d σ H') :
    wpAny (model X.prog X.w) X.A (call u us (ks.zip ws)) (EP X pins σ Q) X.xe s := by
  refine wpAny_call (codeAny_mono (F X.A X.stack s H us ws vs zs Q _ hr hG I.env0 r rz h) ?_)
  intro res s' hq
  match res, hq with
  | .error e, hq => exact tkW e s' (XE.of_call I (fun _ _ _ z => z) hq)
  | .ok (.ret u), hq => exact I.after hq

/-- f(e, ..) -/
def tCa (sp : Sp) (W : WX) (t : TA) : TE := fun σ H Q => t σ H fun vs H1 => sp vs H1 Q fun cls d H' => W cls d σ H'
theorem pe_ca (F : CallP X.prog X.w X.K X.mg X.base k u sp) (hr : Room k X.A) (hG : X.A.guards = some []) (hg : Gl X x) (hm : X.mg x = some u)
    (hk : PySem.W.keepIn X.K u = true) (tkW : Takes X W) (ha : PA X (e :: es) t) (hdb : (x == ("__debug__" : Str)) = false := by decide)
    (he : starEach (e :: es) X.env = (false, eval e X.env) :: starEach es X.env := by rfl)
    (hpl : (backTo pos (starEach es X.env)).any (·.1) = false := by rfl) : PE X (.Call (.Name x p) (e :: es) [] pos) (tCa sp W t) where
  run := by
    intro pins s σ H Q I h
    refine wpAny_Call_Name_kw (ld_glob I hg hm ?_ hdb)
    refine PySem.W.callWith_K (h₀ := X.base) I.ok.mod.kin hk (thn (ha.run pos pins s σ H _ I h) ?_) he hpl
    rintro us s1 ⟨vs, H1, I1, r, q⟩
    exact ⟨I1.kIn, run_callG (ws := []) (zs := []) F hr hG tkW I1 r .nil ⟨rfl, q⟩⟩
theorem pe_ca0 (F : CallP X.prog X.w X.K X.mg X.base k u sp) (hr : Room k X.A) (hG : X.A.guards = some []) (hg : Gl X x) (hm : X.mg x = some u)
    (hk : PySem.W.keepIn X.K u = true) (tkW : Takes X W) (hdb : (x == ("__debug__" : Str)) = false := by decide) :
    PE X (.Call (.Name x p) [] [] pos) (tCa sp W tNil) where
  run := by
    intro pins s σ H Q I h
    refine wpAny_Call_Name_kw (ld_glob I hg hm ?_ hdb)
    exact PySem.W.callWith_K0 I.kIn hk (run_callG (us := []) (vs := []) (ws := []) (zs := []) F hr hG tkW I .nil .nil ⟨rfl, h⟩)
/-- f(e, .., k = v, ..) -/
def tCaK (sp : List V → List V → Hp → VK → XK → Prop) (W : WX) (t tk : TA) : TE := fun σ H Q =>
  t σ H fun vs H1 => tk σ H1 fun zs H2 => sp vs zs H2 Q fun cls d H' => W cls d σ H'
theorem pe_caK (F : CallG X.prog X.w X.K X.mg X.base k u ks spk) (hr : Room k X.A) (hG : X.A.guards = some []) (hg : Gl X x) (hm : X.mg x = some u)
    (hk : PySem.W.keepIn X.K u = true) (tkW : Takes X W) (ha : PA X (e :: es) t) (hkw : PK X kws tk)
    (hall : (backToKw pos (keywordEach kws X.env)).all (·.1.isSome) = true := by rfl) (hks : (backToKw pos (keywordEach kws X.env)).filterMap (·.1) = ks := by rfl)
    (hdb : (x == ("__debug__" : Str)) = false := by decide) (he : starEach (e :: es) X.env = (false, eval e X.env) :: starEach es X.env := by rfl)
    (hpl : ((backTo pos (starEach (e :: es) X.env)).any (·.1) || (backToKw pos (keywordEach kws X.env)).any (·.1.isNone)) = false := by rfl) :
    PE X (.Call (.Name x p) (e :: es) kws pos) (tCaK spk W t tk) where
  run := by
    intro pins s σ H Q I h
    refine wpAny_Call_Name_kw (ld_glob I hg hm ?_ hdb)
    refine PySem.W.callWith_KW (h₀ := X.base) I.ok.mod.kin hk hall (thn (ha.run pos pins s σ H _ I h) ?_) hpl he
    rintro us s1 ⟨vs, H1, I1, r, q⟩
    refine thn (hkw.run pos pins s1 σ H1 _ I1 q) ?_
    rintro ws s2 ⟨zs, H2, I2, rz, q2⟩
    rw [hks]
    exact ⟨I2.kIn, run_callG F hr hG tkW I2 r rz q2⟩
/-- f(k = v, ..) -/
theorem pe_caK0 (F : CallG X.prog X.w X.K X.mg X.base k u ks spk) (hr : Room k X.A) (hG : X.A.guards = some []) (hg : Gl X x) (hm : X.mg x = some u)
    (hk : PySem.W.keepIn X.K u = true) (tkW : Takes X W) (hkw : PK X kws tk)
    (hall : (backToKw pos (keywordEach kws X.env)).all (·.1.isSome) = true := by rfl) (hks : (backToKw pos (keywordEach kws X.env)).filterMap (·.1) = ks := by rfl)
    (hdb : (x == ("__debug__" : Str)) = false := by decide)
    (hpl : ((backTo pos (starEach [] X.env)).any (·.1) || (backToKw pos (keywordEach kws X.env)).any (·.1.isNone)) = false := by rfl) :
    PE X (.Call (.Name x p) [] kws pos) (tCaK spk W tNil tk) where
  run := by
    intro pins s σ H Q I h
    refine wpAny_Call_Name_kw (ld_glob I hg hm ?_ hdb)
    refine PySem.W.callWith_KW0 (h₀ := X.base) I.ok.mod.kin hk hall (thn (hkw.run pos pins s σ H _ I h) ?_) hpl
    rintro ws s2 ⟨zs, H2, I2, rz, q2⟩
    rw [hks]
    exact ⟨I2.kIn, run_callG (us := []) (vs := []) F hr hG tkW I2 .nil rz q2⟩
end
end BJ

/-! own exception classes over a family over a built-in class; __init__(self, f, ..): super().__init__(text); self.f = f; .. -/
namespace BJ
open PySem PySem.Spec PyProof.Rows L2 Builtin Builtin.ObjectAttr
open PySem.W (Looks Frag findIn subIn nsIn typeIn keepIn codeIn hasDictIn clsIn takerIn excInitIn excOver excObj KxsFacts ksFn ksEnv ks_superIn isFn looks_findIn looks_clsIn InstAt kxs_mw)

/-- the built-in class at the end -/
structure Fam (B initId newId : String) (bm : List Value) : Prop where
  FB : ExcBaseFacts B newId initId bm
  SF : StoreFacts B bm "object.__setattr__" "object"
  KF : KxsFacts B initId
theorem famV : Fam "ValueError" "ValueError.__init__" "ValueError.__new__" [.type "ValueError", .type "Exception", .type "BaseException", .type "object"] := ⟨F.excBase_ValueError, F.store_ValueError, PySem.W.kxs_ValueError⟩
theorem famR : Fam "RuntimeError" "RuntimeError.__init__" "RuntimeError.__new__" [.type "RuntimeError", .type "Exception", .type "BaseException", .type "object"] :=
  ⟨F.excBase_RuntimeError, F.store_RuntimeError, PySem.W.kxs_RuntimeError⟩
theorem famL : Fam "LookupError" "LookupError.__init__" "LookupError.__new__" [.type "LookupError", .type "Exception", .type "BaseException", .type "object"] :=
  ⟨F.excBase_LookupError, F.store_LookupError, PySem.W.kxs_LookupError⟩

section
variable {prog : Program} {w : World} {M : Model} {A : Around} {E : Value → Shared → Prop} {R : Result → Shared → Prop} {hp : Heap} {g : Array GenState} {d : Drawn} {t : Nat} {os : OsState}
  {B initId newId : String} {bm : List Value} {K : Frag} {C x : Addr} {name : Str} {v : Value}
/-- the first field of a fresh exception: its dict is made -/
theorem errset_new {t0 : Addr} {Q : Unit → Shared → Prop} (FA : Fam B initId newId bm) (X : K.In hp) (hx : hp.get? x = some (excObj C t0 none .none))
    (ov : excOver K C bm = true) (hd : hasDictIn K C = true) (tk : takerIn K C name = some none)
    (sa : findIn K (.ref C) "__setattr__" = some (some (.builtin "object.__setattr__")))
    (hq : ∀ h' tk' dx, (∀ b o, b ≠ x → hp.get? b = some o → h'.get? b = some o) → hp.objs.size ≤ dx → dx ≠ x →
      h'.get? x = some (excObj C t0 (some dx) .none) → h'.Ns1 dx (fun y => if y = name then some v else none) → Q () ⟨h', g, d, tk', os⟩) :
    wpAny (model prog w) A (setAttr (.ref x) name v) Q E ⟨hp, g, d, t, os⟩ := by
  have I : InstAt hp x (excObj C t0 none .none) C none := ⟨hx, rfl, rfl, trivial⟩
  have hxs : x ≠ hp.objs.size := Nat.ne_of_lt (Heap.lt_size hx)
  obtain ⟨cd, hcd, hh⟩ : ∃ cd, clsIn K C = some cd ∧ cd.hasDict = true := by
    have z : (clsIn K C).any (·.hasDict) = true := hd
    cases e : clsIn K C with
    | none => rw [e] at z; cases z
    | some cd => rw [e] at z; exact ⟨cd, rfl, z⟩
  have hcls : Looks (model prog w) hp (classData C) cd := looks_clsIn X hcd
  obtain ⟨nm, bs, mro, ns, qn, hdd, sn, sb, ab, col, del⟩ := cd
  dsimp only at hh
  subst hh
  refine PySem.W.set_plain X I sa (PySem.W.osa_openX FA.SF X I ov tk fun b => ?_)
  show wpAny _ _ (storeInOwnDict (.ref x) (.ref C) (.str name t) name v b) _ _ _
  unfold storeInOwnDict ownDictForStores
  repeat (first
    | with_reducible refine HandSPX.store_in_new ?_ ?_
    | with_reducible refine wpAny_loadPart_at hx ?_
    | with_reducible refine hcls.at ?_
    | wp_step)
  · exact ⟨_, #[], _, (Heap.get?_update_ne _ _ _ _ hxs.symm).trans (Heap.get?_push_at rfl rfl), rfl, fun e he => absurd he (by simp), fun _ => rfl⟩
  · intro h' tk' hn' hs
    have hx₁ : (hp.push { cls := .type "dict", data := .dict #[] }).get? x = some (excObj C t0 none .none) := Heap.get?_push_of_some _ hx
    refine hq h' tk' hp.objs.size (fun b o hb ho => ?_) (Nat.le_refl _) hxs.symm ?_ hn'
    · exact (hs.2 b (Nat.ne_of_lt (Heap.lt_size ho))).trans ((Heap.get?_update_ne _ _ _ _ hb).trans (Heap.get?_push_of_some _ ho))
    · exact (hs.2 x hxs).trans (Heap.get?_update_self _ hx₁ rfl)
/-- a further field -/
theorem errset_old {t0 dx : Addr} {m0 : Str → Option Value} {nl : List Str} {Q : Unit → Shared → Prop} (FA : Fam B initId newId bm) (X : K.In hp)
    (hx : hp.get? x = some (excObj C t0 (some dx) .none)) (hns : hp.Ns1 dx m0) (hw : Within m0 nl) (hz : nl.length ≤ 1000)
    (ov : excOver K C bm = true) (hd : hasDictIn K C = true) (tk : takerIn K C name = some none)
    (sa : findIn K (.ref C) "__setattr__" = some (some (.builtin "object.__setattr__")))
    (hq : ∀ h' tk', (∀ b o, b ≠ dx → hp.get? b = some o → h'.get? b = some o) → h'.Ns1 dx (fun y => if y = name then some v else m0 y) → Q () ⟨h', g, d, tk', os⟩) :
    wpAny (model prog w) A (setAttr (.ref x) name v) Q E ⟨hp, g, d, t, os⟩ := by
  obtain ⟨oD, esD, epD, hoD, hdD, _⟩ := hns.count hw
  have I : InstAt hp x (excObj C t0 (some dx) .none) C (some oD) := ⟨hx, rfl, rfl, hoD⟩
  obtain ⟨cd, hcd, hh⟩ : ∃ cd, clsIn K C = some cd ∧ cd.hasDict = true := by
    have z : (clsIn K C).any (·.hasDict) = true := hd
    cases e : clsIn K C with
    | none => rw [e] at z; cases z
    | some cd => rw [e] at z; exact ⟨cd, rfl, z⟩
  have hcls : Looks (model prog w) hp (classData C) cd := looks_clsIn X hcd
  obtain ⟨nm, bs, mro, ns, qn, hdd, sn, sb, ab, col, del⟩ := cd
  dsimp only at hh
  subst hh
  refine PySem.W.set_plain X I sa (PySem.W.osa_openX FA.SF X I ov tk fun b => ?_)
  show wpAny _ _ (storeInOwnDict (.ref x) (.ref C) (.str name t) name v b) _ _ _
  unfold storeInOwnDict ownDictForStores
  repeat (first
    | with_reducible refine OEX.store_in_old hns hw hz ?_
    | with_reducible refine wpAny_loadPart_at hx ?_
    | with_reducible refine hcls.at ?_
    | wp_step)
  intro h' tk' hn' hs
  exact hq h' tk' (fun b o hb ho => (hs.2 b hb).trans ho) hn'

/-- super().__init__(text) in an own exception's __init__, called: the bound wrapper is called -/
theorem errcall {u e t0 : Addr} {rest : List Value} {Q : Value → Shared → Prop} (FA : Fam B initId newId bm) (X : K.In hp) (q : excInitIn K C bm newId = true)
    (he : hp.get? e = some (excObj C t0 none .none)) (hu : hp.get? u = some (kxs_mw initId e)) (hz : rest.length ≤ sizeLine)
    (hq : ∀ h' t1, (∀ b o, b ≠ e → hp.get? b = some o → h'.get? b = some o) → h'.get? e = some (excObj C t1 none .none) → Q .none ⟨h', g, d, t, os⟩) :
    wpAny (model prog w) A (call (.ref u) rest) Q E ⟨hp, g, d, t, os⟩ := by
  obtain ⟨nm, N', qn, bs, bm', hdct, sn, sub, ab, col, dd, k0, k1, k2, k3, k5, hC, hT⟩ := PySem.W.excInit_of X q
  refine wpAny_call (codeAny_of_tree ?_)
  show wpAny _ A.in1 (callAny (.ref u) ⟨rest, []⟩) _ _ _
  simp only [callAny]
  refine wpAny_bind (wpAny_load hu ?_)
  simp only [kxs_mw, show (Value.type "method-wrapper" == Value.type "method" || Value.type "method-wrapper" == Value.type "builtin_function_or_method" ||
    Value.type "method-wrapper" == Value.type "method-wrapper") = true by decide, if_true]
  refine PySem.W.KFB.if_so (by decide) (wpAny_bind (PySem.W.check_bound_init FA.FB.toExcCallFacts hC he rfl ?_))
  refine wpAny_bind (wpAny_pure (wpAny_pure ⟨plainId_quiet FA.FB.init.plain _, codeAny_builtin FA.FB.initEntry ?_⟩))
  exact PySem.W.exc_init_tree (cls := .ref C) (t0 := t0) (dv := none) (c2 := .none) (c3 := .none) (b4 := .bool false) he hz fun h' k e' _ => hq h' _ k e'
end
end BJ

/-! the run of such an __init__; the class called -/
namespace BJ
open PySem PySem.Spec PyProof.Rows L2 Builtin Builtin.ObjectAttr
open PySem.W (Looks Frag findIn subIn nsIn typeIn keepIn codeIn hasDictIn clsIn takerIn excInitIn excOver excObj KxsFacts ksFn ksEnv ks_superIn isFn looks_findIn looks_clsIn InstAt kxs_mw)

/-! ### the text -/
def eiA (fs : List (Str × Pos)) (p : Pos) : Arguments :=
  { posonlyargs := [], args := { arg := "self", annotation := none, pos := p } :: fs.map fun f => { arg := f.1, annotation := none, pos := f.2 },
    vararg := none, kwonlyargs := [], kw_defaults := [], kwarg := none, defaults := [] }
def eiSup (t : Str) (p0 p1 p2 p3 p4 : Pos) : Stmt :=
  .Expr (.Call (.Attribute (.Call (.Name "super" p0) [] [] p1) "__init__" p2) [.Constant (.str t) 0 p3] [] p4) p4
def eiSet (f : Str) (q1 q2 q3 q4 : Pos) : Stmt := .Assign [.Attribute (.Name "self" q1) f q2] (.Name f q3) q4
def eiS (fs : List Str) : Scope := { kind := .function, names := (("self" : Str), NameKind.local) :: (fs.map (fun f => (f, NameKind.local)) ++ [(("__class__" : Str), NameKind.free), (("super" : Str), NameKind.globalImplicit)]), isGenerator := false, isCoroutine := false, more := [] }

/-- what the written part says of the class at C, its __init__ at fI, the class cell at cc, the code object at cda -/
structure ErrK (prog : Program) (K : Frag) (mg : Str → Option Value) (C fI cc cda : Addr) (B initId newId : String) (bm : List Value) (x : Str) (fs : List Str) : Prop where
  fam : Fam B initId newId bm
  gC : mg x = some (.ref C)
  ini : excInitIn K C bm newId = true
  ov : excOver K C bm = true
  hd : hasDictIn K C = true
  iC : findIn K (.ref C) "__init__" = some (some (.ref fI))
  isf : isFn K (.ref fI) = true
  sup : ks_superIn K C C "__init__" = some (some (.builtin initId))
  subB : subIn K (.ref C) (.type B) = some true
  stat : nsIn K PySem.cStatics "thirdparty.any" = some none
  super : mg "super" = none
  sa : findIn K (.ref C) "__setattr__" = some (some (.builtin "object.__setattr__"))
  tk : ∀ f ∈ fs, takerIn K C f = some none
  cell : ∃ cl cld csl, K.lookup cc = some ⟨cl, cld, .cell (some (.ref C)), csl⟩
  code : ∃ ccl cdd vs ccs tf, K.lookup cda = some ⟨ccl, cdd, .fields vs, ccs⟩ ∧ vs[2]? = some (.str prog.main.file tf)
  mro : PySem.W.mroIn K C (.ref C) = some true
  cls : ∃ cd, clsIn K C = some cd
  top : (prog.main.scope.names.lookup ("super" : Str)).isSome = false

section
variable {prog : Program} {w : World} {A : Around} {E : Value → Shared → Prop} {R : Result → Shared → Prop} {s : Shared} {K : Frag} {mg : Str → Option Value} {base : Heap}
  {B initId newId : String} {bm : List Value} {C fI cc cda x : Addr} {cn qual t : Str} {fs : List Str}

theorem eval_sup {o : Expr} {name : Str} {p2 p4 p3 : Pos} {env : Env} (hl : (p2.endLine == p4.line) = true) : eval (.Call (.Attribute o name p2) [.Constant (.str t) 0 p3] [] p4) env = (do
      let ov ← attributeBase o name env (eval o env)
      standAt p2.atName
      let (f, first) ← holding [ov] (getMethod ov name (do return (← importBound o env).getD true))
      callWith p4 f first (backTo p4 (starEach [.Constant (.str t) 0 p3] env)) []) := by
  show (do
    let ov ← attributeBase o name env (eval o env)
    standAt p2.atName
    methodCall o name p2 p4 env ov 1 (backTo p4 (starEach [.Constant (.str t) 0 p3] env)) []) = _
  have e : ∀ ov, methodCall o name p2 p4 env ov 1 (backTo p4 (starEach [.Constant (.str t) 0 p3] env)) [] = (do
      let (f, first) ← holding [ov] (getMethod ov name (do return (← importBound o env).getD true))
      callWith p4 f first (backTo p4 (starEach [.Constant (.str t) 0 p3] env)) []) := fun ov => by
    unfold methodCall methodCallPos
    rw [hl, Bool.or_true, if_pos rfl]
    rfl
  simp only [e]
/-- the first statement -/
theorem err_sup (T : ErrK prog K mg C fI cc cda B initId newId bm cn fs) (M0 : Mod K mg base) {scope : Scope} {body : List Stmt} {L : Addr} {m : Str → Option Value} {oI : Obj} {fd : FuncData} {ar : Arg}
    (kb : ∀ b o, base.get? b = some o → s.heap.get? b = some o) {t0 : Addr} (hx : s.heap.get? x = some (excObj C t0 none .none)) (hns : s.heap.Ns L m) (hm : m "self" = some (.ref x)) (xL : L ≠ x)
    (lk : K.lookup fI = some oI) (hfd : oI.data = .func fd) (hp : (fd.params.posonlyargs ++ fd.params.args).head? = some ar) (har : ar.arg = "self")
    (hk : scope.kind = .function) (hka : scope.names.lookup ("self" : Str) = some .local) (hkc : scope.names.lookup ("__class__" : Str) = some .free) (hks : scope.names.lookup ("super" : Str) = some .globalImplicit)
    {p0 p1 p2 p3 p4 : Pos} {Q : Flow → Shared → Prop} (hl : (p2.endLine == p4.line) = true)
    (hq : ∀ h' tk' t1, (∀ b o, b ≠ x → s.heap.get? b = some o → h'.get? b = some o) → h'.get? x = some (excObj C t1 none .none) → h'.Ns L m → Q .next { s with heap := h', toks := tk' }) :
    _root_.PySem.wpAt (model prog w) A (.func body (ksEnv qual scope L fI (.ref cda) cc)) (exec (eiSup t p0 p1 p2 p3 p4) (ksEnv qual scope L fI (.ref cda) cc)) Q E s := by
  have X : K.In s.heap := M0.kin.keeps kb
  obtain ⟨ccl, cdd, vs, ccs, tf, hcode, hvs⟩ := T.code
  obtain ⟨cl, cld, csl, hcell⟩ := T.cell
  obtain ⟨cd, hcd⟩ := T.cls
  obtain ⟨mb, hb1, hb2⟩ := M0.blt
  obtain ⟨oD, hD1, hD2⟩ : ∃ oD, s.heap.get? C = some oD ∧ oD.data = .cls cd := by
    have hcd' := hcd
    unfold PySem.W.clsIn at hcd'
    split at hcd'
    · rename_i c d cd' sl ho
      cases hcd'
      exact ⟨_, X _ _ ho, rfl⟩
    · cases hcd'
  have I : InstAt s.heap x (excObj C t0 none .none) C none := ⟨hx, rfl, rfl, trivial⟩
  obtain ⟨hh, g, d, tk, os⟩ := s
  refine ks_wpAt_Expr_any (ks_wpAt_MethodCall (ks_wpAt_super_base (of := oI) (fd := fd) (ar := ar) (vs := vs) (file := prog.main.file) (tf := tf) hks hkc (by decide) rfl (X _ _ lk) hfd hp rfl (X _ _ hcode) rfl hvs (by simp) T.top ?_) (eval_sup hl)) (by simp [interactive, hk])
  refine PySem.W.ks_loadName_global hk hks (Calls.loadGlobal_builtin (M0.glob.keeps kb) T.super (hb1.keeps kb) ((hb2 _ (by decide)).trans (show bootBuiltins "super" = some (.type "super") by decide +kernel)) ⟨rfl, ?_⟩)
  refine wpAny_loadName_free hk hkc rfl ⟨_, X _ _ hcell, rfl⟩ ?_
  refine wpAny_loadName_local hk (by rw [har]; exact hka) hns (by rw [har]; exact hm) ?_
  refine ks_wpAny_isType_cls hD1 hD2 ⟨rfl, ?_⟩
  refine ks_wpAny_call_super hD1 hD2 hx rfl (fun c e => nomatch e) (PySem.W.looks_mroIn X T.mro) fun h1 e1 k1 => ?_
  have X1 : K.In h1 := X.keeps k1
  have hm1 : Looks (model prog w) h1 (mroOf (.ref C)) cd.mro := (looks_clsIn X1 hcd).andThen .now
  have sup := T.sup
  unfold PySem.W.ks_superIn at sup
  rw [hcd, Option.bind_some] at sup
  have xC : x ≠ C := PySem.W.ks_ne X I hcd
  refine PySem.W.kxs_getMethod T.fam.KF e1 (PySem.W.looks_opaque X1 T.stat) hm1 rfl X1 sup ((InstAt.type (od := none) ⟨k1 _ _ hx, rfl, rfl, trivial⟩ : Looks _ h1 (typeOf (.ref x)) (.ref C)).andThen (PySem.W.looks_subIn X1 T.subB)) xC (by decide) ?_
  have hpu : (h1.push (kxs_mw initId x)).get? h1.objs.size = some (kxs_mw initId x) := Heap.get?_push_at rfl rfl
  refine PySem.W.kxs_callWith (i := initId) (x := x) rfl ?_
  refine Calls.evalArgs_plain (Calls.spliced_cons (Calls.Constant_str (k := 0) (pos := p3) ?_))
  refine Calls.spliced_nil ⟨hpu, ?_⟩
  refine errcall T.fam (X1.keeps fun b o e => Heap.get?_push_of_some _ e) T.ini (Heap.get?_push_of_some _ (k1 _ _ hx)) hpu (by rw [sizeLine_eq]; show 1 ≤ 16777216; decide) fun h' t1 k' hx' => ?_
  have ka : ∀ b o, b ≠ x → hh.get? b = some o → h'.get? b = some o := fun b o hb e => k' b o hb (Heap.get?_push_of_some _ (k1 _ _ e))
  refine hq h' _ t1 ka hx' ?_
  obtain ⟨o, es, ep, ho, r⟩ := hns
  exact ⟨o, es, ep, ka _ _ xL ho, r⟩

/-- a name of the frame -/
theorem ldF {M : Model} {m : Str → Option Value} {env : Env} {y : Str} {pos : Pos} {v : Value} {Q : Value → Shared → Prop} (hk : env.scope.kind = .function)
    (hl : env.kindOf y = some .local) (hn : s.heap.Ns env.locals m) (hv : m y = some v) (h : Q v s) (hd : (y == ("__debug__" : Str)) = false) : wpAny M A (eval (.Name y pos) env) Q E s :=
  wpAny_Name (wpAny_loadName_local hk hl hn hv h) hd
theorem err_fn (T : ErrK prog K mg C fI cc cda B initId newId bm cn fs) (X : K.In s.heap) : ∃ o, s.heap.get? fI = some o ∧ o.cls = .type "function" := by
  obtain ⟨o, ho, hc⟩ := Option.map_eq_some_iff.mp (show (K.lookup fI).map (·.cls) = some (.type "function") from beq_iff_eq.mp T.isf)
  exact ⟨o, X _ _ ho, hc⟩

/-- the stores -/
def setsB (l : List (Str × Pos × Pos × Pos × Pos)) : List Stmt := l.map fun y => eiSet y.1 y.2.1 y.2.2.1 y.2.2.2.1 y.2.2.2.2
/-- what a frame must know for a store -/
structure SetOk (K : Frag) (C x L : Addr) (env : Env) (m : Str → Option Value) (val : Str → Value) (f : Str) : Prop where
  tk : takerIn K C f = some none
  loc : env.kindOf f = some .local
  at_ : m f = some (val f)
  dbg : (f == ("__debug__" : Str)) = false
def putM (l : List Str) (val : Str → Value) (m0 : Str → Option Value) : Str → Option Value := fun y => if y ∈ l then some (val y) else m0 y
theorem putM_nil {val : Str → Value} {m0 : Str → Option Value} : putM [] val m0 = m0 := by
  funext y
  simp [putM]
theorem putM_cons {f : Str} {l : List Str} {val : Str → Value} {m0 : Str → Option Value} : putM l val (fun y => if y = f then some (val f) else m0 y) = putM (f :: l) val m0 := by
  funext y
  unfold putM
  by_cases h : y ∈ l
  · simp [h]
  · by_cases e : y = f
    · subst e; simp [h]
    · simp [h, e]
theorem sets_old {env : Env} {m : Str → Option Value} {val : Str → Value} {dx t0 : Addr} (FA : Fam B initId newId bm) (ov : excOver K C bm = true) (hd : hasDictIn K C = true)
    (sa : findIn K (.ref C) "__setattr__" = some (some (.builtin "object.__setattr__"))) (hk : env.scope.kind = .function) (hself : env.kindOf "self" = some .local) (hms : m "self" = some (.ref x)) (Ld : env.locals ≠ dx) (xd : x ≠ dx) (nK : K.lookup dx = none) :
    ∀ (l : List (Str × Pos × Pos × Pos × Pos)) (s : Shared) (m0 : Str → Option Value) (nl : List Str) (Q : Flow → Shared → Prop), K.In s.heap → s.heap.get? x = some (excObj C t0 (some dx) .none) → s.heap.Ns1 dx m0 → Within m0 nl → nl.length + l.length ≤ 1000 →
      s.heap.Ns env.locals m → (∀ y ∈ l, SetOk K C x env.locals env m val y.1) →
      (∀ h' tk', (∀ b o, b ≠ dx → s.heap.get? b = some o → h'.get? b = some o) → h'.Ns1 dx (putM (l.map (·.1)) val m0) → Q .next { s with heap := h', toks := tk' }) →
      wpAny (model prog w) A (execs (setsB l) env) Q E s
  | [], s, m0, nl, Q, X, hx, hns, hw, hz, hF, hy, hq => by
    refine wpAny_execs_nil (hq s.heap s.toks (fun _ _ _ e => e) ?_)
    rw [List.map_nil, putM_nil]
    exact hns
  | y :: r, s, m0, nl, Q, X, hx, hns, hw, hz, hF, hy, hq => by
    have S := hy y List.mem_cons_self
    rw [List.length_cons] at hz
    refine wpAny_execs_cons (plainObj_wpAny_Assign_Attribute (ldF hk S.loc hF S.at_ (ldF hk hself hF hms ?_ (by decide)) S.dbg))
    obtain ⟨hp, g, d, t, os⟩ := s
    refine errset_old FA X hx hns hw (by omega) ov hd S.tk sa fun h' tk' k' n' => ?_
    have X' : K.In h' := fun a o e => k' a o (fun z => by rw [z, nK] at e; cases e) (X a o e)
    have hF' : h'.Ns env.locals m := by
      obtain ⟨o, es, ep, ho, r⟩ := hF
      exact ⟨o, es, ep, k' _ _ Ld ho, r⟩
    refine sets_old FA ov hd sa hk hself hms Ld xd nK r ⟨h', g, d, tk', os⟩ _ (y.1 :: nl) Q X' (k' _ _ xd hx) n' (Within.cons _ _ hw) (by rw [List.length_cons]; omega) hF' (fun z hz => hy z (List.mem_cons_of_mem _ hz)) fun h2 tk2 k2 n2 => ?_
    refine hq h2 tk2 (fun b o hb e => k2 b o hb (k' b o hb e)) ?_
    rw [List.map_cons, ← putM_cons]
    exact n2

/-- what is left of a made exception: its object at e, its dict at d -/
structure ErrMade (h h' : Heap) (e C d : Addr) (mA : Str → Option Value) : Prop where
  keep : ∀ b o, h.get? b = some o → h'.get? b = some o
  new : h.objs.size ≤ e
  obj : ∃ t0, h'.get? e = some (excObj C t0 (some d) .none)
  dnew : h.objs.size ≤ d
  dne : d ≠ e
  ns : h'.Ns1 d mA

/-- the text of __init__ with the fields fs; the function object -/
structure IniK (K : Frag) (fI cc cda : Addr) (qual t : Str) (fs : List Str) : Prop where
  lk : ∃ (oc : Value) (od : Option Addr) (dV kV doc pm : Value) (an : Option Addr) (ct : Value) (osl : Array (Option Value)) (p : Pos) (qs : List Pos) (p0 p1 p2 p3 p4 : Pos) (l : List (Str × Pos × Pos × Pos × Pos)),
    K.lookup fI = some ⟨oc, od, .func (ksFn "__init__" qual (eiA (fs.zip qs) p) (eiSup t p0 p1 p2 p3 p4 :: setsB l) (eiS fs) dV kV doc pm an (.ref cda) ct cc), osl⟩ ∧
      (p2.endLine == p4.line) = true ∧ l.map (·.1) = fs ∧ qs.length = fs.length
  code : codeIn K (.ref cda) qual = true
  ne : ∀ f ∈ fs, ¬ f = "self" ∧ ¬ f = "__class__" ∧ ¬ f = "super" ∧ (f == ("__debug__" : Str)) = false
  nd : fs.Nodup
  some_ : fs ≠ [] ∧ fs.length ≤ 10
  bind : ∀ fd, (∃ oc od osl, K.lookup fI = some ⟨oc, od, .func fd, osl⟩) → ∀ (u : Value) (us : List Value), us.length = fs.length → bindArgs fd ⟨u :: us, []⟩ = pure ((("self" : Str), u) :: fs.zip us)

theorem lookup_cons_if {β : Type} (a : Str) (b : β) (l : List (Str × β)) (y : Str) : List.lookup y ((a, b) :: l) = if y = a then some b else l.lookup y := by
  rw [List.lookup_cons]
  by_cases h : y = a
  · subst h; simp
  · have z : (y == a) = false := by simpa using h
    rw [z, if_neg h]
theorem lookup_append_ {β : Type} (l r : List (Str × β)) (y : Str) : List.lookup y (l ++ r) = (l.lookup y).or (r.lookup y) := by
  induction l with
  | nil => simp
  | cons p l ih =>
    obtain ⟨a, b⟩ := p
    rw [List.cons_append, lookup_cons_if, lookup_cons_if, ih]
    split <;> simp
theorem lookup_rev {β : Type} : ∀ (l : List (Str × β)), (l.map (·.1)).Nodup → ∀ k v, (k, v) ∈ l → l.reverse.lookup k = some v
  | [], _, _, _, h => nomatch h
  | (a, b) :: l, nd, k, v, h => by
    rw [List.map_cons, List.nodup_cons] at nd
    rw [List.reverse_cons, lookup_append_]
    rcases List.mem_cons.mp h with e | h
    · injection e with e1 e2
      subst e1
      subst e2
      have z : l.reverse.lookup k = none := by
        rw [List.lookup_eq_none_iff]
        intro p hp
        have hp' : p ∈ l := by simpa using hp
        have : ¬ k = p.1 := fun e => nd.1 (by rw [e]; exact List.mem_map_of_mem (f := (·.1)) hp')
        simpa using this
      rw [z, Option.none_or, lookup_cons_if, if_pos rfl]
    · rw [lookup_rev l nd.2 k v h]
      rfl
theorem eiS_loc {fs : List Str} {y : Str} (h : y = "self" ∨ y ∈ fs) : (eiS fs).names.lookup y = some .local := by
  unfold eiS
  show List.lookup y ((("self" : Str), NameKind.local) :: _) = _
  rw [lookup_cons_if]
  by_cases e : y = "self"
  · rw [if_pos e]
  · rw [if_neg e, lookup_append_]
    have hy : y ∈ fs := h.resolve_left e
    have : (fs.map fun f => (f, NameKind.local)).lookup y = some .local := by
      clear h e
      induction fs with
      | nil => cases hy
      | cons a l ih =>
        rw [List.map_cons, lookup_cons_if]
        by_cases e : y = a
        · rw [if_pos e]
        · rw [if_neg e]
          exact ih ((List.mem_cons.mp hy).resolve_left e)
    rw [this]
    rfl
theorem eiS_out {fs : List Str} {y : Str} (h : ¬ y = "self") (hy : y ∉ fs) : (eiS fs).names.lookup y = List.lookup y [(("__class__" : Str), NameKind.free), (("super" : Str), NameKind.globalImplicit)] := by
  unfold eiS
  show List.lookup y ((("self" : Str), NameKind.local) :: _) = _
  rw [lookup_cons_if, if_neg h, lookup_append_]
  have : (fs.map fun f => (f, NameKind.local)).lookup y = none := by
    rw [List.lookup_eq_none_iff]
    intro p hp
    obtain ⟨f, hf, rfl⟩ := List.mem_map.mp hp
    have : ¬ y = f := fun e => hy (e ▸ hf)
    simpa using this
  rw [this]
  rfl
theorem eiS_cell {fs : List Str} : ∀ z ∈ (eiS fs).names, z.2 ≠ .cell := by
  intro z hz
  unfold eiS at hz
  rcases List.mem_cons.mp hz with rfl | hz
  · exact fun e => nomatch e
  rcases List.mem_append.mp hz with hz | hz
  · obtain ⟨f, _, rfl⟩ := List.mem_map.mp hz
    exact fun e => nomatch e
  · rcases List.mem_cons.mp hz with rfl | hz
    · exact fun e => nomatch e
    · rcases List.mem_cons.mp hz with rfl | hz
      · exact fun e => nomatch e
      · cases hz

/-- THE RUN of __init__ -/
theorem err_init (T : ErrK prog K mg C fI cc cda B initId newId bm cn fs) (N : IniK K fI cc cda qual t fs) (M0 : Mod K mg base) {us : List Value} {args : Args} {t0 : Addr} (hul : us.length = fs.length)
    (kb : ∀ b o, base.get? b = some o → s.heap.get? b = some o) (hx : s.heap.get? x = some (excObj C t0 none .none)) (nK : K.lookup x = none) (hroom : A.depth < recursionLimit)
    (hb : ∀ fd, (∃ oc od osl, K.lookup fI = some ⟨oc, od, .func fd, osl⟩) → BindsTo s fd args ((("self" : Str), Value.ref x) :: fs.zip us))
    (hq : ∀ h' tk' d t1, (∀ b o, b ≠ x → s.heap.get? b = some o → h'.get? b = some o) → s.heap.objs.size ≤ d → h'.get? x = some (excObj C t1 (some d) .none) →
      h'.Ns1 d (putM fs (fun f => ((fs.zip us).lookup f).getD .none) fun _ => none) → R (.ok (.ret .none)) { s with heap := h', toks := tk' }) :
    codeAny (model prog w) A (.call (.ref fI) args) R s := by
  obtain ⟨oc, od, dV, kV, doc, pm, an, ct, osl, p, qs, p0, p1, p2, p3, p4, l, lk, hl, hlf, hqs⟩ := N.lk
  have X : K.In s.heap := M0.kin.keeps kb
  have nl : s.heap.NoLimit := M0.nolimit.keeps kb
  have zf : (fs.zip us).map (·.1) = fs := by rw [List.map_fst_zip (by omega)]
  have nself : ("self" : Str) ∉ fs := fun h => (N.ne _ h).1 rfl
  have nd' : (((("self" : Str), Value.ref x) :: fs.zip us).map (·.1)).Nodup := by
    rw [List.map_cons, zf]
    exact List.nodup_cons.mpr ⟨nself, N.nd⟩
  refine PySem.ks_codeAny_call_defAt (binds := (("self" : Str), Value.ref x) :: fs.zip us) hroom (X _ _ lk) rfl nl (PySem.W.codeRec_of X N.code) rfl (hb _ ⟨_, _, _, lk⟩) eiS_cell (fun y hy => eiS_loc ?_) (fun h₁ hns k₁ => ?_) rfl rfl rfl
  · rcases List.mem_cons.mp hy with rfl | hy
    · exact .inl rfl
    · exact .inr (List.of_mem_zip hy).1
  have hm : ((("self" : Str), Value.ref x) :: fs.zip us).reverse.lookup ("self" : Str) = some (Value.ref x) := lookup_rev _ nd' _ _ List.mem_cons_self
  have hmf : ∀ f ∈ fs, ((("self" : Str), Value.ref x) :: fs.zip us).reverse.lookup f = some (((fs.zip us).lookup f).getD .none) := fun f hf => by
    have : f ∈ (fs.zip us).map (·.1) := by rw [zf]; exact hf
    obtain ⟨⟨f', u⟩, hm', rfl⟩ := List.mem_map.mp this
    have ndz : ((fs.zip us).map (·.1)).Nodup := by rw [zf]; exact N.nd
    have e1 : (fs.zip us).lookup f' = some u := by
      have z := lookup_rev ((fs.zip us).reverse) (by rw [List.map_reverse]; exact (List.reverse_perm _).nodup_iff.mpr ndz) f' u (by simpa using hm')
      rw [List.reverse_reverse] at z
      exact z
    show _ = some (((fs.zip us).lookup f').getD .none)
    rw [e1]
    exact lookup_rev _ nd' _ _ (List.mem_cons_of_mem _ hm')
  have hxL : s.heap.objs.size ≠ x := Nat.ne_of_gt (Heap.lt_size hx)
  have ncl : ("__class__" : Str) ∉ fs := fun h => (N.ne _ h).2.1 rfl
  have nsu : ("super" : Str) ∉ fs := fun h => (N.ne _ h).2.2.1 rfl
  refine ks_wpAt_execs_cons (err_sup (scope := eiS fs) T M0 (fun b o e => k₁ b o (kb b o e)) (k₁ _ _ hx) hns hm hxL lk rfl rfl rfl rfl (eiS_loc (.inl rfl)) ?_ ?_ hl fun h2 tk2 t2 k2 hx2 hns2 => ?_)
  · rw [eiS_out (by decide) ncl]; rfl
  · rw [eiS_out (by decide) nsu]; rfl
  show _root_.PySem.wpAt _ _ _ (execs (setsB l) _) _ _ _
  refine wpAt_of_wpAny ?_
  have X2 : K.In h2 := fun a o e => k2 a o (fun z => by rw [z, nK] at e; cases e) (k₁ a o (X a o e))
  obtain ⟨hne, hlen⟩ := N.some_
  cases l with
  | nil => exact absurd hlf.symm hne
  | cons y r =>
    have setok : ∀ z ∈ y :: r, SetOk K C x s.heap.objs.size (ksEnv qual (eiS fs) s.heap.objs.size fI (.ref cda) cc) (fun y => ((("self" : Str), Value.ref x) :: fs.zip us).reverse.lookup y)
        (fun f => ((fs.zip us).lookup f).getD .none) z.1 := fun z hz => by
      have hzf : z.1 ∈ fs := by rw [← hlf]; exact List.mem_map_of_mem hz
      exact ⟨T.tk _ hzf, eiS_loc (.inr hzf), hmf _ hzf, (N.ne _ hzf).2.2.2⟩
    have S := setok y List.mem_cons_self
    refine wpAny_execs_cons (plainObj_wpAny_Assign_Attribute (ldF rfl S.loc hns2 S.at_ (ldF rfl (eiS_loc (.inl rfl)) hns2 hm ?_ (by decide)) S.dbg))
    refine errset_new T.fam X2 hx2 T.ov T.hd S.tk T.sa fun h3 tk3 dx k3 dz dxn hx3 n3 => ?_
    have nKd : K.lookup dx = none := by
      cases e : K.lookup dx with
      | none => rfl
      | some o => exact absurd (Heap.lt_size (X2 _ _ e)) (Nat.not_lt.mpr dz)
    have X3 : K.In h3 := fun a o e => k3 a o (fun z => by rw [z, nK] at e; cases e) (X2 a o e)
    have Ld : s.heap.objs.size ≠ dx := Nat.ne_of_lt (Nat.lt_of_lt_of_le hns2.lt dz)
    have hns3 : h3.Ns s.heap.objs.size (fun y => ((("self" : Str), Value.ref x) :: fs.zip us).reverse.lookup y) := by
      obtain ⟨o, es, ep, ho, r⟩ := hns2
      exact ⟨o, es, ep, k3 _ _ hxL ho, r⟩
    have hrl : r.length ≤ 10 := by
      have := congrArg List.length hlf
      rw [List.length_map, List.length_cons] at this
      omega
    refine sets_old (env := ksEnv qual (eiS fs) s.heap.objs.size fI (.ref cda) cc) T.fam T.ov T.hd T.sa (m := fun y => ((("self" : Str), Value.ref x) :: fs.zip us).reverse.lookup y) (val := fun f => ((fs.zip us).lookup f).getD .none) (dx := dx) rfl (eiS_loc (.inl rfl)) hm Ld dxn.symm nKd r
      _ _ [y.1] _ X3 hx3 n3 (Within.cons _ _ Within.nil) (by rw [List.length_singleton]; omega) hns3 (fun z hz => setok z (List.mem_cons_of_mem _ hz)) fun h4 tk4 k4 n4 => ?_
    refine hq h4 tk4 dx t2 (fun b o hb e => ?_) (Nat.le_of_lt (Nat.lt_of_lt_of_le hns2.lt dz)) (k4 _ _ dxn.symm hx3) ?_
    · have e2 := k2 b o hb (k₁ b o e)
      have nbd : b ≠ dx := Nat.ne_of_lt (Nat.lt_of_lt_of_le (Heap.lt_size e2) dz)
      exact k4 b o nbd (k3 b o hb e2)
    · have e4 : putM (r.map (·.1)) (fun f => ((fs.zip us).lookup f).getD .none) (fun z => if z = y.1 then some (((fs.zip us).lookup y.1).getD .none) else none) = putM fs (fun f => ((fs.zip us).lookup f).getD .none) fun _ => none := by
        have q := putM_cons (f := y.1) (l := r.map (·.1)) (val := fun f => ((fs.zip us).lookup f).getD .none) (m0 := fun _ => none)
        rw [← List.map_cons, hlf] at q
        exact q
      rw [← e4]
      exact n4

/-- the class called -/
theorem err_made (T : ErrK prog K mg C fI cc cda B initId newId bm cn fs) (N : IniK K fI cc cda qual t fs) (M0 : Mod K mg base) {us : List Value} (hul : us.length = fs.length)
    (kb : ∀ b o, base.get? b = some o → s.heap.get? b = some o) (hroom : A.depth + 1 < recursionLimit)
    (hq : ∀ h' tk e d, ErrMade s.heap h' e C d (putM fs (fun f => ((fs.zip us).lookup f).getD .none) fun _ => none) → R (.ok (.ret (.ref e))) { s with heap := h', toks := tk }) :
    codeAny (model prog w) A (.call (.ref C) ⟨us, []⟩) R s := by
  have X : K.In s.heap := M0.kin.keeps kb
  obtain ⟨nm, N', qn, bs, bm', hdct, sn, sub, ab, col, dd, k0, k1, k2, k3, k5, hC, hT⟩ := PySem.W.excInit_of X T.ini
  obtain ⟨oI, hoI, hcI⟩ := err_fn T X
  have hz : us.length ≤ sizeLine := by rw [sizeLine_eq, hul]; have := N.some_.2; omega
  obtain ⟨hp, g, dr, tk, os⟩ := s
  have old : ∀ b o, hp.get? b = some o → ((hp.push (PySem.W.kdv_tup us)).push (HandSPX.excO C hp.objs.size)).get? b = some o := fun b o e => Heap.get?_push_of_some _ (Heap.get?_push_of_some _ e)
  have hget : ((hp.push (PySem.W.kdv_tup us)).push (HandSPX.excO C hp.objs.size)).get? (hp.objs.size + 1) = some (HandSPX.excO C hp.objs.size) := by heap_get
  have hnx : K.lookup (hp.objs.size + 1) = none := by
    cases e : K.lookup (hp.objs.size + 1) with
    | none => rfl
    | some o => exact absurd (Nat.lt_of_succ_lt (Heap.lt_size (show hp.get? _ = some o from X _ _ e))) (Nat.lt_irrefl _)
  refine HandSPX.call_own T.fam.FB hT hC (looks_findIn X T.iC) (fun self => PySem.W.exc_bind hoI hcI self) hz ?_
  refine err_init (x := hp.objs.size + 1) (t0 := hp.objs.size) (us := us) (s := ⟨(hp.push (PySem.W.kdv_tup us)).push (HandSPX.excO C hp.objs.size), g, dr, tk, os⟩) T N M0 hul (fun b o e => old b o (kb b o e)) hget hnx ?_
    (fun fd hfd => BindsTo.of_eq (N.bind fd hfd _ us hul)) fun h' tk' d t1 k' dz hx n' => ?_
  · show A.depth + 1 < recursionLimit
    exact hroom
  · have dz' : hp.objs.size + 1 + 1 ≤ d := by
      have q := dz
      rw [Heap.size_push, Heap.size_push] at q
      exact q
    exact ⟨rfl, hq h' tk' (hp.objs.size + 1) d ⟨fun b o e => k' b o (Nat.ne_of_lt (Nat.lt_succ_of_lt (Heap.lt_size e))) (old b o e), Nat.le_succ _, ⟨_, hx⟩, Nat.le_trans (Nat.le_trans (Nat.le_succ _) (Nat.le_succ _)) dz', (Nat.ne_of_lt (Nat.lt_of_succ_le dz')).symm, n'⟩⟩
end

/-! ### raise C(..) over the layer -/
/-- the fields of an exception's own dict, as values of the layer -/
theorem relO_putM : ∀ {fs : List Str} {vs : List V} {us : List Value}, Vals vs us → vs.length = fs.length → ∀ y, RelO ((fs.zip vs).lookup y) (putM fs (fun f => ((fs.zip us).lookup f).getD .none) (fun _ => none) y)
  | [], _, _, _, _, y => by simp [putM, RelO]
  | f :: fs, [], _, _, h, _ => by simp at h
  | f :: fs, v :: vs, u :: us, .cons r rs, h, y => by
    rw [List.zip_cons_cons, lookup_cons_if]
    by_cases e : y = f
    · subst e
      simp [putM, RelO, lookup_cons_if, r]
    · rw [if_neg e]
      have ih := relO_putM (fs := fs) rs (by simpa using h) y
      have : putM (f :: fs) (fun g => (((f :: fs).zip (u :: us)).lookup g).getD .none) (fun _ => none) y = putM fs (fun g => ((fs.zip us).lookup g).getD .none) (fun _ => none) y := by
        unfold putM
        by_cases h : y ∈ fs
        · simp [h, List.zip_cons_cons, lookup_cons_if, e]
        · simp [h, e]
      rw [this]
      exact ih
section
variable {X : Cx} {C fI cc cda : Addr} {B initId newId : String} {bm : List Value} {cn qual t : Str} {fs : List Str} {W : WX}
def tMkErr (C : Addr) (fs : List Str) (ta : TA) : L2.St → Hp → XK → Prop := fun σ H Q => ta σ H fun vs H1 => vs.length = fs.length ∧ ∀ d, H1 d = none → Q (.ref C) (some d) (upd H1 d (.xd (fs.zip vs)))
theorem pmk_err {e : Expr} {es : List Expr} {ta : TA} {p pos : Pos} (T : ErrK X.prog X.K X.mg C fI cc cda B initId newId bm cn fs) (N : IniK X.K fI cc cda qual t fs) (kC : keepIn X.K (.ref C) = true)
    (eC : subIn X.K (.ref C) (.type "BaseException") = some true) (tC : typeIn X.K (.ref C) = some (.type "type")) {k : Nat} (hr : Room k X.A) (ha : PA X (e :: es) ta) (hg : Gl X cn) (hdb : (cn == ("__debug__" : Str)) = false := by decide)
    (he : starEach (e :: es) X.env = (false, eval e X.env) :: starEach es X.env := by rfl) (hpl : (backTo pos (starEach es X.env)).any (·.1) = false := by rfl) :
    PMk X (.Call (.Name cn p) (e :: es) [] pos) (tMkErr C fs ta) := by
  intro pins s σ H Q I h
  refine wpAny_Call_Name_kw (ld_glob I hg T.gC ?_ hdb)
  refine PySem.W.callWith_K (h₀ := X.base) I.ok.mod.kin kC (thn (ha.run pos pins s σ H _ I h) ?_) he hpl
  rintro us s1 ⟨vs, H1, I1, r1, hvl, q1⟩
  refine ⟨I1.kIn, ?_⟩
  show wpAny _ _ (call (.ref C) us) _ _ _
  have hul : us.length = fs.length := r1.length.symm.trans hvl
  have hbk := I1.bk
  obtain ⟨hp, g, dr, tk, os⟩ := s1
  refine wpAny_call (err_made T N I1.mod hul hbk (by have := hr.dp; omega) fun h' tk' a d M => ?_)
  show MkP X pins σ Q (.ref a) ⟨h', g, dr, tk', os⟩
  obtain ⟨t0, ha'⟩ := M.obj
  obtain ⟨G', g1, g2⟩ := restrict h' fun b => decide (b ≠ a)
  have gk : ∀ b, b ≠ a → G'.get? b = h'.get? b := fun b hb => g1 b (decide_eq_true hb)
  have ge : G'.get? a = none := g2 a (by simp)
  have gold : ∀ b o, hp.get? b = some o → G'.get? b = some o := fun b o q => (gk b (Nat.ne_of_lt (Nat.lt_of_lt_of_le (Heap.lt_size q) M.new))).trans (M.keep b o q)
  have ob : ObjOk X.prog X.w (upd H1 d (.xd (fs.zip vs))) G' d (.xd (fs.zip vs)) := ⟨_, M.ns.at (fun o q => (gk d M.dne).trans q), relO_putM r1 hvl⟩
  have J : Inv X pins σ (upd H1 d (.xd (fs.zip vs))) ⟨G', g, dr, tk', os⟩ := I1.laid (t' := tk') gold M.dnew ob
  have subs : ∀ b o, G'.get? b = some o → h'.get? b = some o := fun b o q => by
    by_cases hb : b = a
    · rw [hb, ge] at q; cases q
    · exact (gk b hb).symm.trans q
  refine ⟨a, _, _, ⟨G', g, dr, tk', os⟩, _, .ref C, some d, rfl, J, subs, ge, ha', ⟨rfl, rfl⟩, rfl, rfl, ?_, rfl, I1.bare, raises_own eC tC, q1 d (I1.hok.fresh M.dnew)⟩
  rw [upd_ne (Ne.symm M.dne)]
  exact I1.hok.fresh M.new
/-- raise C(e, ..) -/
def tRaiseErr (C : Addr) (fs : List Str) (W : WX) (ta : TA) : TS := fun _ σ H => tMkErr C fs ta σ H fun cls d H' => W cls d σ H'
theorem ps_raiseErr {e : Expr} {es : List Expr} {ta : TA} {p pos pos2 : Pos} (hc : X.calm = true) (T : ErrK X.prog X.K X.mg C fI cc cda B initId newId bm cn fs) (N : IniK X.K fI cc cda qual t fs) (kC : keepIn X.K (.ref C) = true)
    (eC : subIn X.K (.ref C) (.type "BaseException") = some true) (tC : typeIn X.K (.ref C) = some (.type "type")) {k : Nat} (hr : Room k X.A) (tkW : Takes X W) (ha : PA X (e :: es) ta) (hg : Gl X cn) (hdb : (cn == ("__debug__" : Str)) = false := by decide)
    (he : starEach (e :: es) X.env = (false, eval e X.env) :: starEach es X.env := by rfl) (hpl : (backTo pos (starEach es X.env)).any (·.1) = false := by rfl) :
    PS X (.Raise (some (.Call (.Name cn p) (e :: es) [] pos)) none pos2) (tRaiseErr C fs W ta) := ps_raise hc tkW (pmk_err T N kC eC tC hr ha hg hdb he hpl)
end
end BJ

/-! try: body / except X as n: suite, where the exception stays known behind the statement; its fields -/
namespace BJ
open PySem PySem.Spec PyProof.Rows L2
open PySem.W (Looks Frag findIn subIn nsIn typeIn keepIn hasDictIn)

/-- an exception object that is held: of class cls, its own dict at d -/
def ExcK (a : Addr) (cls : Value) (d : Option Addr) : HO := .ext fun h => ∃ (oe : Obj) (vs : Array Value), h.get? a = some oe ∧ Zc cls d oe ∧ oe.data = .fields vs
theorem excK_ok {P : Program} {w : World} {H : Hp} {h : Heap} {a : Addr} {cls : Value} {d : Option Addr} {oe : Obj} {vs : Array Value} (e : h.get? a = some oe) (z : Zc cls d oe) (hd : oe.data = .fields vs) : ObjOk P w H h a (ExcK a cls d) :=
  ⟨⟨oe, vs, e, z, hd⟩, ⟨oe, e⟩, fun _ _ ⟨o, v, q, r⟩ k => ⟨o, v, k o q, r⟩⟩
theorem excK_at {P : Program} {w : World} {H : Hp} {h : Heap} {a : Addr} {cls : Value} {d : Option Addr} (x : HOk P w H h) (e : H a = some (ExcK a cls d)) : ∃ (oe : Obj) (vs : Array Value), h.get? a = some oe ∧ Zc cls d oe ∧ oe.data = .fields vs := by
  have q : ObjOk P w H h a (ExcK a cls d) := x a _ e
  exact q.1

section
variable {X : Cx} {pins : List (Addr × Obj)} {σ : L2.St} {H : Hp} {s : Shared}
/-- a pinned object that is new is tracked from here on -/
theorem Inv.track {a : Addr} {oe : Obj} {φ : Heap → Prop} (I : Inv X ((a, oe) :: pins) σ H s) (hnew : X.s_0.heap.get? a = none) (hp : ∀ p ∈ X.pn ++ pins, p.1 ≠ a)
    (ok : ObjOk X.prog X.w (upd H a (.ext φ)) s.heap a (.ext φ)) : Inv X pins σ (upd H a (.ext φ)) s := by
  obtain ⟨ha, na, nL, nF, nc⟩ := I.pin (a, oe) (List.mem_append_right _ List.mem_cons_self)
  have up : ∀ b u, H b = some u → upd H a (.ext φ) b = some u := fun b u e => by
    rw [upd_ne (ne_of_none e na)]
    exact e
  have old : ∀ b o, X.s_0.heap.get? b = some o → b ≠ a := fun b o e z => by
    rw [z, hnew] at e
    cases e
  constructor
  · exact I.ok
  · exact I.os
  · exact I.bare
  · exact ⟨I.base.keep, I.base.slot, fun b o e n x => by rw [upd_ne (old b o e)]; exact I.base.free b o e n x, I.base.there, fun b xs e => up _ _ (I.base.tups b xs e), fun b o u e => up _ _ (I.base.frzs b o u e),
      fun b ps e => let ⟨m, q⟩ := I.base.tbls b ps e; ⟨m, up _ _ q⟩⟩
  · exact I.loc
  · exact I.cell
  · rw [upd_ne (Ne.symm nL)]
    exact I.free
  · intro y c e
    have q : c ≠ a := fun z => by
      obtain ⟨v, o, ho, hd⟩ := I.cell y c e
      rw [z] at ho
      have ha' : s.heap.get? a = some oe := ha
      rw [ha'] at ho
      cases ho
      exact nc _ hd
    rw [upd_ne q]
    exact I.freeC y c e
  · intro p hpm
    obtain ⟨e, n, r⟩ := I.pin p ((List.mem_append.mp hpm).elim (fun z => List.mem_append_left _ z) fun z => List.mem_append_right _ (List.mem_cons_of_mem _ z))
    exact ⟨e, by rw [upd_ne (hp p hpm)]; exact n, r⟩
  · intro b u e
    by_cases hb : b = a
    · subst hb
      rw [upd_same] at e
      cases e
      exact ok
    · rw [upd_ne hb] at e
      exact (I.hok b u e).stay (fun _ _ _ q => q) (fun c q => up _ _ q) fun c xs q => up _ _ q
  · exact I.len

/-- the test of an except clause -/
def ClauseT (X : Cx) (t : Expr) (mt : Value → Option Bool) : Prop := ∀ (a : Addr) (pn : List (Addr × Obj)) (s : Shared) (σ : L2.St) (H : Hp) (cls : Value) (b : Bool) (E : Value → Shared → Prop) (Q : Value → Shared → Prop),
  Inv (X.suite a pn) [] σ H s → Looks (model X.prog X.w) s.heap (typeOf (.ref a)) cls → mt cls = some b →
  (∀ c h' tk', (∀ b o, s.heap.get? b = some o → h'.get? b = some o) → Looks (model X.prog X.w) h' (excMatches (.ref a) c) b → Q c { s with heap := h', toks := tk' }) →
  wpAny (model X.prog X.w) (X.A.mark (some (.ref a))) (eval t X.env) Q E s
theorem name_ld {x : Str} {c : Value} {np : Pos} {A : Around} {E : Value → Shared → Prop} {Q : Value → Shared → Prop} {a : Addr} {pn : List (Addr × Obj)} (hc : Names X x c) (S : Inv (X.suite a pn) [] σ H s) (q : Q c s) :
    wpAny (model X.prog X.w) (X.A.mark (some (.ref a))) (eval (.Name x np) X.env) Q E s := by
  obtain ⟨hg, hdbg, hm | ⟨hm, hv, hnn⟩⟩ := hc
  · exact ld_glob (X := X.suite a pn) S hg hm q hdbg
  · exact ld_blt (X := X.suite a pn) S hg hm hv q hnn hdbg
theorem cl_one {x : Str} {c : Value} {np : Pos} (hc : Names X x c) : ClauseT X (.Name x np) (fun cls => PySem.W.exmOne X.K cls c) := fun a pn s σ H cls b E Q S LT hb hq =>
  name_ld (A := X.A) hc S (hq c s.heap s.toks (fun _ _ e => e) (PySem.W.exm_one S.kIn LT hb))
theorem cl_three {x1 x2 x3 : Str} {c1 c2 c3 : Value} {p1 p2 p3 p : Pos} {k : Nat} (h1 : Names X x1 c1) (h2 : Names X x2 c2) (h3 : Names X x3 c3) (hl : starEach [.Name x1 p1, .Name x2 p2, .Name x3 p3] X.env = [(false, eval (.Name x1 p1) X.env), (false, eval (.Name x2 p2) X.env), (false, eval (.Name x3 p3) X.env)] := by rfl) :
    ClauseT X (.Tuple [.Name x1 p1, .Name x2 p2, .Name x3 p3] k p) (fun cls => PySem.W.exmAny X.K cls [c1, c2, c3]) := fun a pn s σ H cls b E Q S LT hb hq => by
  refine wpAny_Tuple_spliced ?_
  rw [hl]
  refine Calls.spliced_cons (name_ld (A := X.A) h1 S ?_)
  refine Calls.spliced_cons (name_ld (A := X.A) h2 S ?_)
  refine Calls.spliced_cons (name_ld (A := X.A) h3 S ?_)
  refine Calls.spliced_nil ⟨by rw [sizeLine_eq]; show 3 ≤ 16777216; decide, ?_⟩
  have k : ∀ b o, s.heap.get? b = some o → (s.heap.push ({ cls := .type "tuple", data := .seq [c1, c2, c3].toArray } : Obj)).get? b = some o := fun b o e => Heap.get?_push_of_some _ e
  exact hq _ _ s.toks k (PySem.W.exm_tup3 (S.kIn.keeps k) (fun A Q E s' k' q => LT A Q E s' (fun b o e => k' b o (k b o e)) q) (Heap.get?_push_size _ rfl) hb)
end

theorem FlyingZ.grow {base h h' : Heap} {l : List Env} {e : Addr} {Z : Obj → Prop} (x : HandSPX.FlyingZ base l e Z h) (k : ∀ b o, h.get? b = some o → h'.get? b = some o) : HandSPX.FlyingZ base l e Z h' := by
  obtain ⟨f1, f2, f3, oe, vs, T, oT, ts, a1, a2, a3, a4, a5, a6, a7, a8⟩ := x
  exact ⟨fun b o e => k b o (f1 b o e), f2, Heap.FunFrames.of_keeps (fun b o e _ => ⟨o, k b o e, rfl⟩) f3, oe, vs, T, oT, ts, k _ _ a1, a2, a3, a4, a5, a6, k _ _ a7, a8⟩

/-- what the clause wishes of an exception of the body; behind it the exception is known at a -/
def wTry (mt : Value → Option Bool) (i : Nat) (ts : Addr → Value → Option Addr → TS) (Wout : WX) (D : Ends) : WX := fun cls d σ H =>
  ∃ b, mt cls = some b ∧
    (b = true → ∀ a, H a = none → ts a cls d { nx := fun σ' H' => D.nx (σ'.set i none) (upd H' a (ExcK a cls d)), rt := D.rt, bk := fun σ' H' => D.bk (σ'.set i none) (upd H' a (ExcK a cls d)), ct := fun σ' H' => D.ct (σ'.set i none) (upd H' a (ExcK a cls d)) } (σ.set i (some (.ref a))) H) ∧
    (b = false → Wout cls d σ H)
section
variable {X : Cx} {n : Str} {t : Expr} {mt : Value → Option Bool} {i : Nat} {body suite : List Stmt} {b₀ : Stmt} {pos pos' : Pos} {tb : WX → TS} {ts : Addr → Value → Option Addr → TS} {Wout : WX}
theorem ps_tryK (hs : X.stack = X.env :: X.outer) (hf : X.env.frame = some X.env.locals) (hex : X.ex = []) (hN : X.N.Nodup) (hi : X.N[i]? = some n) (hln : X.env.kindOf n = some .local) (hc : ClauseT X t mt) (tk : Takes X Wout)
    (hb : ∀ (W : WX) (pn : List (Addr × Obj)) (xe : Value → Shared → Prop), Takes (X.tr pn xe) W → PassesOwn (model X.prog X.w) X.A X.env xe → PSs (X.tr pn xe) body (tb W))
    (hsu : ∀ (a : Addr) (oe : Obj) (cls : Value) (d : Option Addr) (pn : List (Addr × Obj)), Zc cls d oe → (∃ vs, oe.data = .fields vs) → PSs (X.suite a ((a, oe) :: pn)) (b₀ :: suite) (ts a cls d)) :
    PS X (.Try body [.ExceptHandler (some t) (some n) (b₀ :: suite) pos'] [] [] pos) (fun D σ H => tb (wTry mt i ts Wout D) D σ H) where
  run := by
    intro pins s σ H D I h
    have ok := I.ok
    have hfr : X.A.frames = some (X.env :: X.outer) := by rw [ok.frames, hs]
    refine wpAny_Try_except (wpAny_mono ((hb (wTry mt i ts Wout D) (X.pn ++ pins) (fun e s₁ => wpAny (model X.prog X.w) X.A (noteFrame e X.env) (fun _ s₂ =>
      wpAny (model X.prog X.w) X.A (setFlight e none) (fun _ s₃ => wpAny (model X.prog X.w) X.A (handleBy e X.env [.ExceptHandler (some t) (some n) (b₀ :: suite) pos']) (SP X pins D) X.xe s₃) X.xe s₂) X.xe s₁)
      ?cat PassesOwn.looking).run [] s σ H D (I.toTry _) h) ?thru fun e s1 he => he)
    case thru =>
      rintro (_ | _ | _ | u) s1 hsp
      · obtain ⟨σ', H', J, q⟩ := hsp
        exact wpAny_execs_nil ⟨σ', H', J.ofTry ok, q⟩
      · obtain ⟨σ', H', J, q⟩ := hsp
        exact ⟨σ', H', J.ofTry ok, q⟩
      · obtain ⟨σ', H', J, q⟩ := hsp
        exact ⟨σ', H', J.ofTry ok, q⟩
      · obtain ⟨v, σ', H', J, r, q⟩ := hsp
        exact ⟨v, σ', H', J.ofTry ok, r, q⟩
    case cat =>
      rintro u s' ⟨a, B, sI, pins', σ', H', cls, d, rfl, J0, nb, up, sky, na, os, ag, b, hb1, hyes, hno⟩
      have J : Inv X pins σ' H' sI := J0.ofTry ok
      rw [hs] at sky
      refine Sky.land Zc.steady hfr hf (show Sky B (X.env :: X.outer) a (Zc cls d) X.env.locals s'.heap from sky) fun h3 fl3 up3 => ?_
      have J3 : Inv X pins σ' H' { s' with heap := h3 } := J.landed nb fl3.1 (up.trans up3) os ag
      obtain ⟨oe3, vs3, he3, hz3, hd3⟩ := fl3.there
      have nfr : a ∉ frs (X.env :: X.outer) := fun hm => by
        obtain ⟨_, o', e', hnf⟩ := fl3.2.2.1.mem hm
        rw [he3] at e'
        cases e'
        exact hnf _ hd3
      have nL : a ≠ X.env.locals := fun z => nfr (List.mem_filterMap.mpr ⟨X.env, List.mem_cons_self, by rw [hf, z]⟩)
      have nF : a ∉ X.fs := fun hm => by
        obtain ⟨e, he, q⟩ := List.mem_filterMap.mp hm
        exact nfr (List.mem_filterMap.mpr ⟨e, List.mem_cons_of_mem _ he, q⟩)
      have nI : sI.heap.get? a = none := by
        cases e : sI.heap.get? a with
        | none => rfl
        | some o =>
          have z := nb a o e (by rw [hs]; exact nfr)
          rw [fl3.2.1] at z
          cases z
      have n0 : X.s_0.heap.get? a = none := by
        cases e : X.s_0.heap.get? a with
        | none => rfl
        | some o =>
          obtain ⟨o', z⟩ := J.base.there a o e (by rw [hex]; exact fun z => nomatch z)
          rw [nI] at z
          cases z
      have np : ∀ p ∈ X.pn ++ pins, p.1 ≠ a := fun p hp z => by
        have q := (J.pin p hp).1
        rw [z, nI] at q
        cases q
      have S3 := J3.suite he3 hd3 na nL nF
      have LT : Looks (model X.prog X.w) h3 (typeOf (.ref a)) cls := fun A Q E s k q => wpAny_typeOf_ref (k _ _ he3) (by rw [hz3.1]; exact q)
      refine PySem.W.exc_clause_as (hc a _ _ σ' H' cls b _ _ S3 LT hb1 fun c h4 tk4 k4 LM => ⟨b, LM, ?_⟩)
      have fl4 := FlyingZ.grow fl3 k4
      have J4 : Inv X pins σ' H' { s' with heap := h4, toks := tk4 } := J3.kept (t' := tk4) k4
      cases b with
      | true =>
        refine HandSPX.lands_againZ fl4 fun h5 fl5 up5 => ?_
        have J5 : Inv X pins σ' H' { s' with heap := h5, toks := tk4 } :=
          J.landed (s' := { s' with heap := h5, toks := tk4 }) nb fl5.1 (((up.trans up3).trans (Heap.UpToSlots.of_keeps k4)).trans up5) os ag
        obtain ⟨oe5, vs5, he5, hz5, hd5⟩ := fl5.there
        have S5 := J5.suite he5 hd5 na nL nF
        refine store_ok (X := X.suite a ((a, oe5) :: (X.pn ++ pins))) (v := .ref a) S5 hN hi (.inl hln) rfl (fun s6 S6 => ?_) (.inr hln)
        refine wpAny_mono ((hsu a oe5 cls d (X.pn ++ pins) hz5 ⟨_, hd5⟩).run [] s6 _ H' _ S6 (hyes rfl a na)) (fun f s7 hsp => ?_) fun _ _ z => False.elim z
        have out : ∀ {σ7 : L2.St} {H7 : Hp} {s7 : Shared}, Inv (X.suite a ((a, oe5) :: (X.pn ++ pins))) [] σ7 H7 s7 → Inv X ((a, oe5) :: pins) σ7 H7 s7 := fun {σ7 H7 s7} S =>
          ⟨ok, S.os, S.bare, S.base, S.loc, S.cell, S.free, S.freeC, fun p hp => S.pin p (by
            rw [List.append_nil]
            rcases List.mem_append.mp hp with z | z
            · exact List.mem_cons_of_mem _ (List.mem_append_left _ z)
            · rcases List.mem_cons.mp z with z | z
              · rw [z]; exact List.mem_cons_self
              · exact List.mem_cons_of_mem _ (List.mem_append_right _ z)), S.hok, S.len⟩
        have fin : ∀ {σ7 : L2.St} {H7 : Hp} {Q : Shared → Prop} {s7 : Shared}, Inv (X.suite a ((a, oe5) :: (X.pn ++ pins))) [] σ7 H7 s7 → (∀ s8, Inv X pins (σ7.set i none) (upd H7 a (ExcK a cls d)) s8 → Q s8) →
            (∀ s8, Inv X pins (σ7.set i none) H7 s8 → True) → wpAny (model X.prog X.w) X.A (do bindName X.env n .none; unbindBehindTheSuite X.env n pos') (fun _ s8 => Q s8) X.xe s7 := fun {σ7 H7 Q s7} S hq _ =>
          gone_ok (out S) hN hi hln fun s8 J8 => hq s8 (Inv.track J8 n0 np (excK_ok (J8.pin (a, oe5) (List.mem_append_right _ List.mem_cons_self)).1 hz5 hd5))
        match f, hsp with
        | .next, ⟨σ7, H7, S7, q7⟩ => exact fin S7 (fun s8 J8 => ⟨_, _, J8, q7⟩) fun _ _ => trivial
        | .brk, ⟨σ7, H7, S7, q7⟩ => exact fin S7 (fun s8 J8 => ⟨_, _, J8, q7⟩) fun _ _ => trivial
        | .cont, ⟨σ7, H7, S7, q7⟩ => exact fin S7 (fun s8 J8 => ⟨_, _, J8, q7⟩) fun _ _ => trivial
        | .ret u, ⟨v7, σ7, H7, S7, r7, q7⟩ => exact gone_ok (S7.unsuite ok) hN hi hln fun s8 J8 => ⟨_, _, _, J8, r7, q7⟩
      | false =>
        show wpAny _ X.A (handleBy (.ref a) X.env []) _ _ _
        refine wpAny_handleBy_nil ?_
        obtain ⟨k1, k2, k3, oe, vs, T, oT, ts', he, hz, hd, h1, hr⟩ := id fl4
        have fin : wpAny (model X.prog X.w) X.A (setFlight (.ref a) X.env.frame) (fun _ s5 => wpAny (model X.prog X.w) X.A (throw (.ref a) : Sem Flow) (SP X pins D) X.xe s5) X.xe { s' with heap := h4, toks := tk4 } := by
          rw [hf]
          refine HandSPX.setFlight_upZ fl4 fun h5 hh5 up5 => wpAny_throw (tk _ _ ?_)
          exact ⟨a, B, sI, pins, σ', H', cls, d, rfl, J, nb, ((up.trans up3).trans (Heap.UpToSlots.of_keeps k4)).trans up5, .inr (.inr (by rw [hs]; exact hh5)), na, os, ag, hno rfl⟩
        unfold PySem.passOn
        refine wpAny_bind (wpAny_field he hd h1 ?_)
        rw [if_neg (by simp)]
        first
          | exact wpAny_bind (wpAny_pure (wpAny_bind fin))
          | exact wpAny_bind fin
end
end BJ

/-! fields of a held exception; isinstance of any value; repr of data -/
namespace BJ
open PySem PySem.Spec PyProof.Rows L2
open PySem.W (Looks Frag findIn subIn nsIn typeIn keepIn hasDictIn clsIn specialIn takesIn mroIn kitOne kitAny InstAt)

/-- what is asked of an exception's class to read it -/
structure ErrR (K : Frag) (C : Addr) : Prop where
  cl : (clsIn K C).isSome = true
  ga : findIn K (.ref C) "__getattribute__" = some (some (.builtin "BaseException.__getattribute__"))
  gg : findIn K (.ref C) "__getattr__" = some none
  ex : subIn K (.ref C) (.type "BaseException") = some true
  cc : findIn K (.ref C) "__class__" = some (some (.builtin "object.__class__"))
  cg : specialIn K (.builtin "object.__class__") "__get__" = some (some (.builtin "getset_descriptor.__get__"))
  ct : takesIn K (.builtin "object.__class__") = some true
  mo : mroIn K C (.type "object") = some true
  hd : hasDictIn K C = true
/-- at a the exception, its dict at d -/
def ExcAt (H : Hp) (a C d : Addr) (fs : List (Str × V)) : Prop := H a = some (ExcK a (.ref C) (some d)) ∧ H d = some (.xd fs)
section
variable {X : Cx} {pins : List (Addr × Obj)} {σ : L2.St} {H : Hp} {s : Shared}
theorem ExcAt.inst {a C d : Addr} {fs : List (Str × V)} (I : Inv X pins σ H s) (x : ExcAt H a C d fs) : ∃ (oe od : Obj) (mA : Str → Option Value), InstAt s.heap a oe C (some od) ∧ s.heap.Ns1 d mA ∧ s.heap.get? d = some od ∧ ∀ f, RelO (fs.lookup f) (mA f) := by
  obtain ⟨oe, vs, he, hz, hd⟩ := excK_at I.hok x.1
  obtain ⟨mA, hns, hr⟩ := (show ObjOk X.prog X.w H s.heap d (.xd fs) from I.hok d _ x.2)
  obtain ⟨od, es, ep, ho, r⟩ := id hns
  exact ⟨oe, od, mA, ⟨he, hz.1, by unfold PySem.W.notCls; rw [hd], by rw [hz.2]; exact ho⟩, hns, ho, hr⟩

/-- e.f of a held exception -/
def tExf (K : Frag) (te : TE) (f : Str) : TE := fun σ H Q => te σ H fun x H1 => ∃ (a C d : Addr) (fs : List (Str × V)) (v : V), x = .ref a ∧ ExcAt H1 a C d fs ∧ ErrR K C ∧ findIn K (.ref C) f = some none ∧ fs.lookup f = some v ∧ Q v H1
theorem pe_exf {e : Expr} {te : TE} {f : Str} {pos : Pos} (he : PE X e te) (hb : attributeBase e f X.env (eval e X.env) = eval e X.env := by rfl) : PE X (.Attribute e f pos) (tExf X.K te f) where
  run := by
    intro pins s σ H Q I h
    refine attr_of hb (thn (he.run pins s σ H _ I h) ?_)
    rintro u s1 ⟨x, H1, I1, rx, a, C, d, fs, v, rfl, hat, R, nf, hl, q⟩
    obtain rfl : u = Value.ref a := rx
    obtain ⟨oe, od, mA, J, hns, hod, hr⟩ := hat.inst I1
    obtain ⟨od', ho, hlk⟩ := lookIn_ns hns
    rw [hod] at ho
    cases ho
    obtain ⟨u, hu, ru⟩ := RelO.some_of (v := v) (o := mA f) (by rw [← hl]; exact hr f)
    exact HandSPX.exc_get I1.kIn J R.ga R.gg R.ex (PySem.W.findObj_own R.hd nf rfl (by rw [hlk, hu])) (handed_of ru) ⟨v, H1, I1.tok _, ru, q⟩

/-! ### isinstance -/
inductive TyG (K : Frag) (H : Hp) : V → Value → Prop where
  | ty {x : V} {t : Value} (h : TyX K H x t) : TyG K H x t
  | exc {a C d : Addr} {fs : List (Str × V)} (h : ExcAt H a C d fs) (R : ErrR K C) : TyG K H (.ref a) (.ref C)
theorem kit_ofG {x : V} {u t : Value} (I : Inv X pins σ H s) (rx : RelV x u) (ty : TyG X.K H x t) : ∃ P : Heap → Prop, PySem.W.KitX X.K u t P ∧ P s.heap ∧ u ≠ .builtin "__main__.__loader__#opaque" := by
  cases ty with
  | ty h => exact kit_of I rx h
  | exc h R =>
    cases (show u = Value.ref _ from rx)
    obtain ⟨oe, od, mA, J, _, _, _⟩ := h.inst I
    exact ⟨_, PySem.W.kitx_exc R.cl R.ga R.gg R.ex R.cc R.cg R.ct R.mo, J, fun z => nomatch z⟩
def rIsG (K : Frag) : List V → Hp → VK → Prop := fun xs H Q => ∃ (x c : V) (t u : Value) (b : Bool), xs = [x, c] ∧ ClsV c u ∧ TyG K H x t ∧ kitOne K t u = some b ∧ Q (.bl b) H
def rIsGT (K : Frag) : List V → Hp → VK → Prop := fun xs H Q => ∃ (x : V) (tp : Addr) (cs : List V) (t : Value) (us : List Value) (b : Bool), xs = [x, .ref tp] ∧ H tp = some (.tup cs) ∧ Paired ClsV cs us ∧ TyG K H x t ∧ kitAny K t us = some b ∧ Q (.bl b) H
theorem call_isG : CallR X (.builtin "isinstance") (rIsG X.K) := by
  rintro pins s σ H xs us Q I r ⟨x, c, t, u, b, rfl, k, ty, e, q⟩
  obtain ⟨u1, u2, rfl, r1, r2⟩ := vals2 r
  obtain rfl := k.eq r2
  obtain ⟨P, Z, p, hx⟩ := kit_ofG I r1 ty
  exact PySem.W.kia_one Z I.kIn p e hx fun tk => ⟨.bl b, H, I.tok tk, rfl, q⟩
theorem call_isGT : CallR X (.builtin "isinstance") (rIsGT X.K) := by
  rintro pins s σ H xs us Q I r ⟨x, tp, cs, t, ws, b, rfl, hT, k, ty, e, q⟩
  obtain ⟨u1, u2, rfl, r1, r2⟩ := vals2 r
  cases (show u2 = Value.ref tp from r2)
  obtain ⟨P, Z, p, hx⟩ := kit_ofG I r1 ty
  obtain ⟨_, its, rv, ⟨oc, od, dt, sl⟩, h1, h2, n, h3⟩ := (show ObjOk X.prog X.w H s.heap tp (.tup cs) from I.hok tp _ hT)
  obtain rfl := ClsV.all k rv
  simp only at h2 h3
  subst h2 h3
  exact PySem.W.kia_tup Z I.kIn p h1 e hx fun tk => ⟨.bl b, H, I.tok tk, rfl, q⟩

/-! ### repr -/
/-- repr(x) of data -/
def rRepr (K : Frag) : List V → Hp → VK → Prop := fun xs H Q => ∃ (x : V) (d : PyData), xs = [x] ∧ Dp K H x d ∧ d.showable = true ∧ d.hasDict = false ∧ d.depth ≤ 40 ∧ d.shown.length ≤ sizeLine ∧ Q (.str d.shown) H
theorem call_repr {k : Nat} (hr : Room k X.A) (hG : X.A.guards = some []) : CallR X (.builtin "repr") (rRepr X.K) := by
  rintro pins s σ H xs us Q I r ⟨x, d, rfl, hd, hs, hnd, hdep, hsz, q⟩
  obtain ⟨u, rfl, r1⟩ := vals1 r
  obtain ⟨as, hrd⟩ := Dp.reads I d x u hd r1
  have fin : ∀ (h' : Heap) (t : Tok) (tk : Nat), (∀ b o, s.heap.get? b = some o → h'.get? b = some o) → EP X pins σ Q (.str d.shown t) { s with heap := h', toks := tk } := fun h' t tk kk => ⟨.str d.shown, H, I.kept (t' := tk) kk, ⟨t, rfl⟩, q⟩
  cases hrd with
  | none => exact PySem.P.repr_of_none (by simpa [PyData.shown] using fin s.heap _ _ fun _ _ e => e)
  | bool b => exact PySem.P.repr_of_bool (by cases b <;> simpa [PyData.shown] using fin s.heap _ _ fun _ _ e => e)
  | int i t => exact PySem.P.repr_of_int (by simpa [PyData.showable] using hs) (by simpa [PyData.shown] using fin s.heap _ _ fun _ _ e => e)
  | str y t => exact PySem.P.repr_of_str (by simpa [PyData.shown] using fin s.heap _ _ fun _ _ e => e) (by simpa [PyData.shown] using hsz)
  | list h1 h2 h3 h4 =>
    exact repr_of_reads' (.list h1 h2 h3 h4) hs (by rw [hnd]; exact fun z => nomatch z) hG (by have := hr.un; omega) (fun _ _ e => e) (fun h' t tk kk => fin h' t tk kk) hsz
  | tuple h1 h2 h3 h4 =>
    exact repr_of_reads' (.tuple h1 h2 h3 h4) hs (by rw [hnd]; exact fun z => nomatch z) hG (by have := hr.un; omega) (fun _ _ e => e) (fun h' t tk kk => fin h' t tk kk) hsz
  | dict h1 h2 h3 h4 h5 => simp [PyData.hasDict] at hnd
end
end BJ

/-! text * int, (x,) * int, xs[a::k], enumerate(text) -/
namespace BJ
open PySem PySem.Spec PyProof.Rows L2
section
variable {X : Cx}
/-- the sign c, n times -/
def repS (c : Nat) (n : Nat) : Str := ⟨(List.replicate n c).toArray⟩
theorem repS_len (c n : Nat) : (repS c n).length = n := by simp [repS, Str.length]
theorem foldl_rep1 (c : Nat) : ∀ n, (List.replicate n (#[c] : Array Nat)).foldl (· ++ ·) #[] = (List.replicate n c).toArray := by
  have h : ∀ n (acc : Array Nat), (List.replicate n (#[c] : Array Nat)).foldl (· ++ ·) acc = acc ++ (List.replicate n c).toArray := by
    intro n
    induction n with
    | zero => intro acc; simp
    | succ n ih =>
      intro acc
      rw [List.replicate_succ, List.foldl_cons, ih, List.replicate_succ, Array.append_assoc]
      congr 1
      simp
  intro n
  rw [h, Array.empty_append]
/-- 'c' * n, one sign, n at least 2 -/
def rMulS : R2 := fun x y H Q => ∃ (c : Nat) (n : Nat), x = .str ⟨#[c]⟩ ∧ y = .int (n : Int) ∧ 2 ≤ n ∧ n ≤ sizeLine ∧ Q (.str (repS c n)) H
theorem op_mulS : OpR X (binaryOp .Mult) rMulS := by
  rintro pins s σ H x y v u Q I rx ry ⟨c, n, rfl, rfl, h2, hn, q⟩
  obtain ⟨t, rfl⟩ := rx
  obtain ⟨t', rfl⟩ := ry
  rw [sizeLine_eq] at hn
  have hl : (⟨#[c]⟩ : Str).length = 1 := rfl
  refine PySem.P.mul_str ?_ (fun _ _ => ?_) (fun _ _ => ?_) ?_
  · simp only [Bool.or_eq_false_iff, decide_eq_false_iff_not]
    omega
  · rw [hl]
    have : (1 : Int) ≤ (2 ^ 63 - 1) / (n : Int) := by
      apply Int.le_ediv_of_mul_le (by omega)
      omega
    omega
  · rw [hl, Nat.one_mul]
    unfold PySem.Builtin.Str.tooLong
    rw [sizeLine_eq]
    simp
    omega
  · rw [if_neg (by omega), if_neg (by rw [hl]; simp; omega)]
    have e : (List.replicate ((n : Int)).toNat (⟨#[c]⟩ : Str).cps).foldl (· ++ ·) #[] = (List.replicate n c).toArray := by
      rw [Int.toNat_natCast]
      exact foldl_rep1 c n
    rw [e]
    refine ⟨?_, ?_⟩
    · show (repS c n).length ≤ sizeLine
      rw [repS_len, sizeLine_eq]
      exact hn
    · exact ⟨V.str (repS c n), H, I.tok _, ⟨_, rfl⟩, q⟩

/-- the items of xs[lo:hi:st] -/
def pickV (xs : List V) (lo hi st : Option Int) : List V :=
  (sliceRange (sliceBounds lo hi st xs.length).1 (sliceBounds lo hi st xs.length).2.1 (sliceBounds lo hi st xs.length).2.2).filterMap (xs[·]?)
theorem vals_places {xs : List V} {us : List Value} (h : Vals xs us) : ∀ l : List Nat, Vals (l.filterMap (xs[·]?)) (l.filterMap (us[·]?))
  | [] => .nil
  | i :: l => by
    cases e : xs[i]? with
    | none =>
      rw [List.filterMap_cons_none e, List.filterMap_cons_none (h.none_of e)]
      exact vals_places h l
    | some x =>
      obtain ⟨u, hu, r⟩ := h.get e
      rw [List.filterMap_cons_some e, List.filterMap_cons_some hu]
      exact .cons r (vals_places h l)
theorem slicePick_V {xs : List V} {us : List Value} (h : Vals xs us) (lo hi st : Option Int) : Vals (pickV xs lo hi st) (slicePick us.toArray lo hi st).toList := by
  have e : (slicePick us.toArray lo hi st).toList = (sliceRange (sliceBounds lo hi st xs.length).1 (sliceBounds lo hi st xs.length).2.1 (sliceBounds lo hi st xs.length).2.2).filterMap (us[·]?) := by
    simp [slicePick, h.length]
  rw [e]
  exact vals_places h _
/-- xs[lo:hi:st] of a list: a new list -/
def tSl3 (K : PySem.W.Frag) (te : TE) (tl th ts : TO) : TE := fun σ H Q => te σ H fun x H1 => tl σ H1 fun lo H2 => th σ H2 fun hi H3 => ts σ H3 fun st H4 =>
  ∃ a xs, x = .ref a ∧ SqL K H4 a xs ∧ st ≠ some 0 ∧ (pickV xs lo hi st).length ≤ sizeLine ∧ ∀ p, H4 p = none → Q (.ref p) (upd H4 p (.lst (pickV xs lo hi st)))
theorem pe_slice3 {e st : Expr} {lo hi : Option Expr} {te : TE} {tl th ts : TO} {p2 pos : Pos} (he : PE X e te) (hl : PO X lo tl) (hu : PO X hi th) (hst : PO X (some st) ts) : PE X (.Subscript e (.Slice lo hi (some st) p2) pos) (tSl3 X.K te tl th ts) where
  run := by
    intro pins s σ H Q I h
    refine Subscript_ (thn (he.run pins s σ H _ I h) ?_)
    rintro v s1 ⟨x, H1, I1, r1, q1⟩
    refine wpAny_Slice (thn (hl.run pins s1 σ H1 _ I1 q1) ?_)
    rintro vl s2 ⟨l, H2, I2, pl, q2⟩
    refine thn (hu.run pins s2 σ H2 _ I2 q2) ?_
    rintro vu s3 ⟨u, H3, I3, pu, q3⟩
    refine thn (hst.run pins s3 σ H3 _ I3 q3) ?_
    rintro vs s4 ⟨k, H4, I4, pk, a, xs, rfl, hx, k0, hsz, q⟩
    cases r1
    have I5 : Inv X pins σ H4 { s4 with heap := s4.heap.push { cls := .type "slice", data := .fields #[vl, vu, vs] } } := I4.kept (t' := s4.toks) fun b ob q => Heap.get?_push_of_some _ q
    obtain ⟨its, r, ht, hz⟩ := I5.list hx
    have hlen := r.length
    show wpAny (model X.prog X.w) X.A (subscriptTail e (.Slice lo hi (some st) p2) (.ref a) (.ref s4.heap.objs.size)) (EP X pins σ Q) X.xe { s4 with heap := s4.heap.push { cls := .type "slice", data := .fields #[vl, vu, vs] } }
    refine tail_any (ops := _) ht.isList.typeIs slot_list_getitem.lookup (wpAny_getItem_list_slice ht.isList (Heap.IsSliceOf.new ..) pl pu pk k0 ?_ (by rw [List.size_toArray]; omega)) (by with_unfolding_all rfl)
    have rp := slicePick_V r l u k
    refine ⟨.ref _, _, I5.laid (t' := s4.toks) (o := .lst (pickV xs l u k)) (fun b ob q => Heap.get?_push_of_some _ q) (Nat.le_refl _) ?_, rfl, q _ (I5.hok.fresh (Nat.le_refl _))⟩
    exact ⟨hsz, _, 0, rp, by rw [Array.toArray_toList]; exact Heap.get?_push_size _ rfl⟩

/-! ### (x,) * n -/
def rRep1 (K : PySem.W.Frag) : R2 := fun x y H Q => ∃ (l : Addr) (n : Nat) (v : V), x = .ref l ∧ y = .int (n : Int) ∧ SqT K H l [v] ∧ 2 ≤ n ∧ n ≤ 16777216 ∧ ∀ p, H p = none → Q (.ref p) (upd H p (.tup (List.replicate n v)))
theorem flat1 {α : Type} (v : α) : ∀ n, (List.replicate n [v]).flatten = List.replicate n v
  | 0 => rfl
  | n + 1 => by rw [List.replicate_succ, List.flatten_cons, flat1 v n]; rfl
theorem vals_rep {v : V} {u : Value} (r : RelV v u) : ∀ n, Vals (List.replicate n v) (List.replicate n u)
  | 0 => .nil
  | n + 1 => .cons r (vals_rep r n)
theorem op_rep1 : OpR X (binaryOp .Mult) (rRep1 X.K) := by
  rintro pins s σ H x y v u Q I rx ry ⟨l, m, w, rfl, rfl, hT, h2, hm, q⟩
  cases rx
  obtain ⟨t, rfl⟩ := ry
  obtain ⟨its, r, ⟨⟨cls, dd, data, sl⟩, ho, hc, n, hd⟩, hs⟩ := I.tuple hT
  simp only at hc hd
  subst hc hd
  cases r with
  | cons rw' rn =>
    rename_i u1 us1
    cases rn
    have hsz0 : ([u1] : List Value).toArray.size = 1 := rfl
    have ez : (List.foldl (fun x1 x2 => x1 ++ x2) #[] (List.replicate ((m : Int)).toNat ([u1] : List Value).toArray)) = (List.replicate m u1).toArray := by
      rw [size_rep, Int.toNat_natCast, flat1]
    have c0 : (decide ((m : Int) < -(2 ^ 63)) || decide ((m : Int) ≥ 2 ^ 63)) = false := by
      simp only [Bool.or_eq_false_iff, decide_eq_false_iff_not]
      omega
    have c1 : (([u1] : List Value).toArray.isEmpty || (m : Int) == 1) = false := by
      show (false || (m : Int) == 1) = false
      rw [Bool.false_or]
      exact beq_eq_false_iff_ne.mpr (by omega)
    have c2 : (decide ((m : Int) ≤ 0) || ([u1] : List Value).toArray.isEmpty) = false := by
      show (decide ((m : Int) ≤ 0) || false) = false
      rw [Bool.or_false]
      exact decide_eq_false (by omega)
    have c3 : ¬ ((([u1] : List Value).toArray.size : Nat) : Int) * (m : Int) > (2 ^ 63 - 1) / 8 := by
      rw [hsz0]
      omega
    have c4 : Builtin.Tuple.tupleTooMany (((([u1] : List Value).toArray.size : Nat) : Int) * (m : Int)) = false := by
      rw [hsz0]
      unfold Builtin.Tuple.tupleTooMany
      rw [sizeLine_eq]
      exact decide_eq_false (by omega)
    refine wpAny_binaryOp_repeat_ref (T := "tuple") (U := "int") (by decide) ⟨_, ho, rfl⟩ (fun s' => typeIs_int s' m t) noFill_tuple_mul F.fills_int_mul F.slot_int_rmul repeat_tuple F.slot_int_index.lookup
      (call_meets F.slot_int_rmul (typeIs_int s m t) F.entry_int_rmul (F.args_int_rmul_2 _ _) (int_rmul_tuple m t l _ n dd sl)
        ⟨ho, rfl, ⟨_, ho, rfl⟩, call_meets F.slot_tuple_mul ⟨_, ho, rfl⟩ F.entry_tuple_mul (F.args_tuple_mul_2 _ _)
          (tuple_mulW l _ n dd sl m t c0 c1 c2 c3 c4 (by rw [ez, List.size_toArray, List.length_replicate, sizeLine_eq]; exact hm)) ⟨ho, ?_⟩⟩)
    rw [ez]
    have rr : Vals (List.replicate m w) (List.replicate m u1) := vals_rep rw' m
    refine ⟨.ref s.heap.objs.size, _, I.laid (t' := s.toks) (o := .tup (List.replicate m w)) (fun b ob q => Heap.get?_push_of_some _ q) (Nat.le_refl _) ?_, rfl, q _ (I.hok.fresh (Nat.le_refl _))⟩
    exact ⟨by rw [List.length_replicate, sizeLine_eq]; exact hm, _, rr, IsTup.new _ _⟩

/-! ### enumerate(text) -/
def ItEs (x : Str) : It := ⟨fun i _ => i < x.cps.size, fun i H v H' => ∃ T c, v = .ref T ∧ H T = none ∧ H' = upd H T (.tup [.int (i : Nat), .str ⟨#[c]⟩]) ∧ x.cps[i]? = some c, fun i _ => i = x.cps.size⟩
theorem turn_enumS {P : Program} {w : World} {K : PySem.W.Frag} {elts : List Expr} {kk : Nat} {tpos : Pos} (e it : Addr) (x : Str) (t : Tok) :
    Turn P w K (.Tuple elts kk tpos) (ItEs x) [e, it] e (fun i h => (∃ old, IsEnum h e it ((i : Nat) : Int) old) ∧ h.IsStrIter it (strIterType x) x t i ∧ e ≠ it) where
  mem := by simp
  obj := by
    rintro i h ⟨⟨old, he⟩, ⟨o, ho, hc, hd⟩, _⟩ b hb
    have e' : b = e ∨ b = it := by simpa using hb
    rcases e' with rfl | rfl
    · exact ⟨_, he, fun v q => nomatch q⟩
    · exact ⟨o, ho, fun v q => by rw [hd] at q; cases q⟩
  keep := by
    rintro i h h' ⟨⟨old, he⟩, ⟨o, ho, r⟩, hne⟩ k
    exact ⟨⟨old, k e (by simp) _ he⟩, ⟨o, k it (by simp) o ho, r⟩, hne⟩
  item := by
    rintro X rfl rfl rfl hc i pins s σ H E I hf ⟨⟨old, he⟩, hit, hne⟩ hg
    have hel : e < s.heap.objs.size := Heap.lt_size he
    have hil : it < s.heap.objs.size := by
      obtain ⟨_, q, _⟩ := hit
      exact Heap.lt_size q
    have D : Draws X.prog X.w X.A.in1 it [it] x.cps.size (fun i v => ∃ c u, x.cps[i]? = some c ∧ v = .str ⟨#[c]⟩ u) (fun i h => h.IsStrIter it (strIterType x) x t i) := Draws.text (A := X.A.in1) (I.ok.hd hc) it x t
    refine wpAny_pyNext_enum_itemD (i := i) D he hit hg hne (by simpa using hne) fun v h' tk hv ho hit' hT hsz hk => ?_
    obtain ⟨c, u, hcx, rfl⟩ := hv
    refine ⟨_, rfl, wpAny_letOwnedTupleGo_enum (s := { s with heap := h', toks := tk + 1 }) ho fun h'' he' sb => ?_⟩
    have hT2 : h''.get? s.heap.objs.size = some { cls := .type "tuple", data := .seq #[.int i tk, .str ⟨#[c]⟩ u] } := (sb.2 _ (Nat.ne_of_gt hel)).trans hT
    have new : ObjOk X.prog X.w (upd H s.heap.objs.size (.tup [.int (i : Nat), .str ⟨#[c]⟩])) h'' s.heap.objs.size (.tup [.int (i : Nat), .str ⟨#[c]⟩]) :=
      ⟨by show 2 ≤ sizeLine; decide, [.int i tk, .str ⟨#[c]⟩ u], .cons ⟨_, rfl⟩ (.cons ⟨_, rfl⟩ .nil), ⟨_, hT2, rfl, _, rfl⟩⟩
    have I1 : Inv X pins σ (upd H s.heap.objs.size (.tup [.int (i : Nat), .str ⟨#[c]⟩])) { s with heap := h'', toks := tk + 1 } :=
      I.turnedNew (ch := [e, it]) (fun b ob hb q => (sb.2 b (fun z => hb (by simp [z]))).trans (hk b ob (fun z => hb (by simp [z])) (fun z => hb (by simp [z])) q)) hf (Nat.le_refl _) new
    refine ⟨.ref s.heap.objs.size, _, I1, rfl, ⟨_, c, rfl, I.hok.fresh (Nat.le_refl _), rfl, hcx⟩, ⟨⟨Value.str ⟨#[c]⟩ u, ?_⟩, ?_, hne⟩, fun b hb => ?_⟩
    · have e1 : ((i + 1 : Nat) : Int) = (i : Int) + 1 := by omega
      rw [e1]
      exact he'
    · obtain ⟨o, ho', r⟩ := hit'
      exact ⟨o, (sb.2 it (Ne.symm hne)).trans ho', r⟩
    · have e' : b = e ∨ b = it := by simpa using hb
      have hb' : b < s.heap.objs.size := by
        rcases e' with rfl | rfl
        · exact hel
        · exact hil
      rw [upd_ne (Nat.ne_of_lt hb')]
      exact (hf b hb).1
  done := by
    rintro X rfl rfl rfl hc i pins s σ H E I hf ⟨⟨old, he⟩, hit, hne⟩ hg
    obtain ⟨f0, f1, f2, f3, f4, f5⟩ := hf it (by simp)
    have hie : i = x.cps.size := hg
    subst hie
    have D : Draws X.prog X.w X.A.in1 it [it] x.cps.size (fun i v => ∃ c u, x.cps[i]? = some c ∧ v = .str ⟨#[c]⟩ u) (fun i h => h.IsStrIter it (strIterType x) x t i) := Draws.text (A := X.A.in1) (I.ok.hd hc) it x t
    exact wpAny_pyNext_enum_endD D he hit fun h' eb => ⟨rfl, I.turned (t' := s.toks) (fun b o hb q => eb b o hb q) f0 f1 f3 f4 f5⟩
  self := fun A i s Q E st h => by
    obtain ⟨⟨_, he⟩, _⟩ := st
    exact wpAny_pyIter_enum he h
def iEnumS (ta : TA) : TI := fun σ H R => ta σ H fun vs H1 => ∃ x, vs = [.str x] ∧ R (ItEs x) H1
theorem pi_enumS {e : Expr} {ta : TA} {p pos tpos : Pos} {elts : List Expr} {kk : Nat} (hg : Gl X "enumerate") (hm : X.mg "enumerate" = none) (ha : PA X [e] ta) (hs : starEach [e] X.env = [(false, eval e X.env)] := by rfl) :
    PI X (.Tuple elts kk tpos) (.Call (.Name "enumerate" p) [e] [] pos) (iEnumS ta) where
  run := by
    intro pins s σ H R I h
    refine Call_ (ld_blt I hg hm boot_enumerate (PyProof.Rows.callWith_type1 (thn (ha.run pos pins s σ H _ I h) ?_) hs rfl))
    rintro us s1 ⟨vs, H1, I1, r1, x, rfl, q⟩
    obtain ⟨u, rfl, r⟩ := vals1 r1
    obtain ⟨t, rfl⟩ := r
    refine call_enumerate_str fun h' he hit hsz hk => wpAny_pyIter_enum he ?_
    have I2 : Inv X pins σ H1 { s1 with heap := h' } := I1.kept (t' := s1.toks) hk
    refine ⟨s1.heap.objs.size + 1, [s1.heap.objs.size + 1, s1.heap.objs.size], _, _, H1, rfl, I2, turn_enumS (s1.heap.objs.size + 1) s1.heap.objs.size x t, ⟨⟨.none, he⟩, hit, Nat.succ_ne_self _⟩, fun b hb => ?_, q⟩
    have hle : s1.heap.objs.size ≤ b := by
      have e' : b = s1.heap.objs.size + 1 ∨ b = s1.heap.objs.size := by simpa using hb
      rcases e' with rfl | rfl
      · exact Nat.le_add_right _ _
      · exact Nat.le_refl _
    exact I1.fpOk hle (I1.hok.fresh hle)
end
end BJ

/-! defs as they stand in the text; the laws' drawing of numbers -/
namespace BJ
open PySem PySem.Spec PyProof.Rows L2
open PySem.W (Frag)

/-- the def st stands at f; its parameters, all positional, none with a default -/
structure DefAt (K : Frag) (x qual : Str) (st : Stmt) (f : Addr) (ps : List Str) : Prop where
  fn : ∃ fd, Fun K x qual st f fd ∧ Binds K fd ps []
section
variable {P : Program} {w : World} {K : Frag} {mg : Str → Option Value} {base : Heap}
theorem DefAt.okF {x qual : Str} {st : Stmt} {f : Addr} {N ps : List Str} {k : Nat} {sp : Sp} (D : DefAt K x qual st f ps) (S : FnScope N ps (defScope st))
    (len : ∀ vs H Q E, sp vs H Q E → vs.length = ps.length)
    (hbody : ∀ (cdv : Value) (A : Around) (outer : List Env) (s : Shared) (H : Hp) (vs : List V) (Q : VK) (E : XK),
      Room k (A.deeper (envOfC qual (defScope st) s.heap.objs.size f cdv)) → A.guards = some [] → sp vs H Q E →
      ∃ t, PSs (cxOf (L2.CX P w) P w K mg base N qual (defScope st) f cdv A outer s H E) (defBody st) t ∧ t { nx := fun _ H' => Q .non H', rt := Q } (start N vs) H) :
    ∃ fd, FnG P w K mg base (k + 1) f fd ps sp ∧ Binds K fd ps [] ∧ Fun K x qual st f fd := by
  obtain ⟨fd, F, hb⟩ := D.fn
  refine ⟨fd, ?_, hb, F⟩
  obtain ⟨oc, od, kV, doc, pm, an, cdv, ct, osl, rfl, lk, hcd⟩ := F.ex
  exact fnG_of lk hcd S len fun A outer s H vs Q E hr hg hsp => hbody cdv A outer s H vs Q E hr hg hsp
theorem DefAt.ok {x qual : Str} {st : Stmt} {f : Addr} {N ps : List Str} {k : Nat} {sp : Sp} (D : DefAt K x qual st f ps) (S : FnScope N ps (defScope st))
    (len : ∀ vs H Q E, sp vs H Q E → vs.length = ps.length)
    (hbody : ∀ (cdv : Value) (A : Around) (outer : List Env) (s : Shared) (H : Hp) (vs : List V) (Q : VK) (E : XK),
      Room k (A.deeper (envOfC qual (defScope st) s.heap.objs.size f cdv)) → A.guards = some [] → sp vs H Q E →
      ∃ t, PSs (cxOf (L2.CX P w) P w K mg base N qual (defScope st) f cdv A outer s H E) (defBody st) t ∧ t { nx := fun _ H' => Q .non H', rt := Q } (start N vs) H) :
    CallP P w K mg base (k + 1) (.ref f) sp := by
  obtain ⟨fd, F, hb, _⟩ := D.okF S len hbody
  have q := F.callP (dvs := []) hb .nil
  rintro A outer s H us ws vs zs Q E room hg e0 rel relz ⟨hz, prom⟩
  exact q A outer s H us ws vs zs Q E room hg e0 rel relz ⟨hz, show sp (vs ++ []) H Q E by rw [List.append_nil]; exact prom⟩
end

section
variable {X : Cx}
/-- a list by its very object, to be read: tracked or frozen, or one of the written part as it was made -/
def Scr (K : Frag) (H : Hp) (a : Addr) (xs : List V) : Prop :=
  Rd H a (.lst xs) ∨ ∃ (its : List Value) (n : Nat), K.lookup a = some { cls := .type "list", data := .seq its.toArray n } ∧ Vals xs its ∧ xs.length ≤ sizeLine
theorem Scr.sq {K : Frag} {H : Hp} {a : Addr} {xs : List V} (h : Scr K H a xs) : SqL K H a xs := by
  rcases h with h | ⟨its, n, hk, r, hz⟩
  · exact .inl h
  · exact .inr ⟨_, its.toArray, n, hk, rfl, rfl, rfl, by rw [List.size_toArray, ← r.length]; exact hz, r⟩
theorem Scr.at {pins : List (Addr × Obj)} {σ : L2.St} {H : Hp} {s : Shared} {a : Addr} {xs : List V} (I : Inv X pins σ H s) (h : Scr X.K H a xs) :
    ∃ (its : List Value) (n : Nat), Vals xs its ∧ IsL s.heap a its.toArray n ∧ xs.length ≤ sizeLine := by
  rcases h with h | ⟨its, n, hk, r, hz⟩
  · obtain ⟨z, its, n, r, e⟩ := h.ok I.hok
    exact ⟨its, n, r, e, z⟩
  · exact ⟨its, n, r, I.kIn _ _ hk, hz⟩
/-- xs + ys, both lists that may be read only -/
def rCatS (K : Frag) : R2 := fun x y H Q => ∃ l b xs zs, x = .ref l ∧ y = .ref b ∧ Scr K H l xs ∧ Scr K H b zs ∧ xs.length + zs.length ≤ sizeLine ∧ ∀ p, H p = none → Q (.ref p) (upd H p (.lst (xs ++ zs)))
theorem op_catS : OpR X (binaryOp .Add) (rCatS X.K) := by
  rintro pins s σ H x y v u Q I rx ry ⟨l, b, xs, zs, rfl, rfl, hH, hB, hz, q⟩
  cases rx
  cases ry
  obtain ⟨its, n, r, e, hl⟩ := hH.at I
  obtain ⟨its2, n2, r2, e2, hl2⟩ := hB.at I
  have q1 := r.length
  have q2 := r2.length
  refine PySem.P.add_list e e2 ?_ (by rw [List.size_toArray, List.size_toArray]; omega)
  rw [show its.toArray ++ its2.toArray = (its ++ its2).toArray from by simp]
  exact ⟨.ref _, _, I.lnew (t' := s.toks) (r.append r2) (by rw [List.length_append]; omega), rfl, q _ I.fresh⟩
end

/-! ### the law's call -/
/-- nothing is tracked but the script, frozen -/
theorem lawG {P : Program} {w : World} {K : Frag} {mg mb : Str → Option Value} {k : Nat} {fa a : Addr} {sp : Sp} {s₁ : Shared} {vs : List Value} {ns : List Int}
    (KX : K.In s₁.heap) (hns : s₁.heap.Ns mainGlobals mg) (hb : s₁.heap.Ns builtinsNs mb) (hbb : ∀ x : Str, x ≠ "__name__" → mb x = bootBuiltins x) (hlim : s₁.heap.NoLimit) (hg : s₁.gens = #[])
    (ha : s₁.heap.get? a = some { cls := .type "list", data := .seq vs.toArray }) (hi : IntsAre vs ns) (hl : ns.length ≤ sizeLine) (hr : Room k callerA)
    (F : ∀ base : Heap, K.In base → base.Ns mainGlobals mg → CallP P w K mg base k (.ref fa) sp)
    (hsp : ∀ H : Hp, Scr K H a (ns.map V.int) → sp [.ref a] H (fun v _ => v = .bl true) fun _ _ _ => False) :
    codeAny (model P w) callerA (.call (.ref fa) ⟨[.ref a], []⟩) (fun r s' => r = .ok (.ret (.bool true)) ∧ OldK s₁.heap s'.heap ∧ s'.os = s₁.os ∧ AllBare s'.gens) s₁ := by
  have rv := vals_ints hi
  have lenV := hi.length
  -- the abstract heap: the script alone, or nothing where the script is an object of the top
  have core : ∀ H : Hp, (∀ b u, H b = some u → b = a ∧ K.lookup a = none ∧ ∃ o xs, u = .frz o (.lst xs)) → HOk P w H s₁.heap → Scr K H a (ns.map V.int) →
      codeAny (model P w) callerA (.call (.ref fa) ⟨[.ref a], []⟩) (fun r s' => r = .ok (.ret (.bool true)) ∧ OldK s₁.heap s'.heap ∧ s'.os = s₁.os ∧ AllBare s'.gens) s₁ := by
    intro H hA hok hS
    have keepB : ∀ {b : Addr} {o : Obj}, s₁.heap.get? b = some o → H b = none → (hidT s₁.heap H).get? b = some o := fun e n => hidT_get e n
    have nsK : ∀ {b : Addr} {m : Str → Option Value}, s₁.heap.Ns b m → (hidT s₁.heap H).Ns b m := by
      rintro b m ⟨o, es, ep, e, d, r⟩
      refine ⟨o, es, ep, keepB e ?_, d, r⟩
      cases q : H b with
      | none => rfl
      | some u =>
        obtain ⟨rfl, _, _⟩ := hA b u q
        rw [ha] at e
        cases e
        cases d
    have kin : K.In (hidT s₁.heap H) := by
      intro b o e
      refine keepB (KX b o e) ?_
      cases q : H b with
      | none => rfl
      | some u =>
        obtain ⟨rfl, z, _⟩ := hA b u q
        rw [z] at e
        cases e
    obtain ⟨mc, l1, l2⟩ := id hlim
    have md : Mod K mg (hidT s₁.heap H) := ⟨kin, nsK hns, ⟨mb, nsK hb, hbb⟩, ⟨mc, nsK l1, l2⟩⟩
    have e0 : Env0 P w K mg (hidT s₁.heap H) callerA [] s₁ H :=
      ⟨rfl, md, fun b o e => of_hidT e, Nat.le_of_eq (hidT_size _ _), trivial, (fun b hb => absurd (show b ∈ ([] : List Addr) from hb) (by simp)), hok, AllBare.of_eq hg⟩
    refine codeAny_mono (F _ kin (nsK hns) callerA [] s₁ H [.ref a] [] [.ref a] [] _ _ hr rfl e0 (.cons rfl .nil) .nil ⟨rfl, hsp H hS⟩) ?_
    intro r s' h
    match r, h with
    | .error e, ⟨_, _, _, _, _, _, _, _, _, _, _, _, z⟩ => exact z.elim
    | .ok (.ret u), ⟨v, H', os, bare, un, hok', r', q⟩ =>
      obtain rfl : v = .bl true := q
      obtain rfl : u = Value.bool true := r'
      refine ⟨rfl, OldK.of_keep fun b o e => ?_, os, bare⟩
      cases q : H b with
      | none => exact un.keep b o e q (fun z => nomatch (show b ∈ ([] : List Addr) from z)) (fun z => nomatch z)
      | some u =>
        obtain ⟨_, _, ob, xs, rfl⟩ := hA b u q
        have e1 := (hok b _ q).1
        have e2 := (hok' b _ (un.frzs b ob _ q)).1
        rw [e] at e1
        cases e1
        exact e2
  cases hk : K.lookup a with
  | some o =>
    have e := KX a o hk
    rw [ha] at e
    cases e
    exact core (fun _ => none) (fun b u z => nomatch z) (fun b u z => nomatch z) (.inr ⟨vs, 0, hk, rv, by rw [List.length_map]; exact hl⟩)
  | none =>
    refine core (fun b => if b = a then some (.frz { cls := .type "list", data := .seq vs.toArray } (.lst (ns.map V.int))) else none) (fun b u z => ?_) (fun b u z => ?_) (.inl (.inr ⟨_, if_pos rfl⟩))
    · by_cases h : b = a
      · have q := (if_pos h).symm.trans z
        cases q
        exact ⟨h, hk, _, _, rfl⟩
      · exact nomatch (if_neg h).symm.trans z
    · by_cases h : b = a
      · have q := (if_pos h).symm.trans z
        cases q
        subst h
        exact ⟨ha, by rw [List.length_map]; exact hl, vs, _, rv, ha⟩
      · exact nomatch (if_neg h).symm.trans z
open PySem.W in
/-- what k_head leaves of a law, from the law's promise -/
theorem walkG {l : OpenLaw} {n k : Nat} {q : Program} {loose : List Str} {XP : (Str → Option Value) → Heap → Prop} {YP : World → Heap → Prop} {d : DefRec} {K : Params → Frag} {sp : World → Sp}
    (hn : l.most = some n) (hn2 : n ≤ sizeLine) (hdf : d.params.defaults = []) (hr : Room k callerA) (hY : ∀ (w : World) (h : Heap), YP w h → (K w.params).In h)
    (F : ∀ (w : World) (mg : Str → Option Value) (fa : Addr) (h : Heap), (K w.params).In h → h.Ns mainGlobals mg → mg d.name = some (.ref fa) →
      ∀ base : Heap, (K w.params).In base → base.Ns mainGlobals mg → CallP l.prog w (K w.params) mg base k (.ref fa) (sp w))
    (hsp : ∀ (w : World) (H : Hp) (a : Addr) (ns : List Int), ns.length ≤ n → (∀ z ∈ ns, Builtin.Int.intBits z ≤ 1048576) → Scr (K w.params) H a (ns.map V.int) → sp w [.ref a] H (fun v _ => v = .bl true) fun _ _ _ => False) :
    WalkO q loose XP YP l.row.toRowW d [] (fun f vs => PySem.call f vs) := by
  refine Att.attach_callB hn hdf fun w s₀ s₁ mg mb fa o pm cd doc a vs ns G Y ho hd hcd hmg hobj hints hlen hbits hg => ?_
  have KX := hY w _ Y
  exact lawG KX G.T.g G.T.b G.T.builtins G.T.nolimit hg hobj hints (Nat.le_trans hlen hn2) hr (F w mg fa _ KX G.T.g hmg) fun H hS => hsp w H a ns hlen hbits hS
end BJ

/-! the laws' drawing of numbers: what its dict is, what a draw promises -/
namespace BJ
open PySem PySem.Spec PyProof.Rows L2
open PySem.W (Frag)

theorem upd_keep {H : Hp} {a p : Addr} {o u : HO} (h : H a = some u) (np : H p = none) : upd H p o a = some u := by rw [upd_ne (ne_of_none h np)]; exact h
theorem same_upd {H : Hp} {p : Addr} {o : HO} (np : H p = none) : Same H (upd H p o) := fun _ _ e => upd_keep e np
theorem Same.trans' {H H1 H2 : Hp} (a : Same H H1) (b : Same H1 H2) : Same H H2 := fun p o e => b p o (a p o e)
theorem Same.rfl' {H : Hp} : Same H H := fun _ _ e => e

theorem ifd {p : Prop} [Decidable p] {A B : Prop} (h1 : p → A) (h2 : ¬ p → B) : if decide p = true then A else B := by
  by_cases h : p
  · rw [if_pos (decide_eq_true h)]
    exact h1 h
  · rw [if_neg (by simpa using h)]
    exact h2 h
theorem ifb {b : Bool} {A B : Prop} (h1 : b = true → A) (h2 : b = false → B) : if b = true then A else B := by
  cases b with
  | true => exact h1 rfl
  | false => exact h2 rfl
def drw (c : Addr) (a l u : Int) : List (Key × V) := [(.inr "cells", .ref c), (.inr "at", .int a), (.inr "left", .int l), (.inr "used", .int u)]
section
variable {c : Addr} {a l u i : Int} {v : V}
theorem drw_cells : valV (drw c a l u) (Sum.inr "cells") = some (.ref c) := by simp [drw, valV]
theorem drw_at : valV (drw c a l u) (Sum.inr "at") = some (.int a) := by
  have h1 : ¬ (("cells" : Str) = "at") := by decide
  simp [drw, valV, List.find?, h1]
theorem drw_left : valV (drw c a l u) (Sum.inr "left") = some (.int l) := by
  have h1 : ¬ (("cells" : Str) = "left") := by decide
  have h2 : ¬ (("at" : Str) = "left") := by decide
  simp [drw, valV, List.find?, h1, h2]
theorem drw_used : valV (drw c a l u) (Sum.inr "used") = some (.int u) := by
  have h1 : ¬ (("cells" : Str) = "used") := by decide
  have h2 : ¬ (("at" : Str) = "used") := by decide
  have h3 : ¬ (("left" : Str) = "used") := by decide
  simp [drw, valV, List.find?, h1, h2, h3]
theorem drw_put_at : putK (drw c a l u) (Sum.inr "at") (.int i) = drw c i l u := by
  have h1 : ¬ (("cells" : Str) = "at") := by decide
  have h2 : ¬ (("left" : Str) = "at") := by decide
  have h3 : ¬ (("used" : Str) = "at") := by decide
  simp [drw, putK, h1, h2, h3]
theorem drw_put_left : putK (drw c a l u) (Sum.inr "left") (.int i) = drw c a i u := by
  have h1 : ¬ (("cells" : Str) = "left") := by decide
  have h2 : ¬ (("at" : Str) = "left") := by decide
  have h3 : ¬ (("used" : Str) = "left") := by decide
  simp [drw, putK, h1, h2, h3]
theorem drw_put_used : putK (drw c a l u) (Sum.inr "used") (.int i) = drw c a l i := by
  have h1 : ¬ (("cells" : Str) = "used") := by decide
  have h2 : ¬ (("at" : Str) = "used") := by decide
  have h3 : ¬ (("left" : Str) = "used") := by decide
  simp [drw, putK, h1, h2, h3]
theorem drw_len : (drw c a l u).length = 4 := rfl
end
/-- the dict of the draws at d, its cells at c; at most n draws were made -/
structure Dr (H : Hp) (d c : Addr) (cells : List Int) (n : Nat) : Prop where
  dict : ∃ a l u, H d = some (.dK (drw c a l u)) ∧ 0 ≤ a ∧ a ≤ (n : Int) ∧ 0 ≤ u ∧ u ≤ (n : Int) ∧ 0 ≤ l
  list : H c = some (.lst (cells.map V.int))
  ne : cells ≠ []
  len : cells.length ≤ 64
theorem Dr.dc {H : Hp} {d c : Addr} {cells : List Int} {n : Nat} (D : Dr H d c cells n) : d ≠ c := by
  obtain ⟨a, l, u, h, _⟩ := D.dict
  exact ne_of h D.list (fun z => nomatch z)
theorem Dr.mono {H : Hp} {d c : Addr} {cells : List Int} {n m : Nat} (D : Dr H d c cells n) (h : n ≤ m) : Dr H d c cells m := by
  obtain ⟨⟨a, l, u, h1, h2, h3, h4, h5, h6⟩, hl, hn, hz⟩ := D
  exact ⟨⟨a, l, u, h1, h2, by omega, h4, by omega, h6⟩, hl, hn, hz⟩
theorem Dr.same {H H' : Hp} {d c : Addr} {cells : List Int} {n : Nat} (D : Dr H d c cells n) (s : Same H H') : Dr H' d c cells n := by
  obtain ⟨⟨a, l, u, h1, h2⟩, hl, hn, hz⟩ := D
  exact ⟨⟨a, l, u, s _ _ h1, h2⟩, s _ _ hl, hn, hz⟩
/-- all stands but at d -/
def But (d : Addr) (H H' : Hp) : Prop := ∀ p, p ≠ d → H' p = H p
theorem But.trans {d : Addr} {H H1 H2 : Hp} (a : But d H H1) (b : But d H1 H2) : But d H H2 := fun p h => (b p h).trans (a p h)
theorem But.rfl {d : Addr} {H : Hp} : But d H H := fun _ _ => Eq.refl _
theorem But.upd {d : Addr} {H : Hp} {o : HO} : But d H (upd H d o) := fun _ h => upd_ne h
/-- old things stand but d (new things may have come) -/
def SameBut (d : Addr) (H H' : Hp) : Prop := ∀ p o, p ≠ d → H p = some o → H' p = some o
theorem SameBut.rfl {d : Addr} {H : Hp} : SameBut d H H := fun _ _ _ e => e
theorem SameBut.trans {d : Addr} {H H1 H2 : Hp} (a : SameBut d H H1) (b : SameBut d H1 H2) : SameBut d H H2 := fun p o h e => b p o h (a p o h e)
theorem SameBut.of {d : Addr} {H H' : Hp} (s : Same H H') : SameBut d H H' := fun p o _ e => s p o e
theorem But.sb {d : Addr} {H H' : Hp} (b : But d H H') : SameBut d H H' := fun p o h e => (b p h).trans e

theorem dg {H : Hp} {d : Addr} {kvs : List (Key × V)} {k : Key} {v : V} (h : H d = some (.dK kvs)) (e : valV kvs k = some v) : DGet H d (kV k) (some v) := by
  rw [← e]
  exact DGet.k h
theorem dp {H : Hp} {d : Addr} {kvs kvs' : List (Key × V)} {k : Key} {v : V} (h : H d = some (.dK kvs)) (e : putK kvs k v = kvs') (hl : kvs.length < 1000) : DPut H d (kV k) v (upd H d (.dK kvs')) := by
  rw [← e]
  exact DPut.k h (Nat.lt_of_lt_of_le hl (by decide))
theorem fm {i b : Int} (h : 0 < b) : 0 ≤ i.fmod b ∧ i.fmod b < b := by
  rw [Int.fmod_eq_emod_of_nonneg i (by omega)]
  exact ⟨Int.emod_nonneg _ (by omega), Int.emod_lt_of_pos _ h⟩
theorem fd {i b : Int} (h : 0 < b) (hi : 0 ≤ i) : 0 ≤ i.fdiv b := by
  rw [Int.fdiv_eq_ediv_of_nonneg i (by omega)]
  exact Int.ediv_nonneg hi (by omega)
theorem Dr_up {H : Hp} {d c : Addr} {cells : List Int} {n : Nat} (D : Dr H d c cells n) {a l u : Int} (h1 : 0 ≤ a) (h2 : a ≤ (n : Int) + 1) (h3 : 0 ≤ u) (h4 : u ≤ (n : Int) + 1) (h5 : 0 ≤ l) : Dr (upd H d (.dK (drw c a l u))) d c cells (n + 1) :=
  ⟨⟨a, l, u, upd_same, h1, by omega, h3, by omega, h5⟩, by rw [upd_ne D.dc.symm]; exact D.list, D.ne, D.len⟩
def spBegin (K : Frag) : Sp := fun vs H Q _ => ∃ (a : Addr) (ns : List Int), vs = [.ref a] ∧ Scr K H a (ns.map V.int) ∧ ns.length ≤ 63 ∧ ∀ d c H', Same H H' → H d = none → H c = none → Dr H' d c (ns ++ [0]) 0 → Q (.ref d) H'
def spMixed : Sp := fun vs H Q _ => ∃ (cell k : Int), vs = [.int cell, .int k] ∧ 0 ≤ k ∧ k ≤ 1000000000 ∧ ∀ r, 0 ≤ r → Q (.int r) H
def spNext : Sp := fun vs H Q _ => ∃ (d c : Addr) (cells : List Int) (n : Nat) (b : Int), vs = [.ref d, .int b] ∧ Dr H d c cells n ∧ n < 1000000000 ∧ 0 < b ∧ b < 1073741824 ∧
  ∀ r H', 0 ≤ r → r < b → Dr H' d c cells (n + 1) → But d H H' → Q (.int r) H'
end BJ

/-! what evaluates (on Evl): calls, comprehensions by walks; types of values; data with {} -/
namespace BJ
open PySem PySem.Spec PyProof.Rows L2 Evl
open PySem.W (Frag kitOne kitAny)

section
variable {σ : L2.St} {H : Hp} {z : V}
/-- a def's promise gives the value z -/
def SpE (sp : Sp) (vs : List V) (H : Hp) (z : V) : Prop := ∀ H1, Ex H H1 → ∀ (Q : VK) (E : XK), (∀ H2, Ex H1 H2 → Q z H2) → sp vs H1 Q E
theorem ev_ca {sp : Sp} {W : WX} {t : TA} {vs : List V} (h : EvA t σ H vs) (hs : SpE sp vs H z) : Ev (tCa sp W t) σ H z := fun H1 e Q q =>
  h H1 e _ fun H2 e2 => hs H2 (e.trans e2) Q _ fun H3 e3 => q H3 (e2.trans e3)
theorem et_yes : EvT tYes σ H true := fun H1 _ _ q => q H1 (Ex.refl H1)

theorem given_len' (n : Nat) (f : Nat → Bool) (v : Nat → V) : (given n f v).length ≤ n := given_len n f v
theorem cw_turn' {t : TT} {te : TE} {H H' : Hp} {f : Nat → Bool} {v : Nat → V} {Dl : Addr} {i : Nat} {σ2 : L2.St} (p : Cw H f v Dl i H') (hi : i < 1000000) (ht : EvT t σ2 H (f i)) (he : f i = true → Ev te σ2 H (v i)) :
    t σ2 H' fun b H3 => if b = true then te σ2 H3 fun y H4 => ∃ acc, H4 Dl = some (.lst acc) ∧ acc.length < sizeLine ∧ Cw H f v Dl (i + 1) (upd H4 Dl (.lst (acc ++ [y]))) else Cw H f v Dl (i + 1) H3 := by
  obtain ⟨p1, p2, p3⟩ := p
  refine ht H' p2 _ fun H3 e3 => ?_
  cases hf : f i with
  | true =>
    show te σ2 H3 fun y H4 => ∃ acc, H4 Dl = some (.lst acc) ∧ acc.length < sizeLine ∧ Cw H f v Dl (i + 1) (upd H4 Dl (.lst (acc ++ [y])))
    refine he hf H3 (p2.trans e3) _ fun H4 e4 => ⟨given i f v, e4 Dl _ (e3 Dl _ p3), (by have := given_len i f v; rw [sizeLine_eq]; omega), p1, Ex.mut ((p2.trans e3).trans e4) p1, ?_⟩
    rw [given_yes hf]
    exact upd_same
  | false =>
    show Cw H f v Dl (i + 1) H3
    refine ⟨p1, p2.trans e3, ?_⟩
    rw [given_no hf]
    exact e3 Dl _ p3
/-- a comprehension over a walk; the turn may lay objects, changes none -/
theorem lc_ev {J : It} {n : Nat} {G : Hp → Prop} {Y : Nat → Hp → V → Hp → Prop} (w : Walk J n G Y) {g : TG} {tt : TT} {te : TE} {vs : List Nat} {H1 : Hp} {Q : VK} (f : Nat → Bool) (v : Nat → V) (hn : n ≤ 1000000)
    (hG : ∀ H, Ex H1 H → G H)
    (hs : ∀ i x H2 H3, i < n → Ex H1 H2 → Y i H2 x H3 → ∃ σ2, wipe σ2 vs = wipe σ vs ∧ Ex H2 H3 ∧ (∀ Q : L2.St → Hp → Prop, Q σ2 H3 → g x (wipe σ vs) H3 Q) ∧ EvT tt σ2 H1 (f i) ∧ (f i = true → Ev te σ2 H1 (v i)))
    (k : ∀ D H', H1 D = none → Ex H1 H' → H' D = some (.lst (given n f v)) → Q (.ref D) H') :
    ∀ D, H1 D = none → ∃ W : Nat → Nat → Hp → Prop, (∃ m, W 0 m (upd H1 D (.lst []))) ∧ ∀ i m H, W i m H →
      (J.stop i H ∧ Q (.ref D) H) ∨ (J.go i H ∧ ∃ Nx : Hp → Prop, (∀ H', Nx H' → ∃ m', m' < m ∧ W (i + 1) m' H') ∧ ∀ x H', J.yld i H x H' → g x (wipe σ vs) H' fun σ2 H2 => wipe σ2 vs = wipe σ vs ∧ tt σ2 H2 fun b H3 =>
        if b = true then te σ2 H3 fun y H4 => ∃ acc, H4 D = some (.lst acc) ∧ acc.length < sizeLine ∧ Nx (upd H4 D (.lst (acc ++ [y]))) else Nx H3) := fun D hD =>
  lc_it w (Cw H1 f v D) ⟨hD, Ex.new hD, upd_same⟩ (fun i H _ p => hG H p.2.1) (fun i x H2 H3 hi p y => by
    obtain ⟨σ2, hw, e3, hg, ht, he⟩ := hs i x H2 H3 hi p.2.1 y
    exact hg _ ⟨hw, cw_turn' ⟨p.1, p.2.1.trans e3, e3 D _ p.2.2⟩ (by omega) ht he⟩) fun H' p => k D H' p.1 p.2.1 p.2.2
theorem given_map {α : Type} (xs : List α) (d : α) (f : α → Bool) (F : α → V) : given xs.length (fun i => f (xs.getD i d)) (fun i => F (xs.getD i d)) = (xs.filter f).map F := by
  unfold given
  have h : (List.range xs.length).map (fun i => xs.getD i d) = xs := by
    apply List.ext_getElem
    · simp
    · intro i h1 h2
      simp [List.getD, List.getElem?_eq_getElem h2]
  have e : ((List.range xs.length).filter (fun i => f (xs.getD i d))).map (fun i => xs.getD i d) = xs.filter f := by
    conv => rhs; rw [← h]
    rw [List.filter_map]
    rfl
  rw [← e, List.map_map]
  rfl
/-- .. its target a name, the items those of xs -/
theorem lc_at {J : It} {xs : List V} {G : Hp → Prop} (w : Walk J xs.length G (YAt xs)) {j : Nat} {tt : TT} {te : TE} {vs : List Nat} {H1 : Hp} {Q : VK} (f : V → Bool) (F : V → V) (hn : xs.length ≤ 1000000)
    (hG : ∀ H, Ex H1 H → G H) (hw : ∀ x, wipe ((wipe σ vs).set j (some x)) vs = wipe σ vs)
    (ht : ∀ x ∈ xs, EvT tt ((wipe σ vs).set j (some x)) H1 (f x)) (he : ∀ x ∈ xs, f x = true → Ev te ((wipe σ vs).set j (some x)) H1 (F x))
    (k : ∀ D H', H1 D = none → Ex H1 H' → H' D = some (.lst ((xs.filter f).map F)) → Q (.ref D) H') :
    ∀ D, H1 D = none → ∃ W : Nat → Nat → Hp → Prop, (∃ m, W 0 m (upd H1 D (.lst []))) ∧ ∀ i m H, W i m H →
      (J.stop i H ∧ Q (.ref D) H) ∨ (J.go i H ∧ ∃ Nx : Hp → Prop, (∀ H', Nx H' → ∃ m', m' < m ∧ W (i + 1) m' H') ∧ ∀ x H', J.yld i H x H' → gName j x (wipe σ vs) H' fun σ2 H2 => wipe σ2 vs = wipe σ vs ∧ tt σ2 H2 fun b H3 =>
        if b = true then te σ2 H3 fun y H4 => ∃ acc, H4 D = some (.lst acc) ∧ acc.length < sizeLine ∧ Nx (upd H4 D (.lst (acc ++ [y]))) else Nx H3) :=
  lc_ev w (fun i => f (xs.getD i .non)) (fun i => F (xs.getD i .non)) hn hG (fun i x H2 H3 hi e ⟨e1, hx⟩ => by
    subst e1
    have hm : x ∈ xs := List.mem_of_getElem? hx
    have hd : xs.getD i .non = x := by rw [List.getD, hx]; rfl
    refine ⟨_, hw x, Ex.refl _, fun Q q => q, ?_, ?_⟩
    · rw [hd]; exact ht x hm
    · rw [hd]; exact he x hm) (by rw [given_map]; exact k)
/-- .. its target a pair (a, b) of names -/
theorem lc_pr {J : It} {ps : List (V × V)} {G : Hp → Prop} {K : Frag} (w : Walk J ps.length G (fun i H v H' => ∃ T p, v = .ref T ∧ H T = none ∧ H' = upd H T (.tup [p.1, p.2]) ∧ ps[i]? = some p)) {j l : Nat} {tt : TT} {te : TE} {vs : List Nat} {H1 : Hp} {Q : VK} (f : V × V → Bool) (F : V × V → V) (hn : ps.length ≤ 1000000)
    (hG : ∀ H, Ex H1 H → G H) (hw : ∀ x y, wipe (((wipe σ vs).set j (some x)).set l (some y)) vs = wipe σ vs)
    (ht : ∀ p ∈ ps, EvT tt (((wipe σ vs).set j (some p.1)).set l (some p.2)) H1 (f p)) (he : ∀ p ∈ ps, f p = true → Ev te (((wipe σ vs).set j (some p.1)).set l (some p.2)) H1 (F p))
    (k : ∀ D H', H1 D = none → Ex H1 H' → H' D = some (.lst ((ps.filter f).map F)) → Q (.ref D) H') :
    ∀ D, H1 D = none → ∃ W : Nat → Nat → Hp → Prop, (∃ m, W 0 m (upd H1 D (.lst []))) ∧ ∀ i m H, W i m H →
      (J.stop i H ∧ Q (.ref D) H) ∨ (J.go i H ∧ ∃ Nx : Hp → Prop, (∀ H', Nx H' → ∃ m', m' < m ∧ W (i + 1) m' H') ∧ ∀ x H', J.yld i H x H' → gTup K 2 (gCons (gName j) (gCons (gName l) gNil)) x (wipe σ vs) H' fun σ2 H2 => wipe σ2 vs = wipe σ vs ∧ tt σ2 H2 fun b H3 =>
        if b = true then te σ2 H3 fun y H4 => ∃ acc, H4 D = some (.lst acc) ∧ acc.length < sizeLine ∧ Nx (upd H4 D (.lst (acc ++ [y]))) else Nx H3) :=
  lc_ev w (fun i => f (ps.getD i (.non, .non))) (fun i => F (ps.getD i (.non, .non))) hn hG (fun i x H2 H3 hi e y => by
    obtain ⟨T, ⟨p1, p2⟩, rfl, hT, rfl, hx⟩ := y
    have hm : (p1, p2) ∈ ps := List.mem_of_getElem? hx
    have hd : ps.getD i (.non, .non) = (p1, p2) := by rw [List.getD, hx]; rfl
    refine ⟨_, hw p1 p2, Ex.new hT, fun Q q => ⟨T, [p1, p2], rfl, st_of upd_same, rfl, p1, [p2], rfl, p2, [], rfl, rfl, q⟩, ?_, ?_⟩
    · rw [hd]; exact ht _ hm
    · rw [hd]; exact he _ hm) (by rw [given_map]; exact k)
theorem walk_strA {z : Str} : Walk (Its z) ((z.cps.toList.map fun c => V.str ⟨#[c]⟩).length) (fun _ => True) (YAt (z.cps.toList.map fun c => V.str ⟨#[c]⟩)) := by
  have e : (z.cps.toList.map fun c => V.str ⟨#[c]⟩).length = z.cps.size := by simp
  rw [e]
  refine walk_str.mono (fun _ h => h) fun i H x H' hi _ ⟨h1, c, hc, hx⟩ => ⟨h1, ?_⟩
  rw [List.getElem?_map, Array.getElem?_toList, hc, hx]
  rfl
theorem walk_rangeA {lo : Int} {n : Nat} : Walk (Itr lo n) (((List.range n).map fun i => V.int (lo + (i : Nat))).length) (fun _ => True) (YAt ((List.range n).map fun i => V.int (lo + (i : Nat)))) := by
  have e : ((List.range n).map fun i => V.int (lo + (i : Nat))).length = n := by simp
  rw [e]
  refine walk_range.mono (fun _ h => h) fun i H x H' hi _ ⟨h1, h2⟩ => ⟨h1, ?_⟩
  rw [List.getElem?_map, List.getElem?_range hi, h2]
  rfl
theorem walk_rangeCA {lo c : Int} {n : Nat} : Walk (Itc lo c n) (((List.range n).map fun i => V.int (lo + (i : Nat) * c)).length) (fun _ => True) (YAt ((List.range n).map fun i => V.int (lo + (i : Nat) * c))) := by
  have e : ((List.range n).map fun i => V.int (lo + (i : Nat) * c)).length = n := by simp
  rw [e]
  refine walk_rangeC.mono (fun _ h => h) fun i H x H' hi _ ⟨h1, h2⟩ => ⟨h1, ?_⟩
  rw [List.getElem?_map, List.getElem?_range hi, h2]
  rfl
/-- enumerate(text) -/
def enumP (z : Str) : List (V × V) := (z.cps.toList.zipIdx).map fun p => (V.int (p.2 : Nat), V.str ⟨#[p.1]⟩)
theorem enumP_len (z : Str) : (enumP z).length = z.cps.size := by simp [enumP]
theorem walk_enumSA {z : Str} : Walk (ItEs z) (enumP z).length (fun _ => True) (fun i H v H' => ∃ T p, v = .ref T ∧ H T = none ∧ H' = upd H T (.tup [p.1, p.2]) ∧ (enumP z)[i]? = some p) := by
  rw [enumP_len]
  refine ⟨fun i H hi _ => hi, fun H _ => rfl, fun i H v H' hi _ ⟨T, c, h1, h2, h3, h4⟩ => ⟨T, (V.int (i : Nat), V.str ⟨#[c]⟩), h1, h2, h3, ?_⟩⟩
  unfold enumP
  rw [List.getElem?_map, List.getElem?_zipIdx, Array.getElem?_toList, h4]
  simp
theorem walk_zipA {K : Frag} {a b : Addr} {xs ys : List V} : Walk (Itz K a b) (xs.zip ys).length (fun H => SqL K H a xs ∧ SqL K H b ys) (fun i H v H' => ∃ T p, v = .ref T ∧ H T = none ∧ H' = upd H T (.tup [p.1, p.2]) ∧ (xs.zip ys)[i]? = some p) := by
  refine (walk_zip (n := (xs.zip ys).length) (by simp)).mono (fun _ h => h) fun i H v H' hi _ ⟨T, x, y, h1, h2, h3, h4, h5⟩ => ⟨T, (x, y), h1, h2, h3, ?_⟩
  rw [List.getElem?_zip_eq_some]
  exact ⟨h4, h5⟩
end

/-! ### types -/
theorem ty_tup {K : Frag} {H : Hp} {p : Addr} {xs : List V} (h : SqT K H p xs) : TyX K H (.ref p) (.type "tuple") := by
  rcases h with (h | ⟨o, h⟩) | ⟨o, its, n, hk, hc, _⟩
  · exact .base (.tup h)
  · exact .fTuple h
  · exact .kTuple hk hc
theorem ty_lst {K : Frag} {H : Hp} {p : Addr} {xs : List V} (h : SqL K H p xs) : TyX K H (.ref p) (.type "list") := by
  rcases h with (h | ⟨o, h⟩) | ⟨o, its, n, hk, hc, _⟩
  · exact .base (.lst h)
  · exact .base (.frz h)
  · exact .kList hk hc
/-- x is of the built-in type n -/
def TyN (K : Frag) (H : Hp) (x : V) (n : String) : Prop := TyX K H x (.type n)
theorem tyx_ex {K : Frag} {H H' : Hp} (e : Ex H H') {x : V} {n : String} (h : TyX K H x (.type n)) : TyX K H' x (.type n) := by
  generalize ht : Value.type n = t at h
  cases h with
  | base b =>
    cases b with
    | non => exact .base .non
    | bl y => exact .base (.bl y)
    | int i => exact .base (.int i)
    | str y => exact .base (.str y)
    | flt y => exact .base (.flt y)
    | lst ea => exact .base (.lst (e _ _ ea))
    | frz ea => exact .base (.frz (e _ _ ea))
    | tup ea => exact .base (.tup (e _ _ ea))
    | dK ea => exact .base (.dK (e _ _ ea))
    | dT ea => exact .base (.dT (e _ _ ea))
    | ins => cases ht
  | byt b => exact .byt b
  | set ea => exact .set (e _ _ ea)
  | kList ea c => exact .kList ea c
  | kTuple ea c => exact .kTuple ea c
  | kDict ea c => exact .kDict ea c
  | fTuple ea => exact .fTuple (e _ _ ea)
  | fDict ea => exact .fDict (e _ _ ea)
mutual
theorem dp_ex {K : Frag} {H H' : Hp} (e : Ex H H') : ∀ {x : V} {d : PyData}, Dp K H x d → Dp K H' x d
  | _, _, .non => .non
  | _, _, .bl b => .bl b
  | _, _, .int i => .int i
  | _, _, .str x => .str x
  | _, _, .lst h1 h2 => .lst (ex_l e h1) (dpAll_ex e h2)
  | _, _, .tup h1 h2 => .tup (ex_t e h1) (dpAll_ex e h2)
theorem dpAll_ex {K : Frag} {H H' : Hp} (e : Ex H H') : ∀ {xs : List V} {ds : List PyData}, DpAll K H xs ds → DpAll K H' xs ds
  | _, _, .nil => .nil
  | _, _, .cons h1 h2 => .cons (dp_ex e h1) (dpAll_ex e h2)
end
theorem dpAll_int {K : Frag} {H : Hp} : ∀ ns : List Int, DpAll K H (ns.map V.int) (ns.map PyData.int)
  | [] => .nil
  | n :: ns => .cons (.int n) (dpAll_int ns)
/-- the type's name of data -/
def tyN : PyData → String
  | .none => "NoneType" | .bool _ => "bool" | .int _ => "int" | .str _ => "str" | .list _ => "list" | .tuple _ => "tuple" | .dict _ => "dict"
/-- data, or the empty dict -/
inductive Dq (K : Frag) (H : Hp) : V → PyData → Prop
  | dp {x : V} {d : PyData} (h : Dp K H x d) : Dq K H x d
  | dict {a : Addr} (h : H a = some (.dK [])) : Dq K H (.ref a) (.dict [])
theorem Dq.ex {K : Frag} {H H' : Hp} {x : V} {d : PyData} (e : Ex H H') (h : Dq K H x d) : Dq K H' x d := by
  cases h with
  | dp h => exact .dp (dp_ex e h)
  | dict h => exact .dict (e _ _ h)
theorem dp_ty {K : Frag} {H : Hp} {x : V} {d : PyData} (h : Dp K H x d) : TyX K H x (.type (tyN d)) := by
  cases h with
  | non => exact .base .non
  | bl b => exact .base (.bl b)
  | int i => exact .base (.int i)
  | str x => exact .base (.str x)
  | lst h _ => exact ty_lst h
  | tup h _ => exact ty_tup h
theorem Dq.ty {K : Frag} {H : Hp} {x : V} {d : PyData} (h : Dq K H x d) : TyX K H x (.type (tyN d)) := by
  cases h with
  | dp h => exact dp_ty h
  | dict h => exact .base (.dK h)
section
variable {X : Cx}
/-- repr(x) of data, {} among it -/
def rReprQ (K : Frag) : List V → Hp → VK → Prop := fun xs H Q => ∃ (x : V) (d : PyData), xs = [x] ∧ Dq K H x d ∧ d.showable = true ∧ (d = .dict [] ∨ d.hasDict = false) ∧ d.depth ≤ 40 ∧ d.shown.length ≤ sizeLine ∧ Q (.str d.shown) H
theorem call_reprQ {k : Nat} (hr : Room k X.A) (hG : X.A.guards = some []) : CallR X (.builtin "repr") (rReprQ X.K) := by
  rintro pins s σ H xs us Q I r ⟨x, d, rfl, hd, hs, hnd, hdep, hsz, q⟩
  cases hd with
  | dp hd =>
    refine call_repr hr hG pins s σ H [x] us Q I r ⟨x, d, rfl, hd, hs, ?_, hdep, hsz, q⟩
    rcases hnd with rfl | h
    · cases hd
    · exact h
  | @dict a ha =>
    obtain ⟨u, rfl, r1⟩ := vals1 r
    cases (show u = Value.ref a from r1)
    obtain ⟨_, hsys, vs, hkv, o, es, ep, h1, h2, h3, _, h5, _⟩ := (show ObjOk X.prog X.w H s.heap a (.dK []) from I.hok a _ ha)
    cases hkv
    have he : es.toList = [] := List.length_eq_zero_iff.mp (by rw [h5.length]; rfl)
    have rd : Reads s.heap (.ref a) (.dict []) (a :: [] ++ []) := .dict (kvs := []) h1 h2.1 h3 (by rw [he]; exact .nil) (by rw [he]; exact .nil)
    refine repr_of_reads' rd hs (fun _ hm => ?_) hG (by have := hr.un; omega) (fun _ _ e => e) (fun h' t tk kk => ⟨.str (PyData.dict []).shown, H, I.kept (t' := tk) kk, ⟨t, rfl⟩, q⟩) hsz
    have : sysModules = a := by simpa using hm
    rw [this] at hsys
    simp at hsys
end
end BJ

/-! hex digits, what a text of them reads to; data of ints -/
namespace BJ
open PySem PySem.Spec PyProof.Rows L2 Evl

/-! ### data of ints -/
theorem canLay_ints : ∀ ns : List Int, PyData.canLayAll0 (ns.map .int) = true
  | [] => rfl
  | n :: ns => by
    rw [List.map_cons]
    unfold PyData.canLayAll0
    rw [canLay_ints ns]
    rfl
theorem depth_ints : ∀ ns : List Int, PyData.depthAll (ns.map .int) = 0
  | [] => rfl
  | n :: ns => by
    rw [List.map_cons]
    unfold PyData.depthAll
    rw [depth_ints ns]
    rfl
theorem show_ints : ∀ ns : List Int, (∀ n ∈ ns, n.natAbs < 10 ^ 12) → PyData.showableAll (ns.map .int) = true
  | [], _ => rfl
  | n :: ns, h => by
    rw [List.map_cons]
    unfold PyData.showableAll
    rw [show_ints ns fun m hm => h m (List.mem_cons_of_mem _ hm), Bool.and_true]
    unfold PyData.showable
    have h1 := h n List.mem_cons_self
    refine decide_eq_true ?_
    by_cases h0 : n.natAbs = 0
    · rw [h0]; decide
    · have := (Nat.log2_lt h0 (k := 1920)).mpr (Nat.lt_of_lt_of_le h1 (by decide))
      exact this
theorem short_ints : ∀ ns : List Int, (∀ n ∈ ns, n.natAbs < 10 ^ 12) → PyData.leavesShortAll 13 (ns.map .int) = true
  | [], _ => rfl
  | n :: ns, h => by
    rw [List.map_cons]
    unfold PyData.leavesShortAll
    rw [short_ints ns fun m hm => h m (List.mem_cons_of_mem _ hm), Bool.and_true]
    unfold PyData.leavesShort
    exact decide_eq_true (PyData.shown_int_le (h n List.mem_cons_self))
theorem bulk_ints : ∀ ns : List Int, PyData.bulkAll (ns.map .int) = ns.length
  | [] => rfl
  | n :: ns => by
    rw [List.map_cons]
    unfold PyData.bulkAll
    rw [bulk_ints ns, List.length_cons]
    unfold PyData.bulk
    omega
theorem eqv_ints : ∀ ns ms : List Int, PyData.eqvAll (ns.map .int) (ms.map .int) = decide (ns = ms)
  | [], [] => by simp [PyData.eqvAll]
  | [], m :: ms => by simp [PyData.eqvAll]
  | n :: ns, [] => by simp [PyData.eqvAll]
  | n :: ns, m :: ms => by
    rw [List.map_cons, List.map_cons]
    unfold PyData.eqvAll
    rw [eqv_ints ns ms]
    unfold PyData.eqv
    by_cases h1 : n = m <;> by_cases h2 : ns = ms <;> simp [h1, h2]
/-- a tuple, a list of ints -/
def dT (ns : List Int) : PyData := .tuple (ns.map .int)
def dL (ns : List Int) : PyData := .list (ns.map .int)
theorem dT_shaped (ns : List Int) : SeqAt.shaped (dT ns) = true := by
  unfold SeqAt.shaped dT
  rw [Bool.and_eq_true]
  refine ⟨?_, decide_eq_true ?_⟩
  · unfold PyData.canLay0; exact canLay_ints ns
  · unfold PyData.depth; rw [depth_ints]; omega
theorem dL_shaped (ns : List Int) : SeqAt.shaped (dL ns) = true := by
  unfold SeqAt.shaped dL
  rw [Bool.and_eq_true]
  refine ⟨?_, decide_eq_true ?_⟩
  · unfold PyData.canLay0; exact canLay_ints ns
  · unfold PyData.depth; rw [depth_ints]; omega
/-- what repr asks of data -/
structure Shows (d : PyData) : Prop where
  s : d.showable = true
  n : d = .dict [] ∨ d.hasDict = false
  p : d.depth ≤ 40
  z : d.shown.length ≤ sizeLine
theorem hasDict_ints : ∀ ns : List Int, PyData.hasDictAll (ns.map .int) = false
  | [] => rfl
  | n :: ns => by
    rw [List.map_cons]
    unfold PyData.hasDictAll
    rw [hasDict_ints ns]
    rfl
theorem dT_shows {ns : List Int} (h : ∀ n ∈ ns, n.natAbs < 10 ^ 12) (hl : ns.length ≤ 1000000) : Shows (dT ns) where
  s := by unfold dT PyData.showable; exact show_ints ns h
  n := .inr (by unfold dT PyData.hasDict; exact hasDict_ints ns)
  p := by unfold dT PyData.depth; rw [depth_ints]; omega
  z := PyData.shown_fits_bulk (d := dT ns) (B := 13) (by decide) (by decide) (by unfold dT PyData.leavesShort; exact short_ints ns h) (by unfold dT PyData.bulk; rw [bulk_ints]; omega)
theorem dL_shows {ns : List Int} (h : ∀ n ∈ ns, n.natAbs < 10 ^ 12) (hl : ns.length ≤ 1000000) : Shows (dL ns) where
  s := by unfold dL PyData.showable; exact show_ints ns h
  n := .inr (by unfold dL PyData.hasDict; exact hasDict_ints ns)
  p := by unfold dL PyData.depth; rw [depth_ints]; omega
  z := PyData.shown_fits_bulk (d := dL ns) (B := 13) (by decide) (by decide) (by unfold dL PyData.leavesShort; exact short_ints ns h) (by unfold dL PyData.bulk; rw [bulk_ints]; omega)
theorem dp_T {K : PySem.W.Frag} {H : Hp} {p : Addr} {ns : List Int} (h : SqT K H p (ns.map V.int)) : Dp K H (.ref p) (dT ns) := .tup h (dpAll_int ns)
theorem dp_L {K : PySem.W.Frag} {H : Hp} {p : Addr} {ns : List Int} (h : SqL K H p (ns.map V.int)) : Dp K H (.ref p) (dL ns) := .lst h (dpAll_int ns)
theorem eqv_T (ns ms : List Int) : PyData.eqv (dT ns) (dT ms) = decide (ns = ms) := by unfold dT PyData.eqv; exact eqv_ints ns ms
theorem eqv_L (ns ms : List Int) : PyData.eqv (dL ns) (dL ms) = decide (ns = ms) := by unfold dL PyData.eqv; exact eqv_ints ns ms

/-! ### hex -/
def DIG : Str := "0123456789abcdef"
def hexd (i : Nat) : Nat := if i < 10 then 48 + i else 87 + i
def hval (c : Nat) : Nat := if c < 58 then c - 48 else c - 87
def hok (c : Nat) : Bool := decide (c ∈ DIG.cps.toList)
theorem dig_eq : DIG.cps.toList = (List.range 16).map hexd := by decide +kernel
theorem dig_len : DIG.length = 16 := by decide +kernel
theorem hval_hexd {i : Nat} (h : i < 16) : hval (hexd i) = i := by unfold hval hexd; split <;> split <;> omega
theorem hok_hexd {i : Nat} (h : i < 16) : hok (hexd i) = true := by
  unfold hok
  rw [dig_eq]
  exact decide_eq_true (List.mem_map.mpr ⟨i, List.mem_range.mpr h, rfl⟩)
theorem hok_ex {c : Nat} (h : hok c = true) : ∃ i, i < 16 ∧ c = hexd i := by
  unfold hok at h
  rw [dig_eq] at h
  obtain ⟨i, hi, e⟩ := List.mem_map.mp (of_decide_eq_true h)
  exact ⟨i, List.mem_range.mp hi, e.symm⟩
theorem hval_lt {c : Nat} (h : hok c = true) : hval c < 16 := by
  obtain ⟨i, hi, rfl⟩ := hok_ex h
  rw [hval_hexd hi]
  exact hi
theorem dig_occ : ∀ i ∈ List.range 16, Builtin.Str.occurrences DIG ⟨#[hexd i]⟩ 0 DIG.length 1 = [i] := by decide +kernel
theorem hok_occ {c : Nat} (h : hok c = true) : Builtin.Str.occurrences DIG ⟨#[c]⟩ 0 DIG.length 1 = [hval c] := by
  obtain ⟨i, hi, rfl⟩ := hok_ex h
  rw [hval_hexd hi]
  exact dig_occ i (List.mem_range.mpr hi)
theorem dig_at {i : Nat} (h : i < 16) : atI DIG.cps.toList (i : Int) = some (hexd i) := by
  refine atI_nat ?_
  rw [dig_eq, List.getElem?_map, List.getElem?_range h]
  rfl
def pairs : List Nat → List Int
  | a :: b :: r => (16 * (hval a : Int) + (hval b : Int)) :: pairs r
  | _ => []
/-- what a text reads to: octets, or where it is wrong -/
def due (l : List Nat) : List Int ⊕ Int :=
  match l.findIdx? fun c => !hok c with
  | some i => .inr (i : Int)
  | none => if l.length % 2 = 1 then .inr (l.length : Int) else if 100000 < l.length then .inr 100000 else .inl (pairs l)
def dueD (l : List Nat) : PyData := match due l with | .inl ns => dT ns | .inr i => dL [i]
theorem pairs_len : ∀ l : List Nat, (pairs l).length = l.length / 2
  | [] => rfl
  | [_] => by simp [pairs]
  | a :: b :: r => by
    unfold pairs
    rw [List.length_cons, pairs_len r, List.length_cons, List.length_cons]
    omega
theorem pairs_lt : ∀ l : List Nat, (∀ c ∈ l, hok c = true) → ∀ n ∈ pairs l, 0 ≤ n ∧ n ≤ 255
  | [], _, n, h => by cases h
  | [_], _, n, h => by cases h
  | a :: b :: r, hl, n, h => by
    unfold pairs at h
    rcases List.mem_cons.mp h with rfl | h
    · have h1 := hval_lt (hl a List.mem_cons_self)
      have h2 := hval_lt (hl b (List.mem_cons_of_mem _ List.mem_cons_self))
      omega
    · exact pairs_lt r (fun c hc => hl c (List.mem_cons_of_mem _ (List.mem_cons_of_mem _ hc))) n h
theorem pairs_at : ∀ (l : List Nat) (n : Nat), l.length = 2 * n → (List.range n).map (fun i => 16 * (hval (l.getD (2 * i) 0) : Int) + (hval (l.getD (2 * i + 1) 0) : Int)) = pairs l
  | [], n, h => by
    have : n = 0 := by simp at h; omega
    subst this
    rfl
  | [_], n, h => by simp at h; omega
  | a :: b :: r, n, h => by
    obtain ⟨m, rfl⟩ : ∃ m, n = m + 1 := ⟨n - 1, by simp at h; omega⟩
    have h2 : r.length = 2 * m := by simp at h; omega
    unfold pairs
    rw [← pairs_at r m h2, List.range_succ_eq_map, List.map_cons, List.map_map]
    congr 1
theorem all_ok {l : List Nat} (h : l.findIdx? (fun c => !hok c) = none) : ∀ c ∈ l, hok c = true := by
  rw [List.findIdx?_eq_none_iff] at h
  intro c hc
  have := h c hc
  simpa using this
theorem due_inl {l : List Nat} {ns : List Int} (h : due l = .inl ns) : l.findIdx? (fun c => !hok c) = none ∧ l.length % 2 = 0 ∧ l.length ≤ 100000 ∧ ns = pairs l := by
  unfold due at h
  split at h
  · cases h
  · rename_i e
    split at h
    · cases h
    · split at h
      · cases h
      · cases h
        exact ⟨e, by omega, by omega, rfl⟩
theorem due_shows {l : List Nat} (hl : l.length ≤ 1000000) : Shows (dueD l) := by
  unfold dueD
  cases h : due l with
  | inl ns =>
    obtain ⟨h1, h2, h3, rfl⟩ := due_inl h
    exact dT_shows (fun n hn => by have := pairs_lt l (all_ok h1) n hn; omega) (by rw [pairs_len]; omega)
  | inr i =>
    refine dL_shows (fun n hn => ?_) (by simp)
    rw [List.mem_singleton] at hn
    subst hn
    unfold due at h
    split at h
    · rename_i j hj
      cases h
      have := (List.findIdx?_eq_some_iff_findIdx_eq.mp hj).1
      omega
    · split at h
      · cases h; omega
      · split at h
        · cases h; omega
        · cases h
/-! ### the text of octets -/
def hexL (ns : List Int) : List Nat := ns.flatMap fun i => [hexd (i / 16).toNat, hexd (i % 16).toNat]
def pairS (i : Int) : Str := ⟨#[hexd (i / 16).toNat, hexd (i % 16).toNat]⟩
def hexS (ns : List Int) : Str := Txt.join "" (ns.map pairS)
theorem joinL_nil : ∀ ps : List (List Nat), TL.joinL [] ps = ps.flatten
  | [] => rfl
  | [p] => by simp [TL.joinL]
  | p :: q :: r => by
    unfold TL.joinL
    rw [joinL_nil (q :: r)]
    simp
theorem hexS_tl (ns : List Int) : (hexS ns).cps.toList = hexL ns := by
  unfold hexS
  rw [TL.join_eq]
  have := TL.tl_join "" (ns.map pairS)
  rw [show TL.tl "" = [] from rfl, joinL_nil] at this
  show TL.tl (Str.join "" (ns.map pairS)) = _
  rw [this, List.map_map]
  unfold hexL
  rw [List.flatMap_def]
  rfl
theorem hexL_len : ∀ ns : List Int, (hexL ns).length = 2 * ns.length
  | [] => rfl
  | n :: ns => by
    have := hexL_len ns
    unfold hexL at this ⊢
    rw [List.flatMap_cons, List.length_append, this, List.length_cons]
    simp only [List.length_cons, List.length_nil]
    omega
theorem hexL_ok : ∀ ns : List Int, (∀ n ∈ ns, 0 ≤ n ∧ n ≤ 255) → ∀ c ∈ hexL ns, hok c = true := by
  intro ns h c hc
  obtain ⟨n, hn, hc⟩ := List.mem_flatMap.mp hc
  have := h n hn
  rcases List.mem_cons.mp hc with rfl | hc
  · exact hok_hexd (by omega)
  · rw [List.mem_singleton] at hc
    subst hc
    exact hok_hexd (by omega)
theorem hexL_pairs : ∀ ns : List Int, (∀ n ∈ ns, 0 ≤ n ∧ n ≤ 255) → pairs (hexL ns) = ns
  | [], _ => rfl
  | n :: ns, h => by
    have h0 := h n List.mem_cons_self
    have ih := hexL_pairs ns fun m hm => h m (List.mem_cons_of_mem _ hm)
    unfold hexL at ih ⊢
    rw [List.flatMap_cons]
    show (16 * (hval (hexd (n / 16).toNat) : Int) + (hval (hexd (n % 16).toNat) : Int)) :: pairs (ns.flatMap _) = _
    rw [ih, hval_hexd (by omega), hval_hexd (by omega)]
    congr 1
    omega
theorem due_hexL {ns : List Int} (h : ∀ n ∈ ns, 0 ≤ n ∧ n ≤ 255) (hl : ns.length ≤ 50000) : due (hexL ns) = .inl ns := by
  unfold due
  have e : (hexL ns).findIdx? (fun c => !hok c) = none := by
    rw [List.findIdx?_eq_none_iff]
    intro c hc
    rw [hexL_ok ns h c hc]
    rfl
  rw [e]
  have hn := hexL_len ns
  simp only
  rw [if_neg (by omega), if_neg (by omega), hexL_pairs ns h]
theorem strLen_tl (z : Str) : z.length = z.cps.toList.length := by simp [Str.length]
theorem hexS_len (ns : List Int) : (hexS ns).length = 2 * ns.length := by rw [strLen_tl, hexS_tl, hexL_len]
theorem hexS_sum (ns : List Int) : ((ns.map pairS).map (·.length)).sum = 2 * ns.length := by
  induction ns with
  | nil => rfl
  | cons n ns ih =>
    rw [List.map_cons, List.map_cons, List.sum_cons, ih, List.length_cons]
    show 2 + _ = _
    omega

/-! ### the wrong places -/
def wrongL (l : List Nat) (k : Nat) : List Int := ((l.zipIdx k).filter fun p => !hok p.1).map fun p => ((p.2 : Nat) : Int)
theorem wrongL_head : ∀ (l : List Nat) (k : Nat), (wrongL l k).head? = (l.findIdx? fun c => !hok c).map fun i => ((i + k : Nat) : Int)
  | [], k => rfl
  | c :: l, k => by
    have ih := wrongL_head l (k + 1)
    unfold wrongL at ih ⊢
    rw [List.zipIdx_cons, List.findIdx?_cons]
    cases h : hok c with
    | false =>
      rw [List.filter_cons_of_pos (by simp [h])]
      simp
    | true =>
      rw [List.filter_cons_of_neg (by simp [h]), ih]
      simp only [Bool.not_true]
      rw [if_neg (by simp), Option.map_map]
      congr 1
      funext i
      simp only [Function.comp]
      omega
theorem wrong_none {l : List Nat} (h : l.findIdx? (fun c => !hok c) = none) : wrongL l 0 = [] := by
  have := wrongL_head l 0
  rw [h] at this
  simpa using this
theorem wrong_some {l : List Nat} {i : Nat} (h : l.findIdx? (fun c => !hok c) = some i) : ∃ r, wrongL l 0 = (i : Int) :: r := by
  have := wrongL_head l 0
  rw [h] at this
  cases e : wrongL l 0 with
  | nil => rw [e] at this; simp at this
  | cons a r =>
    rw [e] at this
    simp only [List.head?_cons, Option.map_some, Option.some.injEq, Nat.add_zero] at this
    exact ⟨r, by rw [this]⟩

/-! ### the evens and the odds -/
def evens : List V → List V
  | a :: _ :: r => a :: evens r
  | l => l
def odds : List V → List V
  | _ :: b :: r => b :: odds r
  | _ => []
end BJ

/-! comprehensions that evaluate; calls on values -/
namespace BJ
open PySem PySem.Spec PyProof.Rows L2 Evl
open PySem.W (Frag kitOne kitAny)
section
variable {K : Frag} {σ : L2.St} {H : Hp} {z : V} {tl te : TE} {tt : TT} {wi : TI} {vs : List Nat} {xs : List V}
/-- what is walked over gives xs -/
def EvI (wi : TI) (σ : L2.St) (H : Hp) (xs : List V) : Prop := ∀ H1, Ex H H1 → ∀ R : It → Hp → Prop, (∀ H2 J G, Ex H1 H2 → Walk J xs.length G (YAt xs) → (∀ H3, Ex H2 H3 → G H3) → R J H2) → wi σ H1 R
/-- .. gives pairs -/
def EvP (wi : TI) (σ : L2.St) (H : Hp) (ps : List (V × V)) : Prop := ∀ H1, Ex H H1 → ∀ R : It → Hp → Prop,
  (∀ H2 J G, Ex H1 H2 → Walk J ps.length G (fun i H v H' => ∃ T p, v = .ref T ∧ H T = none ∧ H' = upd H T (.tup [p.1, p.2]) ∧ ps[i]? = some p) → (∀ H3, Ex H2 H3 → G H3) → R J H2) → wi σ H1 R
theorem el_at {j : Nat} (hi : EvI wi σ H xs) (f : V → Bool) (F : V → V) (hn : xs.length ≤ 1000000) (hw : ∀ x, wipe ((wipe σ vs).set j (some x)) vs = wipe σ vs)
    (ht : ∀ x ∈ xs, ∀ H1, Ex H H1 → EvT tt ((wipe σ vs).set j (some x)) H1 (f x)) (he : ∀ x ∈ xs, ∀ H1, Ex H H1 → f x = true → Ev te ((wipe σ vs).set j (some x)) H1 (F x)) :
    EvL (tLc wi (gName j) tt te vs) σ H ((xs.filter f).map F) := fun H1 e Q q => hi H1 e _ fun H2 J G e2 w hG =>
  lc_at w f F hn hG hw (fun x hx => ht x hx H2 (e.trans e2)) (fun x hx hf => he x hx H2 (e.trans e2) hf) fun D H' hD e3 hl => q D H' (fresh_back e2 hD) (e2.trans e3) hl
/-- .. without an if -/
theorem el_all {j : Nat} (hi : EvI wi σ H xs) (F : V → V) (hn : xs.length ≤ 1000000) (hw : ∀ x, wipe ((wipe σ vs).set j (some x)) vs = wipe σ vs)
    (he : ∀ x ∈ xs, ∀ H1, Ex H H1 → Ev te ((wipe σ vs).set j (some x)) H1 (F x)) : EvL (tLc wi (gName j) tYes te vs) σ H (xs.map F) := by
  have h := el_at (tt := tYes) hi (fun _ => true) F hn hw (fun _ _ _ _ => et_yes) (fun x hx H1 e _ => he x hx H1 e)
  rw [List.filter_eq_self.mpr (fun _ _ => rfl)] at h
  exact h
theorem el_pr {j l : Nat} {ps : List (V × V)} (hi : EvP wi σ H ps) (f : V × V → Bool) (F : V × V → V) (hn : ps.length ≤ 1000000) (hw : ∀ x y, wipe (((wipe σ vs).set j (some x)).set l (some y)) vs = wipe σ vs)
    (ht : ∀ p ∈ ps, ∀ H1, Ex H H1 → EvT tt (((wipe σ vs).set j (some p.1)).set l (some p.2)) H1 (f p)) (he : ∀ p ∈ ps, ∀ H1, Ex H H1 → f p = true → Ev te (((wipe σ vs).set j (some p.1)).set l (some p.2)) H1 (F p)) :
    EvL (tLc wi (gTup K 2 (gCons (gName j) (gCons (gName l) gNil))) tt te vs) σ H ((ps.filter f).map F) := fun H1 e Q q => hi H1 e _ fun H2 J G e2 w hG =>
  lc_pr w f F hn hG hw (fun x hx => ht x hx H2 (e.trans e2)) (fun x hx hf => he x hx H2 (e.trans e2) hf) fun D H' hD e3 hl => q D H' (fresh_back e2 hD) (e2.trans e3) hl
theorem ei_tup {p : Addr} (h : Ev tl σ H (.ref p)) (hx : SqT K H p xs) : EvI (iTup K tl) σ H xs := fun H1 e R r => h H1 e _ fun H2 e2 =>
  ⟨p, rfl, ⟨xs, ex_t (e.trans e2) hx⟩, r H2 _ (fun H => SqT K H p xs) e2 walk_tup fun H3 e3 => ex_t ((e.trans e2).trans e3) hx⟩
theorem ei_tupU (h : EvU tl σ H xs) : EvI (iTup K tl) σ H xs := fun H1 e R r => h H1 e _ fun p H2 hp e2 hx =>
  ⟨p, rfl, ⟨xs, st_of hx⟩, r H2 _ (fun H => SqT K H p xs) e2 walk_tup fun H3 e3 => ex_t e3 (st_of hx)⟩
theorem ei_list {p : Addr} (h : Ev tl σ H (.ref p)) (hx : SqL K H p xs) : EvI (iList K tl) σ H xs := fun H1 e R r => h H1 e _ fun H2 e2 =>
  ⟨p, rfl, ⟨xs, ex_l (e.trans e2) hx⟩, r H2 _ (fun H => SqL K H p xs) e2 walk_list fun H3 e3 => ex_l ((e.trans e2).trans e3) hx⟩
theorem ei_str {s : Str} (h : Ev tl σ H (.str s)) : EvI (iStr tl) σ H (s.cps.toList.map fun c => V.str ⟨#[c]⟩) := fun H1 e R r => h H1 e _ fun H2 e2 =>
  ⟨s, rfl, r H2 _ _ e2 walk_strA fun _ _ => trivial⟩
theorem ei_rng3 {ta : TA} {i j c : Int} {n : Nat} (h : EvA ta σ H [.int i, .int j, .int c]) (hr : RgC i j c n) : EvI (iRng3 ta) σ H ((List.range n).map fun k => V.int (i + (k : Nat) * c)) := fun H1 e R r => h H1 e _ fun H2 e2 =>
  ⟨i, j, c, n, rfl, hr, r H2 _ _ e2 walk_rangeCA fun _ _ => trivial⟩
theorem ep_enumS {ta : TA} {s : Str} (h : EvA ta σ H [.str s]) : EvP (iEnumS ta) σ H (enumP s) := fun H1 e R r => h H1 e _ fun H2 e2 =>
  ⟨s, rfl, r H2 _ _ e2 walk_enumSA fun _ _ => trivial⟩
theorem ev_allL {bs : List Bool} (h : EvL tl σ H (bs.map V.bl)) : Ev (tCB (rAll K) (tCons tl tNil)) σ H (.bl (bs.all id)) := fun H1 e Q q => h H1 e _ fun p H2 _ e2 hp => ⟨p, bs, rfl, sq_of hp, q H2 e2⟩
theorem rc_is {x : V} {t n : String} {b : Bool} (h : TyX K H x (.type t)) (k : kitOne K (.type t) (.type n) = some b) : RC (rIsG K) [x, .ty n] H (.bl b) :=
  fun H1 e Q q => ⟨x, _, .type t, .type n, b, rfl, .ty n, .ty (tyx_ex e h), k, q H1 (Ex.refl _)⟩
/-- f(e) where e is a new tuple, a new list -/
theorem ev_caU {sp : Sp} {W : WX} (h : EvU te σ H xs) (hs : ∀ p H1, H1 p = some (.tup xs) → SpE sp [.ref p] H1 z) : Ev (tCa sp W (tCons te tNil)) σ H z := fun H1 e Q q =>
  h H1 e _ fun p H2 _ e2 hp => hs p H2 hp H2 (Ex.refl _) Q _ fun H3 e3 => q H3 (e2.trans e3)
/-- e of a fresh list: the list goes into tuple(..) -/
theorem eu_tupL (h : EvL te σ H xs) : EvU (tCB (fun xs H Q => ∃ p ys, xs = [.ref p] ∧ ((SqL K H p ys ∧ ∀ l, H l = none → Q (.ref l) (upd H l (.tup ys))) ∨ (SqT K H p ys ∧ Q (.ref p) H))) (tCons te tNil)) σ H xs := fun H1 e Q q =>
  h H1 e _ fun p H2 _ e2 hp => ⟨p, xs, rfl, .inl ⟨sq_of hp, fun l hl => q l _ (fresh_back e2 hl) (e2.trans (Ex.new hl)) upd_same⟩⟩
/-- a.join(e) of a new list of texts -/
theorem ev_joinL {a : Str} {ys : List Str} {to : TE} (ho : Ev to σ H (.str a)) (h : EvL te σ H (ys.map V.str)) (hz : (ys.map (·.length)).sum + ys.length * a.length ≤ 16777216) :
    Ev (tM1 (fun x xs H Q => ∃ a p, ∃ ys : List Str, x = .str a ∧ xs = [.ref p] ∧ (SqL K H p (ys.map V.str) ∨ SqT K H p (ys.map V.str)) ∧ (ys.map (·.length)).sum + ys.length * a.length ≤ 16777216 ∧ Q (.str (Txt.join a ys)) H) to te) σ H (.str (Txt.join a ys)) := fun H1 e Q q =>
  ho H1 e _ fun H2 e2 => ⟨⟨a, rfl⟩, h H2 (e.trans e2) _ fun p H3 _ e3 hp => ⟨a, p, ys, rfl, rfl, .inl (sq_of hp), hz, q H3 (e2.trans e3)⟩⟩
end
end BJ

/-! slices with a step that evaluate, zip of new lists; the evens and odds -/
namespace BJ
open PySem PySem.Spec PyProof.Rows L2 Evl
open PySem.W (Frag kitOne kitAny)
section
variable {K : Frag} {σ : L2.St} {H : Hp} {z : V} {tl te : TE} {tt : TT} {wi : TI} {vs : List Nat} {xs ys : List V}
theorem pickV_len (xs : List V) (lo hi st : Option Int) (h0 : st ≠ some 0) : (pickV xs lo hi st).length ≤ xs.length := by
  have h := slicePick_size_le (items := (List.replicate xs.length Value.none).toArray) lo hi st
  have e : ∀ (l : List Nat), (l.filterMap (xs[·]?)).length = (l.filterMap ((List.replicate xs.length Value.none)[·]?)).length := by
    intro l
    induction l with
    | nil => rfl
    | cons i l ih =>
      by_cases hi : i < xs.length
      · rw [List.filterMap_cons_some (List.getElem?_eq_getElem hi), List.filterMap_cons_some (List.getElem?_eq_getElem (by simpa using hi)), List.length_cons, List.length_cons, ih]
      · rw [List.filterMap_cons_none (List.getElem?_eq_none (by omega)), List.filterMap_cons_none (List.getElem?_eq_none (by simp; omega)), ih]
  unfold pickV
  rw [e]
  have h2 : ((sliceRange (sliceBounds lo hi st (List.replicate xs.length Value.none).toArray.size).1 (sliceBounds lo hi st (List.replicate xs.length Value.none).toArray.size).2.1 (sliceBounds lo hi st (List.replicate xs.length Value.none).toArray.size).2.2).filterMap ((List.replicate xs.length Value.none).toArray[·]?)).length ≤ (List.replicate xs.length Value.none).toArray.size := h
  have e2 : (List.replicate xs.length Value.none).toArray.size = xs.length := by simp
  rw [e2] at h2
  refine Nat.le_trans (Nat.le_of_eq ?_) h2
  congr 1
  apply congrArg (fun f => List.filterMap f _)
  funext x
  exact List.getElem?_toArray.symm
theorem el_sl3 {p : Addr} {tl th ts : TO} {lo hi st : Option Int} (h : Ev te σ H (.ref p)) (h1 : EvO tl σ H lo) (h2 : EvO th σ H hi) (h3 : EvO ts σ H st) (hs : SqL K H p xs) (h0 : st ≠ some 0) (hz : xs.length ≤ 1000000) : EvL (tSl3 K te tl th ts) σ H (pickV xs lo hi st) := fun H1 e Q q =>
  h H1 e _ fun H2 e2 => h1 H2 (e.trans e2) _ fun H3 e3 => h2 H3 ((e.trans e2).trans e3) _ fun H4 e4 => h3 H4 (((e.trans e2).trans e3).trans e4) _ fun H5 e5 =>
    ⟨p, xs, rfl, ex_l ((((e.trans e2).trans e3).trans e4).trans e5) hs, h0, (by have := pickV_len xs lo hi st h0; rw [sizeLine_eq]; omega), fun D hD =>
      q D _ (fresh_back (((e2.trans e3).trans e4).trans e5) hD) ((((e2.trans e3).trans e4).trans e5).trans (Ex.new hD)) upd_same⟩
theorem ep_zip {t1 t2 : TE} (h1 : EvL t1 σ H xs) (h2 : EvL t2 σ H ys) : EvP (iZip K (tCons t1 (tCons t2 tNil))) σ H (xs.zip ys) := fun H1 e R r =>
  h1 H1 e _ fun p H2 hp e2 hx => h2 H2 (e.trans e2) _ fun q H3 hq e3 hy =>
    ⟨p, q, xs, ys, rfl, sq_of (e3 p _ hx), sq_of hy, r H3 _ _ (e2.trans e3) walk_zipA fun H4 e4 => ⟨sq_of (e4 p _ (e3 p _ hx)), sq_of (e4 q _ hy)⟩⟩
end
theorem pick_of {xs : List V} (m a : Nat) (h : ∀ k, k < m → a + 2 * k < xs.length) : ((List.range m).map fun k : Nat => a + 2 * k).filterMap (xs[·]?) = (List.range m).map fun k => xs.getD (a + 2 * k) .non := by
  rw [List.filterMap_map]
  have : ∀ l : List Nat, (∀ k ∈ l, k < m) → l.filterMap ((xs[·]?) ∘ fun k => a + 2 * k) = l.map fun k => xs.getD (a + 2 * k) .non := by
    intro l
    induction l with
    | nil => intro _; rfl
    | cons k l ih =>
      intro hk
      have := h k (hk k List.mem_cons_self)
      rw [List.filterMap_cons_some (b := xs[a + 2 * k]) (show ((fun x => xs[x]?) ∘ fun k => a + 2 * k) k = some xs[a + 2 * k] from List.getElem?_eq_getElem this), List.map_cons, ih fun j hj => hk j (List.mem_cons_of_mem _ hj)]
      congr 1
      rw [List.getD, List.getElem?_eq_getElem this]
      rfl
  exact this _ fun k hk => List.mem_range.mp hk
theorem pick_evens {xs : List V} {m : Nat} (h : xs.length = 2 * m) : pickV xs none none (some 2) = (List.range m).map fun k => xs.getD (2 * k) .non := by
  have e : sliceRange (sliceBounds none none (some 2) xs.length).1 (sliceBounds none none (some 2) xs.length).2.1 (sliceBounds none none (some 2) xs.length).2.2 = (List.range m).map fun k : Nat => 0 + 2 * k := by
    show sliceRange 0 (xs.length : Int) 2 = _
    show List.map _ (List.range (Int.toNat _)) = _
    have hc : (if (2 : Int) > 0 then (if (0 : Int) < (xs.length : Int) then ((xs.length : Int) - 0 + 2 - 1) / 2 else 0) else (if (0 : Int) > (xs.length : Int) then (0 - (xs.length : Int) - 2 - 1) / (-2) else 0)).toNat = m := by
      rw [if_pos (by decide)]
      split <;> omega
    refine (congrArg (fun n => List.map _ (List.range n)) hc).trans ?_
    apply List.map_congr_left
    intro k _
    omega
  unfold pickV
  rw [e, pick_of m 0 (fun k hk => by omega)]
  simp only [Nat.zero_add]
theorem pick_odds {xs : List V} {m : Nat} (h : xs.length = 2 * m) : pickV xs (some 1) none (some 2) = (List.range m).map fun k => xs.getD (1 + 2 * k) .non := by
  have e : sliceRange (sliceBounds (some 1) none (some 2) xs.length).1 (sliceBounds (some 1) none (some 2) xs.length).2.1 (sliceBounds (some 1) none (some 2) xs.length).2.2 = (List.range m).map fun k : Nat => 1 + 2 * k := by
    show sliceRange (max 0 (min 1 (xs.length : Int))) (xs.length : Int) 2 = _
    show List.map _ (List.range (Int.toNat _)) = _
    have hc : (if (2 : Int) > 0 then (if (max 0 (min 1 (xs.length : Int))) < (xs.length : Int) then ((xs.length : Int) - (max 0 (min 1 (xs.length : Int))) + 2 - 1) / 2 else 0) else (if (max 0 (min 1 (xs.length : Int))) > (xs.length : Int) then ((max 0 (min 1 (xs.length : Int))) - (xs.length : Int) - 2 - 1) / (-2) else 0)).toNat = m := by
      rw [if_pos (by decide)]
      split <;> omega
    refine (congrArg (fun n => List.map _ (List.range n)) hc).trans ?_
    apply List.map_congr_left
    intro k hk
    have := List.mem_range.mp hk
    omega
  unfold pickV
  rw [e, pick_of m 1 (fun k hk => by omega)]
/-- what sign, what number a value is -/
def sgn : V → Nat | .str z => z.cps.getD 0 0 | _ => 0
def num : V → Int | .int i => i | _ => 0
theorem zip_pairs (l : List Nat) (m : Nat) (h : l.length = 2 * m) :
    (((pickV ((l.map fun c => (hval c : Int)).map V.int) none none (some 2)).zip (pickV ((l.map fun c => (hval c : Int)).map V.int) (some 1) none (some 2))).map fun p => V.int (16 * num p.1 + num p.2)) = (pairs l).map V.int := by
  have hl : ((l.map fun c => (hval c : Int)).map V.int).length = 2 * m := by rw [List.length_map, List.length_map]; exact h
  rw [pick_evens hl, pick_odds hl, List.zip_map', List.map_map, ← pairs_at l m h]
  refine Eq.trans ?_ List.map_map.symm
  apply List.map_congr_left
  intro k hk
  have hk := List.mem_range.mp hk
  have g : ∀ i, i < l.length → ((l.map fun c => (hval c : Int)).map V.int).getD i .non = .int (hval (l.getD i 0)) := fun i hi => by
    rw [List.getD, List.getElem?_map, List.getElem?_map, List.getElem?_eq_getElem hi, List.getD, List.getElem?_eq_getElem hi]
    rfl
  simp only [Function.comp]
  rw [g _ (by omega), g _ (by omega), Nat.add_comm 1]
  rfl
theorem enum_wrong (z : Str) : ((enumP z).filter fun p => !hok (sgn p.2)).map (fun p => p.1) = (wrongL z.cps.toList 0).map V.int := by
  unfold enumP wrongL
  rw [List.filter_map, List.map_map, List.map_map]
  rfl
theorem signs_num (l : List Nat) : ((l.map fun c => V.str ⟨#[c]⟩).map fun v => V.int (hval (sgn v))) = (l.map fun c => (hval c : Int)).map V.int := by
  rw [List.map_map, List.map_map]
  rfl
end BJ

/-! defs called with keywords; loops that evaluate -/
namespace BJ
open PySem PySem.Spec PyProof.Rows L2 Evl
open PySem.W (Frag kitOne kitAny)
/-- positional values, then the keywords' (n and m of them) -/
def gKw (n m : Nat) {α : Type} (us ws : List α) : List α := if us.length = n ∧ ws.length = m then us ++ ws else []
section
variable {P : Program} {w : World} {K : Frag} {mg : Str → Option Value} {base : Heap}
theorem kb_of {x qual : Str} {st : Stmt} {f : Addr} {fd : FuncData} {ps ks : List Str} {n m : Nat} (F : Fun K x qual st f fd) (hne : 0 < ps.length)
    (h : ∀ (kV doc pm : Value) (an : Option Addr) (cdv ct : Value) (us ws : List Value), us.length = n → ws.length = m → bindArgs (PySem.W.fnOf x qual (defArgs st) (defBody st) (defScope st) .none kV doc pm an cdv ct) ⟨us, ks.zip ws⟩ = pure (ps.zip (us ++ ws))) :
    KBinds K fd ps ks (gKw n m) (gKw n m) := by
  obtain ⟨oc, od, kV, doc, pm, an, cdv, ct, osl, rfl, lk, hcd⟩ := F.ex
  refine ⟨fun s us ws _ hl => ?_, fun r rz => ?_⟩
  · by_cases hh : us.length = n ∧ ws.length = m
    · have e : gKw n m us ws = us ++ ws := if_pos hh
      rw [e]
      exact .of_eq (h kV doc pm an cdv ct us ws hh.1 hh.2)
    · have e : gKw n m us ws = [] := if_neg hh
      rw [e] at hl
      simp at hl
      omega
  · unfold gKw
    rw [r.length, rz.length]
    split
    · exact r.append rz
    · exact .nil
theorem fnP {x qual : Str} {st : Stmt} {f : Addr} {k : Nat} {ps : List Str} {sp : Sp} (h : ∃ fd, FnG P w K mg base k f fd ps sp ∧ Binds K fd ps [] ∧ Fun K x qual st f fd) : CallP P w K mg base k (.ref f) sp := by
  obtain ⟨fd, F, hb, _⟩ := h
  have q := F.callP (dvs := []) hb .nil
  rintro A outer s H us ws vs zs Q E room hg e0 rel relz ⟨hz, prom⟩
  exact q A outer s H us ws vs zs Q E room hg e0 rel relz ⟨hz, show sp (vs ++ []) H Q E by rw [List.append_nil]; exact prom⟩
theorem fnK {x qual : Str} {st : Stmt} {f : Addr} {k : Nat} {ps ks : List Str} {sp : Sp} {n m : Nat} (h : ∃ fd, FnG P w K mg base k f fd ps sp ∧ Binds K fd ps [] ∧ Fun K x qual st f fd) (hne : 0 < ps.length)
    (hk : ∀ (kV doc pm : Value) (an : Option Addr) (cdv ct : Value) (us ws : List Value), us.length = n → ws.length = m → bindArgs (PySem.W.fnOf x qual (defArgs st) (defBody st) (defScope st) .none kV doc pm an cdv ct) ⟨us, ks.zip ws⟩ = pure (ps.zip (us ++ ws))) :
    CallG P w K mg base k (.ref f) ks fun vs zs H Q E => sp (gKw n m vs zs) H Q E := by
  obtain ⟨fd, F, _, F2⟩ := h
  exact F.callK (kb_of F2 hne hk)
end
section
variable {K : Frag} {σ : L2.St} {H : Hp} {z : V} {tl te : TE} {tt : TT} {tb : TS} {wi : TI} {vs : List Nat} {xs : List V} {D : Ends}
/-- a for whose turns lay objects and change none; Pr: what stands of the slots -/
theorem s_forE {j : Nat} (Pr : L2.St → Prop) (hi : EvI wi σ H xs) (h0 : Pr σ)
    (hs : ∀ x ∈ xs, ∀ σ' H', Pr σ' → Ex H H' → ∀ N : L2.St → Hp → Prop, (∀ σ2 H2, Pr σ2 → Ex H' H2 → N σ2 H2) → tb { D with nx := N, ct := N, bk := D.nx } (σ'.set j (some x)) H')
    (hd : ∀ σ' H', Pr σ' → Ex H H' → D.nx σ' H') : tFor wi (gName j) tb D σ H :=
  hi H (Ex.refl H) _ fun H2 J G e w hG => for_it w (fun _ σ' H' => Pr σ' ∧ Ex H2 H') ⟨h0, Ex.refl _⟩ (fun i σ' H' _ p => hG H' p.2) (fun i x σ' H3 H4 hi p y => by
    obtain ⟨y1, y2⟩ := y
    subst y1
    exact hs x (List.mem_of_getElem? y2) σ' H4 p.1 (e.trans p.2) _ fun σ2 H2' q1 q2 => ⟨q1, p.2.trans q2⟩) fun σ' H' p => hd σ' H' p.1 (e.trans p.2)
theorem repS_eq {c n : Nat} : (repS c n).cps.toList = List.replicate n c := by simp [repS]
theorem find_rep {c : Nat} (h : hok c = true) : ∀ n, (List.replicate n c).findIdx? (fun c => !hok c) = none := fun n => by
  rw [List.findIdx?_eq_none_iff]
  intro d hd
  rw [(List.mem_replicate.mp hd).2, h]
  rfl
theorem pairs_rep (c : Nat) : ∀ m, pairs (List.replicate (2 * m) c) = List.replicate m (16 * (hval c : Int) + (hval c : Int))
  | 0 => rfl
  | m + 1 => by
    rw [show 2 * (m + 1) = 2 * m + 1 + 1 by omega, List.replicate_succ, List.replicate_succ]
    unfold pairs
    rw [pairs_rep c m, List.replicate_succ]
theorem hexL_rep (i : Int) : ∀ m, hexd (i / 16).toNat = hexd (i % 16).toNat → hexL (List.replicate m i) = List.replicate (2 * m) (hexd (i % 16).toNat)
  | 0, _ => rfl
  | m + 1, h => by
    have ih := hexL_rep i m h
    unfold hexL at ih ⊢
    rw [List.replicate_succ, List.flatMap_cons, ih, show 2 * (m + 1) = 2 * m + 1 + 1 by omega, List.replicate_succ, List.replicate_succ, h]
    rfl
theorem str_ext {x y : Str} (h : x.cps.toList = y.cps.toList) : x = y := by
  cases x with
  | mk a =>
    cases y with
    | mk b =>
      have : a = b := Array.toList_inj.mp h
      rw [this]
theorem hexS_rep (i : Int) (m : Nat) (h : hexd (i / 16).toNat = hexd (i % 16).toNat) : hexS (List.replicate m i) = repS (hexd (i % 16).toNat) (2 * m) := str_ext (by rw [hexS_tl, hexL_rep i m h, repS_eq])
end
end BJ

namespace BJ
open PySem PySem.Spec PyProof.Rows L2 Evl
open PySem.W (Frag kitOne kitAny)
section
variable {X : Cx} {K : Frag}
/-- the same rules where the Frag is named (inside a comprehension) -/
theorem op_eqD' (hK : X.K = K) (hu : X.A.units + 64 < cLine) : OpR X (compareOp .Eq) (rEqD K) := hK ▸ op_eqD hu
theorem op_neD' (hK : X.K = K) (hu : X.A.units + 64 < cLine) : OpR X (compareOp .NotEq) (rNeD K) := hK ▸ op_neD hu
theorem call_isG' (hK : X.K = K) : CallR X (.builtin "isinstance") (rIsG K) := hK ▸ call_isG
theorem call_reprQ' {k : Nat} (hK : X.K = K) (hr : Room k X.A) (hG : X.A.guards = some []) : CallR X (.builtin "repr") (rReprQ K) := hK ▸ call_reprQ hr hG
theorem ix_list' (hK : X.K = K) : IxR X (rIxL K) := hK ▸ ix_list
theorem ix_tup' (hK : X.K = K) : IxR X (rIxT K) := hK ▸ ix_tup
end
theorem dueD_rep {c n m : Nat} (hc : hok c = true) (hn : n = 2 * m) (hm : m ≤ 50000) : dueD (repS c n).cps.toList = dT (List.replicate m (16 * (hval c : Int) + (hval c : Int))) := by
  subst hn
  rw [repS_eq]
  unfold dueD due
  rw [find_rep hc, List.length_replicate]
  simp only
  rw [if_neg (by omega), if_neg (by omega), pairs_rep]
theorem dueD_big {c n : Nat} (hc : hok c = true) (hn : n % 2 = 0) (hm : 100000 < n) : dueD (repS c n).cps.toList = dL [100000] := by
  rw [repS_eq]
  unfold dueD due
  rw [find_rep hc, List.length_replicate]
  simp only
  rw [if_neg (by omega), if_pos hm]
section
variable {K : Frag} {σ : L2.St} {H : Hp} {z : V} {tl te : TE} {tt : TT} {tb tz : TS} {wi : TI} {vs : List Nat} {xs : List V} {D : Ends}
theorem q_forE {j : Nat} (Pr : L2.St → Prop) (hi : EvI wi σ H xs) (h0 : Pr σ)
    (hs : ∀ x ∈ xs, ∀ σ' H', Pr σ' → Ex H H' → ∀ N : L2.St → Hp → Prop, (∀ σ2 H2, Pr σ2 → Ex H' H2 → N σ2 H2) → tb { D with nx := N, ct := N, bk := tz D } (σ'.set j (some x)) H')
    (hd : ∀ σ' H', Pr σ' → Ex H H' → tz D σ' H') : tSeq (tFor wi (gName j) tb) tz D σ H :=
  s_forE (D := { D with nx := tz D }) Pr hi h0 hs hd
theorem rv_mulS {x : Str} {c n : Nat} (hx : x = ⟨#[c]⟩) (h2 : 2 ≤ n) (hn : n ≤ sizeLine) {H : Hp} : RV rMulS (.str x) (.int (n : Int)) H (.str (repS c n)) := fun H1 _ Q q => ⟨c, n, by rw [hx], rfl, h2, hn, q H1 (Ex.refl _)⟩
theorem eu_rep {n : Nat} {v : V} (h : Ev te σ H v) (h2 : 2 ≤ n) (hn : n ≤ 16777216) : EvU (tOp (rRep1 K) (tTup (tCons te tNil)) (tC (.int (n : Int)))) σ H (List.replicate n v) := fun H1 e Q q =>
  h H1 e _ fun H2 e2 => ⟨(by show 1 ≤ sizeLine; decide), fun p hp => ⟨p, n, v, rfl, rfl, st_of upd_same, h2, hn, fun r hr => q r _ (fresh_back (e2.trans (Ex.new hp)) hr) ((e2.trans (Ex.new hp)).trans (Ex.new hr)) upd_same⟩⟩
theorem lc_atA {J : It} {G : Hp → Prop} (w : Walk J xs.length G (YAt xs)) {j : Nat} {H1 : Hp} {Q : Addr → Hp → Prop} (f : V → Bool) (F : V → V) (hn : xs.length ≤ 1000000)
    (hG : ∀ H, Ex H1 H → G H) (hw : ∀ x, wipe ((wipe σ vs).set j (some x)) vs = wipe σ vs)
    (ht : ∀ x ∈ xs, EvT tt ((wipe σ vs).set j (some x)) H1 (f x)) (he : ∀ x ∈ xs, f x = true → Ev te ((wipe σ vs).set j (some x)) H1 (F x))
    (k : ∀ D H', H1 D = none → Ex H1 H' → H' D = some (.lst ((xs.filter f).map F)) → Q D H') :
    ∀ D, H1 D = none → ∃ W : Nat → Nat → Hp → Prop, (∃ m, W 0 m (upd H1 D (.lst []))) ∧ ∀ i m H, W i m H →
      (J.stop i H ∧ Q D H) ∨ (J.go i H ∧ ∃ Nx : Hp → Prop, (∀ H', Nx H' → ∃ m', m' < m ∧ W (i + 1) m' H') ∧ ∀ x H', J.yld i H x H' → gName j x (wipe σ vs) H' fun σ2 H2 => wipe σ2 vs = wipe σ vs ∧ tt σ2 H2 fun b H3 =>
        if b = true then te σ2 H3 fun y H4 => ∃ acc, H4 D = some (.lst acc) ∧ acc.length < sizeLine ∧ Nx (upd H4 D (.lst (acc ++ [y]))) else Nx H3) :=
  lc_at (Q := fun v H => match v with | .ref D => Q D H | _ => False) w f F hn hG hw ht he k
theorem rep_int (n : Nat) (i : Int) : List.replicate n (V.int i) = (List.replicate n i).map V.int := by rw [List.map_replicate]
end
end BJ

/-! own exceptions made with keywords; exceptions as values -/
namespace BJ
open PySem PySem.Spec Builtin Builtin.ObjectAttr
open PySem.W (Looks Frag findIn subIn nsIn typeIn keepIn codeIn hasDictIn clsIn takerIn excInitIn excOver excObj KxsFacts ksFn ksEnv ks_superIn isFn looks_findIn looks_clsIn InstAt kxs_mw)
open HandSPX
section
variable {M : Model} {A : Around} {E : Value → Shared → Prop} {h : Heap} {g : Array GenState} {d : Drawn} {t : Nat} {os : OsState}
variable {nm q : Str} {C N : Addr} {bs bm bmB : List Value} {hdct : Bool} {sn : List Str} {sub : List Value} {ab : Bool} {col : Option Bool} {dd : Option Addr} {k0 k1 k2 k3 k5 : Option Value} {B newId initId : String}
theorem check_new_kw (F : ExcBaseFacts B newId initId bmB) (hT : ∀ X : String, bm.contains (.type X) = bmB.contains (.type X)) {kw : List (Str × Value)} {Q : Unit → Shared → Prop}
    (hC : h.get? C = some (excClassObj nm q C N bs bm hdct sn sub ab col dd k0 k1 k2 k3 k5 newId)) (hq : Q () ⟨h, g, d, t, os⟩) : wpAny M A (checkBuiltinCall newId ⟨[.ref C], kw⟩) Q E ⟨h, g, d, t, os⟩ := by
  have hcont : (Value.ref C :: bm).contains (.type B) = true := by
    rw [List.contains_cons, hT, F.hasB, Bool.or_true]
  have hstar := F.noStar
  simp only [checkBuiltinCall, F.newKind, F.newSplit, F.newRow]
  repeat (first
    | refine wpAny_loadPart_at hC ?_
    | (refine wpAny_isSubtype_exc hC ?_; rw [hcont])
    | refine wpAny_staticBase_exc hC ?_
    | refine wpAny_madeBy_exc hC ?_
    | simp only [bne_self_eq_false, Bool.false_eq_true, if_false]
    | wp_step)
  exact hq
end
section
variable {prog : Program} {w : World} {A : Around} {E : Value → Shared → Prop} {R : Result → Shared → Prop} {h : Heap} {g : Array GenState} {d : Drawn} {t : Nat} {os : OsState}
variable {nm q : Str} {C N : Addr} {bs bm bmB : List Value} {hdct : Bool} {sn : List Str} {sub : List Value} {ab : Bool} {col : Option Bool} {dd : Option Addr} {k0 k1 k2 k3 k5 : Option Value} {B newId initId : String}
theorem new_kw (F : ExcBaseFacts B newId initId bmB) (hT : ∀ X : String, bm.contains (.type X) = bmB.contains (.type X)) {kw : List (Str × Value)}
    (hC : h.get? C = some (excClassObj nm q C N bs bm hdct sn sub ab col dd k0 k1 k2 k3 k5 newId))
    (hq : R (.ok (.ret (.ref (h.objs.size + 1)))) ⟨(h.push { cls := .type "tuple", data := .seq #[] }).push (excO C h.objs.size), g, d, t, os⟩) :
    codeAny (model prog w) A (.builtin newId ⟨[.ref C], kw⟩) R ⟨h, g, d, t, os⟩ := by
  have hends := F.ends
  have hcB : (Value.ref C :: bm).contains (.type B) = true := by
    rw [List.contains_cons, hT, F.hasB, Bool.or_true]
  have hcA : (Value.ref C :: bm).contains (.type "AttributeError") = false := by
    rw [List.contains_cons, hT, F.noAttr]; rfl
  have hcN : (Value.ref C :: bm).contains (.type "NameError") = false := by
    rw [List.contains_cons, hT, F.noName]; rfl
  refine codeAny_builtinAt F.entry ?_
  unfold Builtin.«BaseException.__new__»
  refine wpAt_bind ?_
  show wpAt _ _ _ (stack >>= _) _ _ _
  refine wpAt_bind (wpAt_stack fun p below => wpAt_of_wpAny ?_)
  wp_walk
  refine wpAt_of_wpAny ?_
  rw [F.owner]
  repeat (first
    | with_reducible refine wpAny_madeHere_exc F.canon hC ?_
    | with_reducible refine wpAny_loadPart_at hC ?_
    | (with_reducible refine wpAny_isSubtype_exc hC ?_; first | rw [hcB] | rw [hcA] | rw [hcN])
    | wp_step)
  show R _ _
  rw [Heap.size_push]
  exact hq
theorem type_call_kw (F : ExcBaseFacts B newId initId bmB) (hT : ∀ X : String, bm.contains (.type X) = bmB.contains (.type X)) {kw : List (Str × Value)} {fI : Addr} {Q : Fin → Shared → Prop}
    (hC : h.get? C = some (excClassObj nm q C N bs bm hdct sn sub ab col dd k0 k1 k2 k3 k5 newId))
    (hi : Looks (model prog w) h (typeLookup (.ref C) "__init__") (some (.ref fI))) (hb : ∀ self, Looks (model prog w) h (bindSpecial (.ref fI) self) (.ref fI, [self]))
    (hq : codeAny (model prog w) A (.call (.ref fI) ⟨[.ref (h.objs.size + 1)], kw⟩)
      (fun r s' => match r with | .ok (.ret v) => v = .none ∧ Q (.done (.ret (.ref (h.objs.size + 1)))) s' | .ok _ => False | .error e => E e s')
      ⟨(h.push (PySem.W.kdv_tup [])).push (excO C h.objs.size), g, d, t, os⟩) :
    wpAny (model prog w) A (Builtin.«type.__call__» ⟨[.ref C], kw⟩) Q E ⟨h, g, d, t, os⟩ := by
  repeat (first
    | with_reducible refine wpAny_loadPart_at hC ?_
    | with_reducible refine wpAny_madeBy_exc hC ?_
    | wp_step)
  refine codeAny_call_builtin_code (Code.quiet_builtin _ F.quiet) (check_new_kw F hT hC ?_)
  refine new_kw F hT hC ?_
  show wpAny _ _ _ _ _ _
  have k : ∀ b o, h.get? b = some o → ((h.push (PySem.W.kdv_tup [])).push (excO C h.objs.size)).get? b = some o := fun b o e => Heap.get?_push_of_some _ (Heap.get?_push_of_some _ e)
  have hC₁ := k _ _ hC
  have hget : ((h.push (PySem.W.kdv_tup [])).push (excO C h.objs.size)).get? (h.objs.size + 1) = some (excO C h.objs.size) := by heap_get
  have hcC : (Value.ref C :: bm).contains (.ref C) = true := by simp
  have i1 := hi.keeps k
  have b1 := (hb (.ref (h.objs.size + 1))).keeps k
  unfold isInstance
  repeat (first
    | with_reducible refine wpAny_loadPart_at hget ?_
    | (with_reducible refine wpAny_isSubtype_exc hC₁ ?_; rw [hcC])
    | wp_step)
  show wpAny _ _ (typeLookup (.ref C) _) _ _ _
  refine i1.at ?_
  refine wpAny_holding (wpAny_bind (b1.at ?_))
  refine wpAny_bind (wpAny_call (codeAny_mono hq fun r s' z => ?_))
  rcases r with e | (v | _ | _ | _)
  case error => exact z
  case ok.ret =>
    obtain ⟨rfl, z⟩ := z
    first
      | exact wpAny_pure (wpAny_pure z)
      | (wp_walk; exact z)
  all_goals exact z.elim
theorem check_tc_kw {M : Model} {E : Value → Shared → Prop} {kw : List (Str × Value)} {Q : Unit → Shared → Prop} (hC : h.get? C = some (excClassObj nm q C N bs bm hdct sn sub ab col dd k0 k1 k2 k3 k5 newId))
    (hq : Q () ⟨h, g, d, t, os⟩) : wpAny M A (checkBuiltinCall "type.__call__" ⟨[.ref C], kw⟩) Q E ⟨h, g, d, t, os⟩ := by
  have f3 := tc_sub
  have hTy : (⟨h, g, d, t, os⟩ : Shared).TypeIs (.ref C) "type" := ⟨_, hC, rfl⟩
  simp only [checkBuiltinCall, tc_kind, tc_split]
  repeat (any_goals (first
    | assumption
    | with_reducible refine wpAny_loadPart_at hC ?_
    | with_reducible refine wpAny_onRaise ?_
    | with_reducible refine wpAny_map ?_
    | wp_step))
theorem call_kw (F : ExcBaseFacts B newId initId bmB) (hT : ∀ X : String, bm.contains (.type X) = bmB.contains (.type X)) {kw : List (Str × Value)} {fI : Addr}
    (hC : h.get? C = some (excClassObj nm q C N bs bm hdct sn sub ab col dd k0 k1 k2 k3 k5 newId))
    (hi : Looks (model prog w) h (typeLookup (.ref C) "__init__") (some (.ref fI))) (hb : ∀ self, Looks (model prog w) h (bindSpecial (.ref fI) self) (.ref fI, [self]))
    (hq : codeAny (model prog w) (A.under (.builtin "type.__call__" ⟨[.ref C], kw⟩)) (.call (.ref fI) ⟨[.ref (h.objs.size + 1)], kw⟩) (PySem.W.InitBack (h.objs.size + 1) R)
      ⟨(h.push (PySem.W.kdv_tup [])).push (excO C h.objs.size), g, d, t, os⟩) :
    codeAny (model prog w) A (.call (.ref C) ⟨[], kw⟩) R ⟨h, g, d, t, os⟩ := by
  have f1 := tc_lookup
  have f2 := tc_bind (.ref C)
  have hTy : (⟨h, g, d, t, os⟩ : Shared).TypeIs (.ref C) "type" := ⟨_, hC, rfl⟩
  refine codeAny_of_tree ?_
  show wpAny _ _ (callAny (.ref C) _) _ _ _
  repeat (any_goals (first
    | assumption
    | with_reducible refine wpAny_loadPart_at hC ?_
    | wp_step))
  refine ⟨rfl, ?_⟩
  refine codeAny_call_builtin_at (Code.quiet_builtin _ (by decide +kernel)) entry_typeCall (check_tc_kw hC (type_call_kw F hT hC hi hb ?_))
  refine codeAny_mono hq fun r s' z => ?_
  rcases r with e | (v | _ | _ | _) <;> exact z
end
end BJ
namespace BJ
open PySem PySem.Spec PyProof.Rows L2 Builtin Builtin.ObjectAttr
open PySem.W (Looks Frag findIn subIn nsIn typeIn keepIn codeIn hasDictIn clsIn takerIn excInitIn excOver excObj KxsFacts ksFn ksEnv ks_superIn isFn looks_findIn looks_clsIn InstAt kxs_mw)
/-- how keywords ks bind to the fields (rev: the other way round) -/
def gR (rev : Bool) {α : Type} (ws : List α) : List α := if rev then ws.reverse else ws
theorem vals_rev : ∀ {vs : List V} {us : List Value}, Vals vs us → Vals vs.reverse us.reverse
  | _, _, .nil => .nil
  | _, _, .cons h t => by
    rw [List.reverse_cons, List.reverse_cons]
    exact (vals_rev t).append (.cons h .nil)
theorem gR_vals {rev : Bool} {vs : List V} {us : List Value} (h : Vals vs us) : Vals (gR rev vs) (gR rev us) := by
  cases rev with
  | true => exact vals_rev h
  | false => exact h
theorem gR_len {rev : Bool} {α : Type} (ws : List α) : (gR rev ws).length = ws.length := by cases rev <;> simp [gR]
structure IniKw (K : Frag) (fI : Addr) (fs ks : List Str) (rev : Bool) : Prop where
  len : ks.length = fs.length
  bind : ∀ fd, (∃ oc od osl, K.lookup fI = some ⟨oc, od, .func fd, osl⟩) → ∀ (u : Value) (ws : List Value), ws.length = fs.length → bindArgs fd ⟨[u], ks.zip ws⟩ = pure ((("self" : Str), u) :: fs.zip (gR rev ws))
section
variable {prog : Program} {w : World} {A : Around} {E : Value → Shared → Prop} {R : Result → Shared → Prop} {s : Shared} {K : Frag} {mg : Str → Option Value} {base : Heap}
  {B initId newId : String} {bm : List Value} {C fI cc cda x : Addr} {cn qual t : Str} {fs ks : List Str} {rev : Bool}
theorem err_madeK (T : ErrK prog K mg C fI cc cda B initId newId bm cn fs) (N : IniK K fI cc cda qual t fs) (N2 : IniKw K fI fs ks rev) (M0 : Mod K mg base) {ws : List Value} (hul : ws.length = fs.length)
    (kb : ∀ b o, base.get? b = some o → s.heap.get? b = some o) (hroom : A.depth + 1 < recursionLimit)
    (hq : ∀ h' tk e d, ErrMade s.heap h' e C d (putM fs (fun f => ((fs.zip (gR rev ws)).lookup f).getD .none) fun _ => none) → R (.ok (.ret (.ref e))) { s with heap := h', toks := tk }) :
    codeAny (model prog w) A (.call (.ref C) ⟨[], ks.zip ws⟩) R s := by
  have X : K.In s.heap := M0.kin.keeps kb
  obtain ⟨nm, N', qn, bs, bm', hdct, sn, sub, ab, col, dd, k0, k1, k2, k3, k5, hC, hT⟩ := PySem.W.excInit_of X T.ini
  obtain ⟨oI, hoI, hcI⟩ := err_fn T X
  obtain ⟨hp, g, dr, tk, os⟩ := s
  have old : ∀ b o, hp.get? b = some o → ((hp.push (PySem.W.kdv_tup [])).push (HandSPX.excO C hp.objs.size)).get? b = some o := fun b o e => Heap.get?_push_of_some _ (Heap.get?_push_of_some _ e)
  have hget : ((hp.push (PySem.W.kdv_tup [])).push (HandSPX.excO C hp.objs.size)).get? (hp.objs.size + 1) = some (HandSPX.excO C hp.objs.size) := by heap_get
  have hnx : K.lookup (hp.objs.size + 1) = none := by
    cases e : K.lookup (hp.objs.size + 1) with
    | none => rfl
    | some o => exact absurd (Nat.lt_of_succ_lt (Heap.lt_size (show hp.get? _ = some o from X _ _ e))) (Nat.lt_irrefl _)
  refine call_kw T.fam.FB hT hC (looks_findIn X T.iC) (fun self => PySem.W.exc_bind hoI hcI self) ?_
  refine err_init (x := hp.objs.size + 1) (t0 := hp.objs.size) (us := gR rev ws) (s := ⟨(hp.push (PySem.W.kdv_tup [])).push (HandSPX.excO C hp.objs.size), g, dr, tk, os⟩) T N M0 (by rw [gR_len, hul]) (fun b o e => old b o (kb b o e)) hget hnx ?_
    (fun fd hfd => BindsTo.of_eq (N2.bind fd hfd _ ws hul)) fun h' tk' d t1 k' dz hx n' => ?_
  · show A.depth + 1 < recursionLimit
    exact hroom
  · have dz' : hp.objs.size + 1 + 1 ≤ d := by
      have q := dz
      rw [Heap.size_push, Heap.size_push] at q
      exact q
    exact ⟨rfl, hq h' tk' (hp.objs.size + 1) d ⟨fun b o e => k' b o (Nat.ne_of_lt (Nat.lt_succ_of_lt (Heap.lt_size e))) (old b o e), Nat.le_succ _, ⟨_, hx⟩, Nat.le_trans (Nat.le_trans (Nat.le_succ _) (Nat.le_succ _)) dz', (Nat.ne_of_lt (Nat.lt_of_succ_le dz')).symm, n'⟩⟩
end
section
variable {X : Cx} {C fI cc cda : Addr} {B initId newId : String} {bm : List Value} {cn qual t : Str} {fs ks : List Str} {rev : Bool} {pins : List (Addr × Obj)} {σ : L2.St} {H : Hp} {s : Shared}
/-- a made exception is tracked -/
theorem Inv.made {h' : Heap} {a d : Addr} {tk' : Nat} {vs : List V} {us : List Value} (I : Inv X pins σ H s) (M : ErrMade s.heap h' a C d (putM fs (fun f => ((fs.zip us).lookup f).getD .none) fun _ => none)) (r : Vals vs us) (hvl : vs.length = fs.length) :
    ∃ H2, Inv X pins σ H2 { s with heap := h', toks := tk' } ∧ Evl.Ex H H2 ∧ H a = none ∧ ExcAt H2 a C d (fs.zip vs) := by
  obtain ⟨t0, ha'⟩ := M.obj
  obtain ⟨G', g1, g2⟩ := restrict h' fun b => decide (b ≠ a)
  have gk : ∀ b, b ≠ a → G'.get? b = h'.get? b := fun b hb => g1 b (decide_eq_true hb)
  have ge : G'.get? a = none := g2 a (by simp)
  have gold : ∀ b o, s.heap.get? b = some o → G'.get? b = some o := fun b o q => (gk b (Nat.ne_of_lt (Nat.lt_of_lt_of_le (Heap.lt_size q) M.new))).trans (M.keep b o q)
  have ob : ObjOk X.prog X.w (upd H d (.xd (fs.zip vs))) G' d (.xd (fs.zip vs)) := ⟨_, M.ns.at (fun o q => (gk d M.dne).trans q), relO_putM r hvl⟩
  have J : Inv X pins σ (upd H d (.xd (fs.zip vs))) { s with heap := G', toks := tk' } := I.laid (t' := tk') gold M.dnew ob
  have subs : ∀ b o, G'.get? b = some o → h'.get? b = some o := fun b o q => by
    by_cases hb : b = a
    · rw [hb, ge] at q; cases q
    · exact (gk b hb).symm.trans q
  have ha0 : H a = none := I.hok.fresh M.new
  have hd0 : H d = none := I.hok.fresh M.dnew
  have na : upd H d (.xd (fs.zip vs)) a = none := by rw [upd_ne (Ne.symm M.dne)]; exact ha0
  have J2 : Inv X pins σ (upd (upd H d (.xd (fs.zip vs))) a (ExcK a (.ref C) (some d))) { s with heap := h', toks := tk' } := J.laidN (h' := h') (t' := tk') subs ge na (excK_ok ha' ⟨rfl, rfl⟩ rfl)
  exact ⟨_, J2, (Evl.Ex.new hd0).trans (Evl.Ex.new na), ha0, upd_same, by rw [upd_ne M.dne]; exact upd_same⟩
/-- C(e, ..), the exception as a value -/
def tErrE (C : Addr) (fs : List Str) (ta : TA) : TE := fun σ H Q => ta σ H fun vs H1 => vs.length = fs.length ∧ ∀ a d H2, H1 a = none → Evl.Ex H1 H2 → ExcAt H2 a C d (fs.zip vs) → Q (.ref a) H2
theorem pe_err {e : Expr} {es : List Expr} {ta : TA} {p pos : Pos} (T : ErrK X.prog X.K X.mg C fI cc cda B initId newId bm cn fs) (N : IniK X.K fI cc cda qual t fs) (kC : keepIn X.K (.ref C) = true)
    {k : Nat} (hr : Room k X.A) (ha : PA X (e :: es) ta) (hg : Gl X cn) (hdb : (cn == ("__debug__" : Str)) = false := by decide)
    (he : starEach (e :: es) X.env = (false, eval e X.env) :: starEach es X.env := by rfl) (hpl : (backTo pos (starEach es X.env)).any (·.1) = false := by rfl) :
    PE X (.Call (.Name cn p) (e :: es) [] pos) (tErrE C fs ta) where
  run := by
    intro pins s σ H Q I h
    refine wpAny_Call_Name_kw (ld_glob I hg T.gC ?_ hdb)
    refine PySem.W.callWith_K (h₀ := X.base) I.ok.mod.kin kC (thn (ha.run pos pins s σ H _ I h) ?_) he hpl
    rintro us s1 ⟨vs, H1, I1, r1, hvl, q1⟩
    refine ⟨I1.kIn, ?_⟩
    show wpAny _ _ (call (.ref C) us) _ _ _
    have hul : us.length = fs.length := r1.length.symm.trans hvl
    have hbk := I1.bk
    refine wpAny_call (err_made T N I1.mod hul hbk (by have := hr.dp; omega) fun h' tk' a d M => ?_)
    obtain ⟨H2, J, e2, n2, at2⟩ := Inv.made (tk' := tk') I1 M r1 hvl
    exact ⟨.ref a, H2, J, rfl, q1 a d H2 n2 e2 at2⟩
/-- C(k = e, ..) -/
def tErrKw (C : Addr) (fs : List Str) (rev : Bool) (tk : TA) : TE := fun σ H Q => tk σ H fun zs H1 => zs.length = fs.length ∧ ∀ a d H2, H1 a = none → Evl.Ex H1 H2 → ExcAt H2 a C d (fs.zip (gR rev zs)) → Q (.ref a) H2
theorem pe_errK {kws : List Keyword} {tk : TA} {p pos : Pos} (T : ErrK X.prog X.K X.mg C fI cc cda B initId newId bm cn fs) (N : IniK X.K fI cc cda qual t fs) (N2 : IniKw X.K fI fs ks rev) (kC : keepIn X.K (.ref C) = true)
    {k : Nat} (hr : Room k X.A) (hkw : PK X kws tk) (hg : Gl X cn)
    (hall : (backToKw pos (keywordEach kws X.env)).all (·.1.isSome) = true := by rfl) (hks : (backToKw pos (keywordEach kws X.env)).filterMap (·.1) = ks := by rfl)
    (hdb : (cn == ("__debug__" : Str)) = false := by decide)
    (hpl : ((backTo pos (starEach [] X.env)).any (·.1) || (backToKw pos (keywordEach kws X.env)).any (·.1.isNone)) = false := by rfl) :
    PE X (.Call (.Name cn p) [] kws pos) (tErrKw C fs rev tk) where
  run := by
    intro pins s σ H Q I h
    refine wpAny_Call_Name_kw (ld_glob I hg T.gC ?_ hdb)
    refine PySem.W.callWith_KW0 (h₀ := X.base) I.ok.mod.kin kC hall (thn (hkw.run pos pins s σ H _ I h) ?_) hpl
    rintro ws s2 ⟨zs, H2, I2, rz, hvl, q2⟩
    rw [hks]
    have hul : ws.length = fs.length := rz.length.symm.trans hvl
    refine ⟨I2.kIn, wpAny_call (err_madeK T N N2 I2.mod hul I2.bk (by have := hr.dp; omega) fun h' tk' a d M => ?_)⟩
    obtain ⟨H3, J, e3, n3, at3⟩ := Inv.made (tk' := tk') I2 M (gR_vals rz) (by rw [gR_len, hvl])
    exact ⟨.ref a, H3, J, rfl, q2 a d H3 n3 e3 at3⟩
end
end BJ

/-! data with dicts in it, its repr; list.count(True) -/
namespace BJ
open PySem PySem.Spec PyProof.Rows L2 Evl
open PySem.W (Frag kitOne kitAny)
def keyD : Key → PyData
  | .inl i => .int i
  | .inr x => .str x
mutual
/-- data: atoms, lists, tuples, dicts whose keys are ints or texts -/
inductive Dz (K : Frag) (H : Hp) : V → PyData → Prop
  | non : Dz K H .non .none
  | bl (b : Bool) : Dz K H (.bl b) (.bool b)
  | int (i : Int) : Dz K H (.int i) (.int i)
  | str (x : Str) : Dz K H (.str x) (.str x)
  | lst {a : Addr} {xs : List V} {ds : List PyData} : SqL K H a xs → sysModules < a → DzAll K H xs ds → Dz K H (.ref a) (.list ds)
  | tup {a : Addr} {xs : List V} {ds : List PyData} : SqT K H a xs → DzAll K H xs ds → Dz K H (.ref a) (.tuple ds)
  | dict {a : Addr} {kvs : List (Key × V)} {ds : List PyData} : H a = some (.dK kvs) → DzAll K H (kvs.map (·.2)) ds → Dz K H (.ref a) (.dict ((kvs.map fun p => keyD p.1).zip ds))
inductive DzAll (K : Frag) (H : Hp) : List V → List PyData → Prop
  | nil : DzAll K H [] []
  | cons {v : V} {vs : List V} {d : PyData} {ds : List PyData} : Dz K H v d → DzAll K H vs ds → DzAll K H (v :: vs) (d :: ds)
end
mutual
theorem dz_ex {K : Frag} {H H' : Hp} (e : Ex H H') : ∀ {x : V} {d : PyData}, Dz K H x d → Dz K H' x d
  | _, _, .non => .non
  | _, _, .bl b => .bl b
  | _, _, .int i => .int i
  | _, _, .str x => .str x
  | _, _, .lst h1 hs h2 => .lst (ex_l e h1) hs (dzAll_ex e h2)
  | _, _, .tup h1 h2 => .tup (ex_t e h1) (dzAll_ex e h2)
  | _, _, .dict h1 h2 => .dict (e _ _ h1) (dzAll_ex e h2)
theorem dzAll_ex {K : Frag} {H H' : Hp} (e : Ex H H') : ∀ {xs : List V} {ds : List PyData}, DzAll K H xs ds → DzAll K H' xs ds
  | _, _, .nil => .nil
  | _, _, .cons h1 h2 => .cons (dz_ex e h1) (dzAll_ex e h2)
end
theorem dzAll_len {K : Frag} {H : Hp} : ∀ {xs : List V} {ds : List PyData}, DzAll K H xs ds → xs.length = ds.length
  | _, _, .nil => rfl
  | _, _, .cons _ h => by rw [List.length_cons, List.length_cons, dzAll_len h]
theorem dzAll_rep {K : Frag} {H : Hp} {x : V} {d : PyData} (h : Dz K H x d) : ∀ n, DzAll K H (List.replicate n x) (List.replicate n d)
  | 0 => .nil
  | n + 1 => .cons h (dzAll_rep h n)
theorem dz_ty {K : Frag} {H : Hp} {x : V} {d : PyData} (h : Dz K H x d) : TyX K H x (.type (tyN d)) := by
  cases h with
  | non => exact .base .non
  | bl b => exact .base (.bl b)
  | int i => exact .base (.int i)
  | str x => exact .base (.str x)
  | lst h _ _ => exact ty_lst h
  | tup h _ => exact ty_tup h
  | dict h _ => exact .base (.dK h)
theorem key_reads {h : Heap} : ∀ {es : List DictEntry} {kvs : List (Key × Value)} {P : Program} {w : World}, Pairs (mixKind P w) es kvs → ReadsAll h (es.map (·.key)) (kvs.map fun p => keyD p.1) [] ∧ es.map (·.val) = kvs.map (·.2)
  | _, _, _, _, .nil => ⟨.nil, rfl⟩
  | _, _, _, _, .cons (e := e) (kv := kv) h1 h2 h3 => by
    obtain ⟨ih1, ih2⟩ := key_reads (h := h) h3
    refine ⟨?_, by rw [List.map_cons, List.map_cons, ih2, h2]⟩
    rw [List.map_cons, List.map_cons]
    obtain ⟨k, v⟩ := kv
    have rd : Reads h e.key (keyD k) [] := by
      rcases keyIs_shape h1 with ⟨i, t, rfl, h⟩ | ⟨x, t, rfl, h⟩
      · rw [h]; exact .int i t
      · rw [h]; exact .str x t
    exact .cons (as := []) (bs := []) rd ih1
section
variable {X : Cx} {pins : List (Addr × Obj)} {σ : L2.St} {H : Hp} {s : Shared}
theorem kv_of {kvs : List (Key × V)} {vs : List (Key × Value)} (h : KV kvs vs) : kvs.map (·.1) = vs.map (·.1) ∧ Vals (kvs.map (·.2)) (vs.map (·.2)) := by
  induction h with
  | nil => exact ⟨rfl, .nil⟩
  | cons h t ih => exact ⟨by rw [List.map_cons, List.map_cons, ih.1, h.1], .cons h.2 ih.2⟩
theorem dz_go {ds : List PyData} (ih : ∀ d ∈ ds, ∀ (v : V) (u : Value), Dz X.K H v d → RelV v u → ∃ as, Reads s.heap u d as ∧ sysModules ∉ as) :
    ∀ (es : List PyData) (ws : List V) (us : List Value), (∀ d ∈ es, d ∈ ds) → DzAll X.K H ws es → Vals ws us → ∃ bs, ReadsAll s.heap us es bs ∧ sysModules ∉ bs
  | [], _, _, _, h, r => by
    cases h
    cases r
    exact ⟨_, .nil, by simp⟩
  | d :: es, _, _, hm, h, r => by
    cases h with
    | cons h1 h2 =>
      cases r with
      | cons r1 r2 =>
        obtain ⟨as, q1, n1⟩ := ih d (hm d List.mem_cons_self) _ _ h1 r1
        obtain ⟨bs, q2, n2⟩ := dz_go ih es _ _ (fun d hd => hm d (List.mem_cons_of_mem _ hd)) h2 r2
        exact ⟨_, .cons q1 q2, fun z => (List.mem_append.mp z).elim n1 n2⟩
theorem dz_reads_n (I : Inv X pins σ H s) : ∀ (n : Nat) (d : PyData), sizeOf d ≤ n → ∀ (v : V) (u : Value), Dz X.K H v d → RelV v u → ∃ as, Reads s.heap u d as ∧ sysModules ∉ as := by
  intro n
  induction n with
  | zero =>
    intro d h
    cases d <;> simp at h
  | succ n ihn =>
    intro d hn v u h r
    cases h with
    | non =>
      cases r
      exact ⟨_, Reads.none, by simp⟩
    | bl b =>
      cases r
      exact ⟨_, Reads.bool b, by simp⟩
    | int i =>
      obtain ⟨t, rfl⟩ := r
      exact ⟨_, Reads.int i t, by simp⟩
    | str x =>
      obtain ⟨t, rfl⟩ := r
      exact ⟨_, Reads.str x t, by simp⟩
    | @lst a xs ds hq hs ha =>
      cases r
      obtain ⟨its, rv, ⟨o, n, ho, hc, _, hd⟩, _⟩ := I.list hq
      obtain ⟨as, hr, hno⟩ := dz_go (fun d hd => ihn d (by have := List.sizeOf_lt_of_mem hd; simp at hn; omega)) ds _ its (fun _ h => h) ha rv
      refine ⟨_, Reads.list ho hc hd hr, fun hm => ?_⟩
      rcases List.mem_cons.mp hm with e | hm
      · exact absurd e (Nat.ne_of_lt hs)
      · exact hno hm
    | @tup a xs ds hq ha =>
      cases r
      obtain ⟨its, rv, ⟨o, ho, hc, n, hd⟩, _⟩ := I.tuple hq
      obtain ⟨as, hr, hno⟩ := dz_go (fun d hd => ihn d (by have := List.sizeOf_lt_of_mem hd; simp at hn; omega)) ds _ its (fun _ h => h) ha rv
      exact ⟨_, Reads.tuple ho hc hd hr, hno⟩
    | @dict a kvs ds hq ha =>
      cases r
      obtain ⟨_, hsys, vs, hkv, o, es, ep, h1, h2, h3, _, h5, _⟩ := (show ObjOk X.prog X.w H s.heap a (.dK kvs) from I.hok a _ hq)
      obtain ⟨k1, k2⟩ := kv_of hkv
      obtain ⟨r1, r2⟩ := key_reads (h := s.heap) h5
      have hl : kvs.length = ds.length := by rw [← dzAll_len ha, List.length_map]
      have e1 : (((kvs.map fun p => keyD p.1).zip ds).map (·.1)) = vs.map fun p => keyD p.1 := by
        rw [List.map_fst_zip (by rw [List.length_map]; omega)]
        have := congrArg (List.map keyD) k1
        rw [List.map_map, List.map_map] at this
        exact this
      have e2 : (((kvs.map fun p => keyD p.1).zip ds).map (·.2)) = ds := List.map_snd_zip (by rw [List.length_map]; omega)
      have hsz : ∀ d ∈ ds, sizeOf d ≤ n := fun d hd => by
        have m1 : d ∈ ((kvs.map fun p => keyD p.1).zip ds).map (·.2) := by rw [e2]; exact hd
        obtain ⟨p, hp, rfl⟩ := List.mem_map.mp m1
        have := List.sizeOf_lt_of_mem hp
        obtain ⟨p1, p2⟩ := p
        simp only [PyData.dict.sizeOf_spec, Prod.mk.sizeOf_spec] at this hn
        show sizeOf p2 ≤ n
        omega
      obtain ⟨bs, q2, n2⟩ := dz_go (fun d hd => ihn d (hsz d hd)) ds _ _ (fun _ h => h) ha k2
      refine ⟨_, Reads.dict (as := []) (bs := bs) h1 h2.1 h3 (by rw [e1]; exact r1) (by rw [e2, r2]; exact q2), fun hm => ?_⟩
      rcases List.mem_cons.mp hm with e | hm
      · rw [← e] at hsys
        simp at hsys
      · exact n2 (by simpa using hm)
theorem dz_reads (I : Inv X pins σ H s) (d : PyData) (v : V) (u : Value) (h : Dz X.K H v d) (r : RelV v u) : ∃ as, Reads s.heap u d as ∧ sysModules ∉ as := dz_reads_n I _ d (Nat.le_refl _) v u h r
end
/-- what repr asks of data, dicts among it -/
structure ShowsZ (d : PyData) : Prop where
  s : d.showable = true
  p : d.depth ≤ 40
  z : d.shown.length ≤ sizeLine
section
variable {X : Cx} {K : Frag}
def rReprZ (K : Frag) : List V → Hp → VK → Prop := fun xs H Q => ∃ (x : V) (d : PyData), xs = [x] ∧ Dz K H x d ∧ ShowsZ d ∧ Q (.str d.shown) H
theorem call_reprZ {k : Nat} (hK : X.K = K) (hr : Room k X.A) (hG : X.A.guards = some []) : CallR X (.builtin "repr") (rReprZ K) := by
  subst hK
  rintro pins s σ H xs us Q I r ⟨x, d, rfl, hd, sh, q⟩
  obtain ⟨u, rfl, r1⟩ := vals1 r
  obtain ⟨as, hrd, hn⟩ := dz_reads I d x u hd r1
  have fin : ∀ (h' : Heap) (t : Tok) (tk : Nat), (∀ b o, s.heap.get? b = some o → h'.get? b = some o) → EP X pins σ Q (.str d.shown t) { s with heap := h', toks := tk } := fun h' t tk kk => ⟨.str d.shown, H, I.kept (t' := tk) kk, ⟨t, rfl⟩, q⟩
  have hsz := sh.z
  have hdep := sh.p
  cases hrd with
  | none => exact PySem.P.repr_of_none (by simpa [PyData.shown] using fin s.heap _ _ fun _ _ e => e)
  | bool b => exact PySem.P.repr_of_bool (by cases b <;> simpa [PyData.shown] using fin s.heap _ _ fun _ _ e => e)
  | int i t => exact PySem.P.repr_of_int (by simpa [PyData.showable] using sh.s) (by simpa [PyData.shown] using fin s.heap _ _ fun _ _ e => e)
  | str y t => exact PySem.P.repr_of_str (by simpa [PyData.shown] using fin s.heap _ _ fun _ _ e => e) (by simpa [PyData.shown] using hsz)
  | list h1 h2 h3 h4 => exact repr_of_reads' (.list h1 h2 h3 h4) sh.s (fun _ => hn) hG (by have := hr.un; omega) (fun _ _ e => e) (fun h' t tk kk => fin h' t tk kk) hsz
  | tuple h1 h2 h3 h4 => exact repr_of_reads' (.tuple h1 h2 h3 h4) sh.s (fun _ => hn) hG (by have := hr.un; omega) (fun _ _ e => e) (fun h' t tk kk => fin h' t tk kk) hsz
  | dict h1 h2 h3 h4 h5 => exact repr_of_reads' (.dict h1 h2 h3 h4 h5) sh.s (fun _ => hn) hG (by have := hr.un; omega) (fun _ _ e => e) (fun h' t tk kk => fin h' t tk kk) hsz

/-! ### bs.count(b), a list of bools -/
def eqb (k : Bool) (v : Value) : Bool := match v with
  | .bool n => n == k
  | _ => false
theorem bools_of_vals : ∀ {bs : List Bool} {us : List Value}, Vals (bs.map V.bl) us → us = bs.map Value.bool
  | [], _, h => by cases h; rfl
  | b :: bs, _, .cons h t => by
    cases (show _ = Value.bool b from h)
    rw [bools_of_vals t]
    rfl
theorem eqb_count (k : Bool) : ∀ bs : List Bool, (bs.map Value.bool).countP (eqb k) = bs.count k
  | [] => rfl
  | b :: bs => by
    rw [List.map_cons, List.countP_cons, List.count_cons, eqb_count k bs]
    rfl
def rCntB (K : Frag) : V → List V → Hp → VK → Prop := fun x xs H Q => ∃ (p : Addr) (bs : List Bool) (k : Bool), x = .ref p ∧ xs = [.bl k] ∧ SqL K H p (bs.map V.bl) ∧ Q (.int (bs.count k : Nat)) H
theorem mt_bcount : MtR X "list.count" (rCntB X.K) := by
  intro pins s σ H x xs v us Q I rx rxs h
  obtain ⟨p, bs, k, rfl, rfl, hs, q⟩ := h
  cases rx
  obtain ⟨u, rfl, ru⟩ := rxs.one
  cases (show u = Value.bool k from ru)
  obtain ⟨its, rv, ⟨⟨cls, dd, data, sl⟩, n, ho, hc, hdn, hd⟩, hlen⟩ := I.list hs
  simp only at hc hd
  subst hc hd
  have hi := bools_of_vals rv
  subst hi
  refine call_meets PySem.F.slot_list_count ⟨_, ho, rfl⟩ PySem.F.entry_list_count (PySem.F.args_list_count_2 _ _)
    (SeqAt.list_countAt p (bs.map Value.bool).toArray n dd sl (.bool k) (eqb k)) ⟨ho, fun y hy => ?_, ?_⟩
  · have hy' : y ∈ bs.map Value.bool := by simpa using hy
    obtain ⟨b, _, rfl⟩ := List.mem_map.mp hy'
    exact SeqAt.EqAt.bool_bool b k
  · refine ⟨.int (bs.count k : Nat), H, I.tok _, ⟨s.toks, ?_⟩, q⟩
    show Value.int (((bs.map Value.bool).toArray.toList.countP (eqb k) : Nat) : Int) s.toks = Value.int ((bs.count k : Nat) : Int) s.toks
    rw [show (bs.map Value.bool).toArray.toList = bs.map Value.bool from rfl, eqb_count]
end
end BJ

/-! lists of exceptions -/
namespace BJ
open PySem PySem.Spec PyProof.Rows L2 Evl
open PySem.W (Frag kitOne kitAny)
theorem excAt_ex {H H' : Hp} (e : Ex H H') {a C d : Addr} {fs : List (Str × V)} (h : ExcAt H a C d fs) : ExcAt H' a C d fs := ⟨e _ _ h.1, e _ _ h.2⟩
/-- the values vs are exceptions of the classes cs, their fields in turn the values ws -/
inductive EL (H : Hp) (ws : List V) : List (Addr × List Str) → List V → Prop
  | nil : EL H ws [] []
  | cons {C : Addr} {fs : List Str} {cs : List (Addr × List Str)} {e d : Addr} {vs : List V} : ExcAt H e C d (fs.zip ws) → EL H ws cs vs → EL H ws ((C, fs) :: cs) (.ref e :: vs)
theorem EL.mono {H H' : Hp} {ws : List V} (x : Ex H H') {cs : List (Addr × List Str)} {vs : List V} (h : EL H ws cs vs) : EL H' ws cs vs := by
  induction h with
  | nil => exact .nil
  | cons h t ih => exact .cons (excAt_ex x h) ih
theorem EL.append {H : Hp} {ws : List V} {cs cs' : List (Addr × List Str)} {vs vs' : List V} (h : EL H ws cs vs) (h' : EL H ws cs' vs') : EL H ws (cs ++ cs') (vs ++ vs') := by
  induction h with
  | nil => exact h'
  | cons h t ih => exact .cons h ih
theorem EL.length {H : Hp} {ws : List V} {cs : List (Addr × List Str)} {vs : List V} (h : EL H ws cs vs) : vs.length = cs.length := by
  induction h with
  | nil => rfl
  | cons h t ih => rw [List.length_cons, List.length_cons, ih]
theorem EL.get {H : Hp} {ws : List V} {cs : List (Addr × List Str)} {vs : List V} (h : EL H ws cs vs) : ∀ (i : Nat) (C : Addr) (fs : List Str), cs[i]? = some (C, fs) → ∃ e d, vs[i]? = some (.ref e) ∧ ExcAt H e C d (fs.zip ws) := by
  induction h with
  | nil => intro i C fs h; simp at h
  | cons h t ih =>
    intro i C fs hi
    cases i with
    | zero =>
      simp at hi
      obtain ⟨rfl, rfl⟩ := hi
      exact ⟨_, _, rfl, h⟩
    | succ i =>
      simp only [List.getElem?_cons_succ] at hi
      exact ih i C fs hi
section
variable {K : Frag} {σ : L2.St} {H : Hp} {te : TE} {ta tr : TA} {ws : List V} {cs cs' : List (Addr × List Str)}
def EvAE (ta : TA) (σ : L2.St) (H : Hp) (ws : List V) (cs : List (Addr × List Str)) : Prop := ∀ H1, Ex H H1 → ∀ Q : List V → Hp → Prop, (∀ vs H2, Ex H1 H2 → EL H2 ws cs vs → Q vs H2) → ta σ H1 Q
def EvLE (te : TE) (σ : L2.St) (H : Hp) (ws : List V) (cs : List (Addr × List Str)) : Prop := ∀ H1, Ex H H1 → ∀ Q : VK, (∀ p vs H2, Ex H1 H2 → H2 p = some (.lst vs) → EL H2 ws cs vs → Q (.ref p) H2) → te σ H1 Q
theorem eae_nil : EvAE tNil σ H ws [] := fun H1 _ _ q => q [] H1 (Ex.refl _) .nil
/-- C(x, ..), then the rest: the values given are the first of ws -/
theorem eae_cons {C : Addr} {fs : List Str} {zs : List V} (h : EvA ta σ H zs) (hl : zs.length = fs.length) (hz : fs.zip zs = fs.zip ws) (hr : EvAE tr σ H ws cs) : EvAE (tCons (tErrE C fs ta) tr) σ H ws ((C, fs) :: cs) := fun H1 e Q q =>
  h H1 e _ fun H2 e2 => ⟨hl, fun a d H3 ha e3 hat => hr H3 ((e.trans e2).trans e3) _ fun vs H4 e4 el => q _ H4 ((e2.trans e3).trans e4) (.cons (excAt_ex e4 (hz ▸ hat)) el)⟩
theorem ele_lst (h : EvAE ta σ H ws cs) (hl : cs.length ≤ 100000) : EvLE (tLst ta) σ H ws cs := fun H1 e Q q =>
  h H1 e _ fun vs H2 e2 el => ⟨sz_of (by rw [el.length]; exact hl), fun p hp => q p vs _ (e2.trans (Ex.new hp)) upd_same (el.mono (Ex.new hp))⟩
theorem ele_cat {t1 t2 : TE} (h1 : EvLE t1 σ H ws cs) (h2 : EvLE t2 σ H ws cs') (hl : cs.length + cs'.length ≤ 100000) : EvLE (tOp (rCatS K) t1 t2) σ H ws (cs ++ cs') := fun H1 e Q q =>
  h1 H1 e _ fun p vs H2 e2 hp el => h2 H2 (e.trans e2) _ fun p' vs' H3 e3 hp' el' => ⟨p, p', vs, vs', rfl, rfl, .inl (.inl (e3 _ _ hp)), .inl (.inl hp'), sz_of (by rw [el.length, el'.length]; exact hl), fun l hl' =>
    q l _ _ ((e2.trans e3).trans (Ex.new hl')) upd_same (((el.mono e3).append el').mono (Ex.new hl'))⟩
theorem ele_var {i : Nat} {p : Addr} {vs : List V} (h : σ[i]? = some (some (.ref p))) (hp : H p = some (.lst vs)) (el : EL H ws cs vs) : EvLE (tVar i) σ H ws cs := fun H1 e Q q => ⟨_, h, q p vs H1 (Ex.refl _) (e _ _ hp) (el.mono e)⟩
/-- list + list that evaluate -/
theorem el_cat {t1 t2 : TE} {xs ys : List V} (h1 : EvL t1 σ H xs) (h2 : EvL t2 σ H ys) (hl : xs.length + ys.length ≤ 100000) : EvL (tOp (rCatS K) t1 t2) σ H (xs ++ ys) := fun H1 e Q q =>
  h1 H1 e _ fun p H2 n2 e2 hp => h2 H2 (e.trans e2) _ fun p' H3 n3 e3 hp' => ⟨p, p', xs, ys, rfl, rfl, .inl (.inl (e3 _ _ hp)), .inl (.inl hp'), sz_of hl, fun l hl' => q l _ (fresh_back (e2.trans e3) hl') ((e2.trans e3).trans (Ex.new hl')) upd_same⟩
/-- a variable that holds a list, as the first of a sum -/
theorem el_catV {t2 : TE} {i : Nat} {p : Addr} {xs ys : List V} (h : σ[i]? = some (some (.ref p))) (hp : H p = some (.lst xs)) (h2 : EvL t2 σ H ys) (hl : xs.length + ys.length ≤ 100000) : EvL (tOp (rCatS K) (tVar i) t2) σ H (xs ++ ys) := fun H1 e Q q =>
  ⟨_, h, h2 H1 e _ fun p' H3 n3 e3 hp' => ⟨p, p', xs, ys, rfl, rfl, .inl (.inl (e3 _ _ (e _ _ hp))), .inl (.inl hp'), sz_of hl, fun l hl' => q l _ (fresh_back e3 hl') (e3.trans (Ex.new hl')) upd_same⟩⟩
/-- isinstance(e, C) of a held exception -/
theorem rc_isE {e C D d : Addr} {fs : List (Str × V)} {b : Bool} (h : ExcAt H e C d fs) (R : ErrR K C) (k : kitOne K (.ref C) (.ref D) = some b) : RC (rIsG K) [.ref e, .ref D] H (.bl b) :=
  fun H1 x Q q => ⟨_, _, .ref C, .ref D, b, rfl, .own D, .exc (excAt_ex x h) R, k, q H1 (Ex.refl _)⟩
theorem rc_isEt {e C d : Addr} {n : String} {fs : List (Str × V)} {b : Bool} (h : ExcAt H e C d fs) (R : ErrR K C) (k : kitOne K (.ref C) (.type n) = some b) : RC (rIsG K) [.ref e, .ty n] H (.bl b) :=
  fun H1 x Q q => ⟨_, _, .ref C, .type n, b, rfl, .ty n, .exc (excAt_ex x h) R, k, q H1 (Ex.refl _)⟩
/-- e.f -/
theorem ev_exf {e C d : Addr} {f : Str} {fs : List (Str × V)} {v : V} (he : Ev te σ H (.ref e)) (h : ExcAt H e C d fs) (R : ErrR K C) (nf : PySem.W.findIn K (.ref C) f = some none) (hl : fs.lookup f = some v) : Ev (tExf K te f) σ H v := fun H1 x Q q =>
  he H1 x _ fun H2 x2 => ⟨e, C, d, fs, v, rfl, excAt_ex (x.trans x2) h, R, nf, hl, q H2 x2⟩
end
end BJ

/-! new lists of which it is known that they are not the modules' dict -/
namespace BJ
open PySem PySem.Spec PyProof.Rows L2 Evl
open PySem.W (Frag kitOne kitAny)
section
variable {X : Cx}
/-- list + list -/
def rCatN (K : Frag) : R2 := fun x y H Q => ∃ l b xs zs, x = .ref l ∧ y = .ref b ∧ Scr K H l xs ∧ Scr K H b zs ∧ xs.length + zs.length ≤ sizeLine ∧ ∀ p, H p = none → sysModules < p → Q (.ref p) (upd H p (.lst (xs ++ zs)))
theorem op_catN : OpR X (binaryOp .Add) (rCatN X.K) := by
  rintro pins s σ H x y v u Q I rx ry ⟨l, b, xs, zs, rfl, rfl, hH, hB, hz, q⟩
  cases rx
  cases ry
  obtain ⟨its, n, r, e, hl⟩ := hH.at I
  obtain ⟨its2, n2, r2, e2, hl2⟩ := hB.at I
  have q1 := r.length
  have q2 := r2.length
  refine PySem.P.add_list e e2 ?_ (by rw [List.size_toArray, List.size_toArray]; omega)
  rw [show its.toArray ++ its2.toArray = (its ++ its2).toArray from by simp]
  exact ⟨.ref _, _, I.lnew (t' := s.toks) (r.append r2) (by rw [List.length_append]; omega), rfl, q _ I.fresh I.big⟩
/-- [..] -/
def tLstN (t : TA) : TE := fun σ H Q => t σ H fun xs H1 => xs.length ≤ sizeLine ∧ ∀ p, H1 p = none → sysModules < p → Q (.ref p) (upd H1 p (.lst xs))
theorem pe_lstN {es : List Expr} {t : TA} {pos : Pos} (h : PA X es t) : PE X (.List es pos) (tLstN t) where
  run := by
    intro pins s σ H Q I hq
    refine wpAny_List_spliced (thn (h.run pos pins s σ H _ I hq) ?_)
    rintro us s1 ⟨xs, H1, I1, r, z, q⟩
    refine ⟨by rw [← r.length]; exact z, ?_⟩
    refine ⟨.ref s1.heap.objs.size, upd H1 s1.heap.objs.size (.lst xs), I1.laid (t' := s1.toks) (fun b u e => Heap.get?_push_of_some _ e) (Nat.le_refl _) ?_, rfl, q _ (I1.hok.fresh (Nat.le_refl _)) I1.big⟩
    exact ⟨z, us, 0, r, Heap.get?_push_size _ rfl⟩
/-- [x] * n -/
def rRepN : R2 := fun x y H Q => ∃ (l : Addr) (n : Nat) (v : V), x = .ref l ∧ y = .int (n : Int) ∧ H l = some (.lst [v]) ∧ n ≤ 1000000 ∧ ∀ p, H p = none → sysModules < p → Q (.ref p) (upd H p (.lst (List.replicate n v)))
theorem op_repN : OpR X (binaryOp .Mult) rRepN := by
  rintro pins s σ H x y v u Q I rx ry ⟨l, m, w, rfl, rfl, hH, hm, q⟩
  cases rx
  obtain ⟨t, rfl⟩ := ry
  obtain ⟨z, its, n, r, hl, e⟩ := I.lstM hH
  have h1 : (1 : Nat) = its.length := hl
  obtain ⟨k, hk⟩ : ∃ k : Int, k = (m : Int) := ⟨_, rfl⟩
  have hkm : k.toNat = m := by omega
  rw [← hk]
  have hms : its.toArray.size * k.toNat ≤ sizeLine := by
    rw [List.size_toArray, ← h1, hkm, sizeLine_eq]
    omega
  have c1 : ¬ (!Builtin.List.listFitsIndex k) = true := by
    rw [fitsIndex_both (by omega) (by omega)]
    exact Bool.false_ne_true
  have c2 : ¬ its.toArray.size * k.toNat > (2 ^ 63 - 1) / 8 := by
    rw [List.size_toArray, ← h1, hkm]
    omega
  have c3 : ¬ Builtin.List.listTooLong (its.toArray.size * k.toNat) = true := by
    rw [notLongL hms]
    exact Bool.false_ne_true
  have ez : List.foldl (fun x1 x2 => x1 ++ x2) #[] (List.replicate (if its.toArray.isEmpty = true then 0 else k.toNat) its.toArray) = (List.replicate m its).flatten.toArray := by
    cases its with
    | nil => simp at h1
    | cons a r' => rw [if_neg (by simp), size_rep, hkm]
  refine wpAny_binaryOp_repeat_ref (T := "list") (U := "int") (by decide) ⟨_, e, rfl⟩ (fun s' => typeIs_int s' k t) noFill_list_mul F.fills_int_mul F.slot_int_rmul repeat_list F.slot_int_index.lookup
    (call_meets F.slot_int_rmul (typeIs_int s k t) F.entry_int_rmul (F.args_int_rmul_2 _ _)
      (int___rmul___int_list k t l its.toArray n) ⟨e, rfl, ⟨_, e, rfl⟩, call_meets F.slot_list_mul ⟨_, e, rfl⟩ F.entry_list_mul (F.args_list_mul_2 _ _)
        (AutoListH.list___mul___list_int_3 l its.toArray n k t c1 c2 c3) ⟨e, ?_⟩⟩)
  rw [ez]
  have rr : Vals (List.replicate m w) (List.replicate m its).flatten := by
    cases r with
    | cons rw' rn =>
      cases rn
      rw [flat1]
      exact vals_rep rw' m
  exact ⟨.ref _, _, I.lnew (t' := s.toks) rr (by rw [List.length_replicate]; rw [List.size_toArray, ← h1, hkm] at hms; omega), rfl, q _ I.fresh I.big⟩
end
section
variable {K : Frag} {σ : L2.St} {H : Hp} {te : TE}
def EvLN (te : TE) (σ : L2.St) (H : Hp) (xs : List V) : Prop := ∀ H1, Ex H H1 → ∀ Q : VK, (∀ p H2, H1 p = none → sysModules < p → Ex H1 H2 → H2 p = some (.lst xs) → Q (.ref p) H2) → te σ H1 Q
theorem eln_catV {t2 : TE} {i : Nat} {p : Addr} {xs ys : List V} (h : σ[i]? = some (some (.ref p))) (hp : H p = some (.lst xs)) (h2 : EvL t2 σ H ys) (hl : xs.length + ys.length ≤ 100000) : EvLN (tOp (rCatN K) (tVar i) t2) σ H (xs ++ ys) := fun H1 e Q q =>
  ⟨_, h, h2 H1 e _ fun p' H3 n3 e3 hp' => ⟨p, p', xs, ys, rfl, rfl, .inl (.inl (e3 _ _ (e _ _ hp))), .inl (.inl hp'), sz_of hl, fun l hl' hs => q l _ (fresh_back e3 hl') hs (e3.trans (Ex.new hl')) upd_same⟩⟩
theorem EvLN.l {xs : List V} (h : EvLN te σ H xs) : EvL te σ H xs := fun H1 e Q q => h H1 e Q fun p H2 n _ e2 hp => q p H2 n e2 hp
/-- [x] * n -/
theorem eln_rep {n : Nat} {v : V} (h : Ev te σ H v) (hn : n ≤ 1000000) : EvLN (tOp rRepN (tLst (tCons te tNil)) (tC (.int (n : Int)))) σ H (List.replicate n v) := fun H1 e Q q =>
  h H1 e _ fun H2 e2 => ⟨(by show 1 ≤ sizeLine; decide), fun p hp => ⟨p, n, v, rfl, rfl, upd_same, hn, fun r hr hs => q r _ (fresh_back (e2.trans (Ex.new hp)) hr) hs ((e2.trans (Ex.new hp)).trans (Ex.new hr)) upd_same⟩⟩
end
end BJ

/-! the law's call where the text makes lambdas: the tables of the code objects are tracked from the start -/
namespace BJ
open PySem PySem.Spec PyProof.Rows L2 LamX
open PySem.W (Frag)
/-- the tables, and the script unless it is written -/
def hpT (K : Frag) (T : List Addr) (a : Addr) (u : HO) : Hp := fun b => if b ∈ T then some (.tbl #[]) else if K.lookup a = none ∧ b = a then some u else none
theorem hpT_in {K : Frag} {T : List Addr} {a b : Addr} {u : HO} (h : b ∈ T) : hpT K T a u b = some (.tbl #[]) := if_pos h
theorem hpT_a {K : Frag} {T : List Addr} {a : Addr} {u : HO} (h : a ∉ T) (hk : K.lookup a = none) : hpT K T a u a = some u := (if_neg h).trans (if_pos ⟨hk, rfl⟩)
theorem hpT_some {K : Frag} {T : List Addr} {a b : Addr} {u v : HO} (h : hpT K T a u b = some v) : (b ∈ T ∧ v = .tbl #[]) ∨ (b ∉ T ∧ K.lookup a = none ∧ b = a ∧ v = u) := by
  unfold hpT at h
  by_cases hb : b ∈ T
  · rw [if_pos hb] at h
    cases h
    exact .inl ⟨hb, rfl⟩
  · rw [if_neg hb] at h
    by_cases h2 : K.lookup a = none ∧ b = a
    · rw [if_pos h2] at h
      cases h
      exact .inr ⟨hb, h2.1, h2.2, rfl⟩
    · rw [if_neg h2] at h
      cases h
theorem lawGT {P : Program} {w : World} {K : Frag} {mg mb : Str → Option Value} {k : Nat} {fa a : Addr} {cs : List (Addr × Addr)} {sp : Sp} {s₁ : Shared} {vs : List Value} {ns : List Int}
    (KX : K.In s₁.heap) (hns : s₁.heap.Ns mainGlobals mg) (hb : s₁.heap.Ns builtinsNs mb) (hbb : ∀ x : Str, x ≠ "__name__" → mb x = bootBuiltins x) (hlim : s₁.heap.NoLimit) (hg : s₁.gens = #[])
    (hT : ∀ p ∈ cs, s₁.heap.get? p.2 = some { cls := .none, data := .fields #[] }) (nT : ∀ p ∈ cs, K.lookup p.2 = none) (C : ∀ p ∈ cs, PySem.W.CodeHd s₁.heap p.1 p.2)
    (hbm : ∃ (bm : Addr) (ob : Obj), mg "__builtins__" = some (.ref bm) ∧ bm ≠ builtinsNs ∧ s₁.heap.get? bm = some ob ∧ ob.cls = .type "module" ∧ ob.dict = some builtinsNs ∧ ob.data = .plain)
    (ha : s₁.heap.get? a = some { cls := .type "list", data := .seq vs.toArray }) (hi : IntsAre vs ns) (hl : ns.length ≤ sizeLine) (hr : Room k callerA)
    (F : ∀ base : Heap, K.In base → base.Ns mainGlobals mg → (∀ p ∈ cs, TabB base mg p.1 p.2) → CallP P w K mg base k (.ref fa) sp)
    (hsp : ∀ H : Hp, (∀ p ∈ cs, H p.2 = some (.tbl #[])) → Scr K H a (ns.map V.int) → sp [.ref a] H (fun v _ => v = .bl true) fun _ _ _ => False) :
    codeAny (model P w) callerA (.call (.ref fa) ⟨[.ref a], []⟩) (fun r s' => r = .ok (.ret (.bool true)) ∧ OldK s₁.heap s'.heap ∧ s'.os = s₁.os ∧ AllBare s'.gens) s₁ := by
  have rv := vals_ints hi
  have lenV := hi.length
  generalize hTe : cs.map (·.2) = T
  have memT : ∀ p ∈ cs, p.2 ∈ T := fun p hp => hTe ▸ List.mem_map.mpr ⟨p, hp, rfl⟩
  have fromT : ∀ b ∈ T, ∃ p ∈ cs, p.2 = b := fun b hb => List.mem_map.mp (hTe ▸ hb)
  have isT : ∀ b ∈ T, s₁.heap.get? b = some { cls := .none, data := .fields #[] } := fun b hb => by
    obtain ⟨p, hp, rfl⟩ := fromT b hb
    exact hT p hp
  have aT : a ∉ T := fun z => by
    have q := (isT a z).symm.trans ha
    cases q
  obtain ⟨H, hH⟩ : ∃ H : Hp, H = hpT K T a (.frz { cls := .type "list", data := .seq vs.toArray } (.lst (ns.map V.int))) := ⟨_, rfl⟩
  -- what is tracked is a table or the script
  have free : ∀ {b : Addr} {o : Obj}, s₁.heap.get? b = some o → o.data ≠ .fields #[] → o.data ≠ .seq vs.toArray → H b = none := fun {b o} e h1 h2 => by
    cases q : H b with
    | none => rfl
    | some u =>
      rw [hH] at q
      rcases hpT_some q with ⟨hb', _⟩ | ⟨_, _, rfl, _⟩
      · rw [isT b hb'] at e
        cases e
        exact (h1 rfl).elim
      · rw [ha] at e
        cases e
        exact (h2 rfl).elim
  have keepB : ∀ {b : Addr} {o : Obj}, s₁.heap.get? b = some o → H b = none → (hidT s₁.heap H).get? b = some o := fun e n => hidT_get e n
  have nsK : ∀ {b : Addr} {m : Str → Option Value}, s₁.heap.Ns b m → (hidT s₁.heap H).Ns b m := by
    rintro b m ⟨o, es, ep, e, d, r⟩
    exact ⟨o, es, ep, keepB e (free e (fun z => by rw [d] at z; cases z) fun z => by rw [d] at z; cases z), d, r⟩
  have kin : K.In (hidT s₁.heap H) := by
    intro b o e
    refine keepB (KX b o e) ?_
    cases q : H b with
    | none => rfl
    | some u =>
      rw [hH] at q
      rcases hpT_some q with ⟨hb', _⟩ | ⟨_, hk, rfl, _⟩
      · obtain ⟨p, hp, rfl⟩ := fromT b hb'
        rw [nT p hp] at e
        cases e
      · rw [hk] at e
        cases e
  obtain ⟨mc, l1, l2⟩ := id hlim
  have md : Mod K mg (hidT s₁.heap H) := ⟨kin, nsK hns, ⟨mb, nsK hb, hbb⟩, ⟨mc, nsK l1, l2⟩⟩
  have TB : ∀ p ∈ cs, TabB (hidT s₁.heap H) mg p.1 p.2 := fun p hp => by
    have hTp := hT p hp
    obtain ⟨og, esg, epg, eg, dg, _⟩ := id hns
    refine ⟨?_, ?_, fun z => ?_⟩
    · obtain ⟨o, us, file, tf, flags, tg, inF, text, tt, e1, r1, r2, r3, r⟩ := C p hp
      exact ⟨o, us, file, tf, flags, tg, inF, text, tt, keepB e1 (free e1 (fun z => by rw [r2] at z; cases z; simp at r3) fun z => by rw [r2] at z; cases z), r1, r2, r3, r⟩
    · obtain ⟨bm, ob, b1, b2, b3, b4, b5, b6⟩ := hbm
      refine ⟨bm, ob, b1, b2, fun q => ?_, fun q => ?_, keepB b3 (free b3 (fun z => by rw [b6] at z; cases z) fun z => by rw [b6] at z; cases z), b4, b5, b6⟩
      · rw [q, eg] at b3
        cases b3
        rw [dg] at b6
        cases b6
      · rw [q, hTp] at b3
        cases b3
        cases b6
    · rw [z, hTp] at eg
      cases eg
      cases dg
  have hok : HOk P w H s₁.heap := fun b u z => by
    rw [hH] at z
    rcases hpT_some z with ⟨hb', rfl⟩ | ⟨_, _, rfl, rfl⟩
    · exact isT b hb'
    · exact ⟨ha, by rw [List.length_map]; exact hl, vs, _, rv, ha⟩
  have hS : Scr K H a (ns.map V.int) := by
    cases hk : K.lookup a with
    | some o =>
      have e := KX a o hk
      rw [ha] at e
      cases e
      exact .inr ⟨vs, 0, hk, rv, by rw [List.length_map]; exact hl⟩
    | none => exact .inl (.inr ⟨_, by rw [hH]; exact hpT_a aT hk⟩)
  have hHT : ∀ p ∈ cs, H p.2 = some (.tbl #[]) := fun p hp => by rw [hH]; exact hpT_in (memT p hp)
  have e0 : Env0 P w K mg (hidT s₁.heap H) callerA [] s₁ H :=
    ⟨rfl, md, fun b o e => of_hidT e, Nat.le_of_eq (hidT_size _ _), trivial, (fun b hb => absurd (show b ∈ ([] : List Addr) from hb) (by simp)), hok, AllBare.of_eq hg⟩
  refine codeAny_mono (F _ kin (nsK hns) TB callerA [] s₁ H [.ref a] [] [.ref a] [] _ _ hr rfl e0 (.cons rfl .nil) .nil ⟨rfl, hsp H hHT hS⟩) ?_
  intro r s' h
  match r, h with
  | .error e, ⟨_, _, _, _, _, _, _, _, _, _, _, _, z⟩ => exact z.elim
  | .ok (.ret u), ⟨v, H', os, bare, un, hok', r', q⟩ =>
    obtain rfl : v = .bl true := q
    obtain rfl : u = Value.bool true := r'
    have key : ∀ b o, b ∉ T → s₁.heap.get? b = some o → s'.heap.get? b = some o := fun b o nb e => by
      cases q : H b with
      | none => exact un.keep b o e q (fun z => nomatch (show b ∈ ([] : List Addr) from z)) (fun z => nomatch z)
      | some u =>
        have q' := q
        rw [hH] at q'
        rcases hpT_some q' with ⟨hb', _⟩ | ⟨_, _, rfl, rfl⟩
        · exact absurd hb' nb
        · have e1 := (hok b _ q).1
          have e2 := (hok' b _ (un.frzs b _ _ q)).1
          rw [e] at e1
          cases e1
          exact e2
    have grown : ∀ p ∈ cs, ∃ more : Array Value, s'.heap.get? p.2 = some { cls := .none, data := .fields more } := fun p hp => by
      obtain ⟨more, z⟩ := un.tbls p.2 #[] (hHT p hp)
      exact ⟨_, hok' p.2 _ z⟩
    refine ⟨rfl, ⟨fun b o e => ?_, fun b o e => ?_⟩, os, bare⟩
    · by_cases hb' : b ∈ T
      · obtain ⟨p, hp, rfl⟩ := fromT b hb'
        obtain ⟨more, hm⟩ := grown p hp
        rw [hT p hp] at e
        cases e
        exact .inr (.inl ⟨((C p hp).tab (hT p hp)).isCodeTable, rfl, #[], more, rfl, by rw [Array.empty_append]; exact hm⟩)
      · exact .inl (key b o hb' e)
    · by_cases hb' : b ∈ T
      · obtain ⟨p, hp, rfl⟩ := fromT b hb'
        obtain ⟨more, hm⟩ := grown p hp
        exact ⟨_, hm⟩
      · exact ⟨o, key b o hb' e⟩
open PySem.W in
/-- the end of a proof, the text making lambdas -/
theorem walkGT {l : OpenLaw} {n k : Nat} {q : Program} {loose : List Str} {XP : (Str → Option Value) → Heap → Prop} {YP : World → Heap → Prop} {d : DefRec} {K : Params → Frag}
    (hn : l.most = some n) (hn2 : n ≤ sizeLine) (hdf : d.params.defaults = []) (hr : Room k callerA) (hY : ∀ (w : World) (h : Heap), YP w h → (K w.params).In h)
    (F : ∀ (w : World) (mg : Str → Option Value) (fa : Addr) (h : Heap), YP w h → (K w.params).In h → h.Ns mainGlobals mg → mg d.name = some (.ref fa) →
      ∃ (cs : List (Addr × Addr)) (sp : Sp), (∀ p ∈ cs, h.get? p.2 = some { cls := .none, data := .fields #[] }) ∧ (∀ p ∈ cs, (K w.params).lookup p.2 = none) ∧ (∀ p ∈ cs, PySem.W.CodeHd h p.1 p.2) ∧
        (∀ (H : Hp) (a : Addr) (ns : List Int), ns.length ≤ n → (∀ z ∈ ns, Builtin.Int.intBits z ≤ 1048576) → (∀ p ∈ cs, H p.2 = some (.tbl #[])) → Scr (K w.params) H a (ns.map V.int) → sp [.ref a] H (fun v _ => v = .bl true) fun _ _ _ => False) ∧
        ∀ base : Heap, (K w.params).In base → base.Ns mainGlobals mg → (∀ p ∈ cs, TabB base mg p.1 p.2) → CallP l.prog w (K w.params) mg base k (.ref fa) sp) :
    WalkO q loose XP YP l.row.toRowW d [] (fun f vs => PySem.call f vs) := by
  refine Att.attach_callB hn hdf fun w s₀ s₁ mg mb fa o pm cd doc a vs ns G Y ho hd hcd hmg hobj hints hlen hbits hg => ?_
  have KX := hY w _ Y
  obtain ⟨cs, sp, hT, nT, C, hsp, hF⟩ := F w mg fa _ Y KX G.T.g hmg
  exact lawGT KX G.T.g G.T.b G.T.builtins G.T.nolimit hg hT nT C G.T.bmain hobj hints (Nat.le_trans hlen hn2) hr hF fun H hH hS => hsp H a ns hlen hbits hH hS
end BJ

/-! defs whose promise holds for every Around (they call no repr); written dicts of text keys -/
namespace BJ
open PySem PySem.Spec PyProof.Rows L2 Evl
open PySem.W (Frag)
/-- a promise for every Around -/
def CallO (P : Program) (w : World) (K : Frag) (mg : Str → Option Value) (base : Heap) (k : Nat) (u : Value) (sp : Sp) : Prop :=
  ∀ (A : Around) (outer : List Env) (s : Shared) (H : Hp) (us : List Value) (vs : List V) (Q : VK) (E : XK),
    Room k A → Env0 P w K mg base A outer s H → Vals vs us → sp vs H Q E → codeAny (model P w) A (.call u ⟨us, []⟩) (CR (L2.CX P w) outer P w H s Q E) s
section
variable {P : Program} {w : World} {K : Frag} {mg : Str → Option Value} {base : Heap}
theorem CallO.mono {j k : Nat} {u : Value} {sp : Sp} (F : CallO P w K mg base j u sp) (h : j ≤ k) : CallO P w K mg base k u sp := fun A o s H us vs Q E hr => F A o s H us vs Q E (hr.mono h)
theorem CallO.p {k : Nat} {u : Value} {sp : Sp} (F : CallO P w K mg base k u sp) : CallP P w K mg base k u sp := by
  rintro A outer s H us ws vs zs Q E room hg e0 rel relz ⟨rfl, prom⟩
  cases relz
  exact F A outer s H us vs Q E room e0 rel prom
theorem FnG.ofOk {k : Nat} {f : Addr} {fd : FuncData} {ps : List Str} {sp : Sp} (F : FnOk P w K mg base (L2.CX P w) k f fd ps sp) : FnG P w K mg base k f fd ps sp :=
  ⟨F.len, fun A o s H a us vs Q E hr _ => F.run A o s H a us vs Q E hr⟩
/-- the rule for a def, for every Around -/
theorem DefAt.okX {x qual : Str} {st : Stmt} {f : Addr} {N ps : List Str} {k : Nat} {sp : Sp} (D : DefAt K x qual st f ps) (S : FnScope N ps (defScope st))
    (len : ∀ vs H Q E, sp vs H Q E → vs.length = ps.length)
    (hbody : ∀ (cdv : Value) (A : Around) (outer : List Env) (s : Shared) (H : Hp) (vs : List V) (Q : VK) (E : XK),
      Room k (A.deeper (envOfC qual (defScope st) s.heap.objs.size f cdv)) → sp vs H Q E →
      ∃ t, PSs (cxOf (L2.CX P w) P w K mg base N qual (defScope st) f cdv A outer s H E) (defBody st) t ∧ t { nx := fun _ H' => Q .non H', rt := Q } (start N vs) H) :
    ∃ fd, FnOk P w K mg base (L2.CX P w) (k + 1) f fd ps sp ∧ Binds K fd ps [] ∧ Fun K x qual st f fd := by
  obtain ⟨fd, F, hb⟩ := D.fn
  exact ⟨fd, F.okX S len hbody, hb, F⟩
theorem fnO {x qual : Str} {st : Stmt} {f : Addr} {k : Nat} {ps : List Str} {sp : Sp} (h : ∃ fd, FnOk P w K mg base (L2.CX P w) k f fd ps sp ∧ Binds K fd ps [] ∧ Fun K x qual st f fd) : CallO P w K mg base k (.ref f) sp := by
  obtain ⟨fd, F, hb, _⟩ := h
  intro A outer s H us vs Q E room e0 rel prom
  have hl : (us ++ []).length = ps.length := by
    rw [List.append_nil]
    exact rel.length.symm.trans (F.len _ _ _ _ prom)
  have KX : K.In s.heap := e0.mod.kin.keeps fun b o e => (e0.bs b o e).1
  have b := hb s us KX hl
  rw [List.append_nil] at b
  exact F.run A outer s H ⟨us, []⟩ us vs Q E room e0 b rel prom
theorem fnOG {x qual : Str} {st : Stmt} {f : Addr} {k : Nat} {ps : List Str} {sp : Sp} (h : ∃ fd, FnOk P w K mg base (L2.CX P w) k f fd ps sp ∧ Binds K fd ps [] ∧ Fun K x qual st f fd) : ∃ fd, FnG P w K mg base k f fd ps sp ∧ Binds K fd ps [] ∧ Fun K x qual st f fd := by
  obtain ⟨fd, F, r⟩ := h
  exact ⟨fd, FnG.ofOk F, r⟩
end
section
variable {X : Cx} {k : Nat} {u : Value} {sp : Sp} {W : WX} {x : Str} {p pos : Pos} {e : Expr} {es : List Expr} {t : TA}
theorem run_callO {pins : List (Addr × Obj)} {σ : L2.St} {H : Hp} {s : Shared} {Q : VK} {us : List Value} {vs : List V}
    (F : CallO X.prog X.w X.K X.mg X.base k u sp) (hr : Room k X.A) (tkW : Takes X W) (I : Inv X pins σ H s) (r : Vals vs us) (h : sp vs H Q fun cls d H' => W cls d σ H') :
    wpAny (model X.prog X.w) X.A (call u us) (EP X pins σ Q) X.xe s := by
  refine wpAny_call (codeAny_mono (F X.A X.stack s H us vs Q _ hr I.env0 r h) ?_)
  intro res s' hq
  match res, hq with
  | .error e, hq => exact tkW e s' (XE.of_call I (fun _ _ _ z => z) hq)
  | .ok (.ret u), hq => exact I.after hq
/-- f(e, ..) by such a promise -/
theorem pe_co (F : CallO X.prog X.w X.K X.mg X.base k u sp) (hr : Room k X.A) (hg : Gl X x) (hm : X.mg x = some u)
    (hk : PySem.W.keepIn X.K u = true) (tkW : Takes X W) (ha : PA X (e :: es) t) (hdb : (x == ("__debug__" : Str)) = false := by decide)
    (he : starEach (e :: es) X.env = (false, eval e X.env) :: starEach es X.env := by rfl)
    (hpl : (backTo pos (starEach es X.env)).any (·.1) = false := by rfl) : PE X (.Call (.Name x p) (e :: es) [] pos) (tCa sp W t) where
  run := by
    intro pins s σ H Q I h
    refine wpAny_Call_Name_kw (ld_glob I hg hm ?_ hdb)
    refine PySem.W.callWith_K (h₀ := X.base) I.ok.mod.kin hk (thn (ha.run pos pins s σ H _ I h) ?_) he hpl
    rintro us s1 ⟨vs, H1, I1, r, q⟩
    exact ⟨I1.kIn, run_callO F hr tkW I1 r q⟩
end
/-- the written dict at a, its keys texts -/
structure KD (K : Frag) (w : World) (a : Addr) : Prop where
  ex : ∃ es n, K.lookup a = some ⟨.type "dict", none, .dict es n, #[]⟩ ∧ PySem.W.KeysLit w.params es.toList
  low : (a == sysModules) = false
section
variable {X : Cx}
/-- text in d, d written -/
def rInKD (K : Frag) (w : World) (neg : Bool) : R2 := fun x y H Q => ∃ (z : Str) (a : Addr) (r : Option Value), x = .str z ∧ y = .ref a ∧ KD K w a ∧ PySem.W.nsIn K a z = some r ∧ Q (.bl (if neg then !r.isSome else r.isSome)) H
theorem op_inKD : OpR X (compareOp .In) (rInKD X.K X.w false) := by
  rintro pins s σ H x y v u Q I rx ry ⟨z, a, r, rfl, rfl, ⟨⟨es, n, hl, hk⟩, low⟩, hn, q⟩
  obtain ⟨t, rfl⟩ := rx
  cases (show u = Value.ref a from ry)
  have hm := PySem.W.mapOf_K (prog := X.prog) (w := X.w) I.kIn hl hk
  refine wpAny_in_of (strKind_is X.prog X.w z t) low hm ⟨_, H, I.tok _, ?_, q⟩
  have e := PySem.W.find_K hl hn
  show Value.bool _ = Value.bool _
  rw [e]
  rfl
end
end BJ

/-! written tuples of tuples, written dicts of text keys: what they hold, read off the written part -/
namespace BJ
open PySem PySem.Spec PyProof.Rows L2 Evl
open PySem.W (Frag)
def atomV : Value → Option V
  | .int i _ => some (.int i)
  | .str x _ => some (.str x)
  | _ => none
theorem atomV_rel {u : Value} {v : V} (h : atomV u = some v) : RelV v u := by
  cases u <;> simp [atomV] at h
  · subst h; exact ⟨_, rfl⟩
  · subst h; exact ⟨_, rfl⟩
def tupIn (K : Frag) (a : Addr) : Option (List Value) := match K.lookup a with
  | some ⟨c, _, .seq its _, _⟩ => if (c == .type "tuple") && decide (its.size ≤ 1000) then some its.toList else none
  | _ => none
theorem tupIn_at {K : Frag} {a : Addr} {l : List Value} (h : tupIn K a = some l) : ∃ (o : Obj) (its : Array Value) (n : Nat), K.lookup a = some o ∧ o.cls = .type "tuple" ∧ o.data = .seq its n ∧ its.size ≤ sizeLine ∧ its.toList = l := by
  unfold tupIn at h
  split at h
  · rename_i c dd its n sl e
    split at h
    · rename_i hc
      rw [Bool.and_eq_true] at hc
      cases h
      exact ⟨_, its, n, e, eq_of_beq hc.1, rfl, Nat.le_trans (of_decide_eq_true hc.2) (by decide), rfl⟩
    · cases h
  · cases h
/-- a tuple of atoms -/
def rowIn (K : Frag) : Value → Option (List V)
  | .ref b => (tupIn K b).bind fun l => l.mapM atomV
  | _ => none
def rowsIn (K : Frag) (a : Addr) : Option (List (List V)) := (tupIn K a).bind fun l => l.mapM (rowIn K)
theorem mapM_vals : ∀ {l : List Value} {vs : List V}, l.mapM atomV = some vs → Vals vs l
  | [], vs, h => by
    simp at h
    subst h
    exact .nil
  | u :: l, vs, h => by
    rw [List.mapM_cons] at h
    simp only [Option.bind_eq_bind, Option.bind_eq_some_iff, Option.pure_def, Option.some.injEq] at h
    obtain ⟨v, hv, ws, hw, rfl⟩ := h
    exact .cons (atomV_rel hv) (mapM_vals hw)
theorem rowIn_at {K : Frag} {u : Value} {r : List V} (h : rowIn K u = some r) : ∃ b, u = .ref b ∧ ∀ H : Hp, SqT K H b r := by
  cases u with
  | ref b =>
    obtain ⟨l, h1, h2⟩ := Option.bind_eq_some_iff.mp (show (tupIn K b).bind (fun l => l.mapM atomV) = some r from h)
    obtain ⟨o, its, n, e1, e2, e3, e4, rfl⟩ := tupIn_at h1
    exact ⟨b, rfl, fun H => .inr ⟨o, its, n, e1, e2, e3, e4, mapM_vals h2⟩⟩
  | _ => simp [rowIn] at h
theorem mapM_rows {K : Frag} : ∀ {l : List Value} {rows : List (List V)}, l.mapM (rowIn K) = some rows → ∃ bs : List Addr, Vals (bs.map V.ref) l ∧ bs.length = rows.length ∧ ∀ (i : Nat) (r : List V), rows[i]? = some r → ∃ b, bs[i]? = some b ∧ ∀ H : Hp, SqT K H b r
  | [], rows, h => by
    simp at h
    subst h
    exact ⟨[], .nil, rfl, fun i r h => by simp at h⟩
  | u :: l, rows, h => by
    rw [List.mapM_cons] at h
    simp only [Option.bind_eq_bind, Option.bind_eq_some_iff, Option.pure_def, Option.some.injEq] at h
    obtain ⟨v, hv, ws, hw, rfl⟩ := h
    obtain ⟨bs, hv2, hl, hget⟩ := mapM_rows hw
    obtain ⟨b, rfl, hb⟩ := rowIn_at hv
    refine ⟨b :: bs, .cons rfl hv2, by rw [List.length_cons, List.length_cons, hl], fun i r hi => ?_⟩
    cases i with
    | zero =>
      simp at hi
      subst hi
      exact ⟨b, rfl, hb⟩
    | succ i =>
      simp only [List.getElem?_cons_succ] at hi ⊢
      exact hget i r hi
theorem rowsIn_at {K : Frag} {a : Addr} {rows : List (List V)} (h : rowsIn K a = some rows) : ∃ bs : List Addr, (∀ H : Hp, SqT K H a (bs.map V.ref)) ∧ bs.length = rows.length ∧ ∀ (i : Nat) (r : List V), rows[i]? = some r → ∃ b, bs[i]? = some b ∧ ∀ H : Hp, SqT K H b r := by
  unfold rowsIn at h
  simp only [Option.bind_eq_some_iff] at h
  obtain ⟨l, h1, h2⟩ := h
  obtain ⟨o, its, n, e1, e2, e3, e4, rfl⟩ := tupIn_at h1
  obtain ⟨bs, hv, hl, hg⟩ := mapM_rows h2
  exact ⟨bs, fun H => .inr ⟨o, its, n, e1, e2, e3, e4, hv⟩, hl, hg⟩
/-- the written dict at a, its keys texts, its values atoms, in their order -/
structure KDL (K : Frag) (P : Params) (a : Addr) (L : List (Str × V)) : Prop where
  ex : ∃ es n, K.lookup a = some ⟨.type "dict", none, .dict es n, #[]⟩ ∧ PySem.W.KeysLit P es.toList ∧ es.toList.any (·.refKey) = false ∧ es.toList.map (fun e => (match e.key with | .str x _ => x | _ => Str.empty, atomV e.val)) = L.map fun p => (p.1, some p.2)
  low : (a == sysModules) = false
theorem KDL.kd {K : Frag} {w : World} {a : Addr} {L : List (Str × V)} (h : KDL K w.params a L) : KD K w a := by
  obtain ⟨⟨es, n, h1, h2, _⟩, h3⟩ := h
  exact ⟨⟨es, n, h1, h2⟩, h3⟩
theorem find_of : ∀ {es : List DictEntry} {L : List (Str × V)} {P : Params}, PySem.W.KeysLit P es → es.map (fun e => (match e.key with | .str x _ => x | _ => Str.empty, atomV e.val)) = L.map (fun p => (p.1, some p.2)) → ∀ z : Str,
    match es.find? (·.key.isStr z), L.lookup z with
    | some e, some v => atomV e.val = some v
    | none, none => True
    | _, _ => False
  | [], [], _, _, _, z => trivial
  | e :: es, [], _, _, h, z => by simp at h
  | [], p :: L, _, _, h, z => by simp at h
  | e :: es, (x, v) :: L, P, ⟨⟨y, t, hk, hh⟩, hr⟩, h, z => by
    rw [List.map_cons, List.map_cons] at h
    injection h with h1 h2
    have ih := find_of hr h2 z
    rw [hk] at h1
    simp only [Prod.mk.injEq] at h1
    obtain ⟨rfl, h1⟩ := h1
    have ek : e.key.isStr z = (y == z) := by rw [hk]; rfl
    by_cases hz : z = y
    · subst hz
      rw [List.find?_cons_of_pos (by rw [ek]; simp), lookup_cons_if, if_pos rfl]
      exact h1
    · rw [List.find?_cons_of_neg (by rw [ek]; simpa using fun q => hz q.symm), lookup_cons_if, if_neg hz]
      exact ih
theorem KDL.look {K : Frag} {P : Params} {a : Addr} {L : List (Str × V)} (h : KDL K P a L) (z : Str) : match L.lookup z with
    | some v => ∃ u, PySem.W.nsIn K a z = some (some u) ∧ RelV v u
    | none => PySem.W.nsIn K a z = some none := by
  obtain ⟨⟨es, n, h1, h2, h3, h4⟩, _⟩ := h
  have f := find_of h2 h4 z
  have e : PySem.W.nsIn K a z = (match es.toList.find? (·.key.isStr z) with | some e => some (some e.val) | none => some none) := by
    unfold PySem.W.nsIn
    rw [h1]
    dsimp only
    rw [h3]
    rfl
  rw [e]
  cases hf : es.toList.find? (·.key.isStr z) with
  | some en =>
    rw [hf] at f
    cases hl : L.lookup z with
    | some v =>
      rw [hl] at f
      exact ⟨_, rfl, atomV_rel f⟩
    | none => rw [hl] at f; exact f.elim
  | none =>
    rw [hf] at f
    cases hl : L.lookup z with
    | some v => rw [hl] at f; exact f.elim
    | none => rfl
end BJ

/-! a def whose code object is known (it makes lambdas); its table -/
namespace BJ
open PySem PySem.Spec PyProof.Rows L2 Evl
open PySem.W (Frag)
structure DefAtC (K : Frag) (x qual : Str) (st : Stmt) (f c : Addr) (ps : List Str) : Prop where
  fn : ∃ (oc : Value) (od : Option Addr) (kV doc pm : Value) (an : Option Addr) (ct : Value) (osl : Array (Option Value)),
    K.lookup f = some ⟨oc, od, .func (PySem.W.fnOf x qual (defArgs st) (defBody st) (defScope st) .none kV doc pm an (.ref c) ct), osl⟩ ∧ PySem.W.codeIn K (.ref c) qual = true ∧
      Binds K (PySem.W.fnOf x qual (defArgs st) (defBody st) (defScope st) .none kV doc pm an (.ref c) ct) ps []
section
variable {P : Program} {w : World} {K : Frag} {mg : Str → Option Value} {base : Heap}
theorem DefAtC.ok {x qual : Str} {st : Stmt} {f c : Addr} {N ps : List Str} {k : Nat} {sp : Sp} (D : DefAtC K x qual st f c ps) (S : FnScope N ps (defScope st))
    (len : ∀ vs H Q E, sp vs H Q E → vs.length = ps.length)
    (hbody : ∀ (A : Around) (outer : List Env) (s : Shared) (H : Hp) (vs : List V) (Q : VK) (E : XK),
      Room k (A.deeper (envOfC qual (defScope st) s.heap.objs.size f (.ref c))) → A.guards = some [] → sp vs H Q E →
      ∃ t, PSs (cxOf (L2.CX P w) P w K mg base N qual (defScope st) f (.ref c) A outer s H E) (defBody st) t ∧ t { nx := fun _ H' => Q .non H', rt := Q } (start N vs) H) :
    CallP P w K mg base (k + 1) (.ref f) sp := by
  obtain ⟨oc, od, kV, doc, pm, an, ct, osl, lk, hcd, hb⟩ := D.fn
  have F : FnG P w K mg base (k + 1) f (PySem.W.fnOf x qual (defArgs st) (defBody st) (defScope st) .none kV doc pm an (.ref c) ct) ps sp :=
    fnG_of lk hcd S len fun A outer s H vs Q E hr hg hsp => hbody A outer s H vs Q E hr hg hsp
  have q := F.callP (dvs := []) hb .nil
  rintro A outer s H us ws vs zs Q E room hg e0 rel relz ⟨hz, prom⟩
  exact q A outer s H us ws vs zs Q E room hg e0 rel relz ⟨hz, show sp (vs ++ []) H Q E by rw [List.append_nil]; exact prom⟩
end
/-- the table's address in the code object at c -/
def tabOf (K : Frag) (c : Addr) : Option Addr := match K.lookup c with
  | some ⟨_, _, .fields vs, _⟩ => (match vs.getD 11 .none with | .ref p => some p | _ => none)
  | _ => none
end BJ

/-! x(lambda: body), the def that gets it knowing its own slots where the lambda's call raises -/
namespace BJ
open PySem PySem.Spec PyProof.Rows L2 LamX Evl
open PySem.W (Frag)
section
variable {X : Cx} {pins : List (Addr × Obj)} {σ : L2.St} {H : Hp} {s : Shared}
/-- call(), in the def that got the lambda; what is raised is wished at that def's slots -/
theorem pe_act2 {CXg : CXT} {Eg : XK} {Ng : List Str} {qg : Str} {sg : Scope} {g f c' : Addr} {cdg pm ctv : Value} {params : Arguments} {body : Expr} {scope : Scope} {k i : Nat} {a : Str}
    {pn : List (Addr × Obj)} {xe : Value → Shared → Prop} {W : WX} {t : XK → TE} {p1 p2 : Pos} (I : Inv X pins σ H s) (L : LamS X.env.scope scope)
    (hf : s.heap.get? f = some (PySem.W.kla_obj "<lambda>" (X.env.qual ++ "<lambda>") params body scope (cloFrom X.env.cells scope.names []) pm c' ctv)) (hfn : H f = none) (hfr : f ∉ frs X.stack)
    (hbind : bindArgs (PySem.W.kla_fn "<lambda>" (X.env.qual ++ "<lambda>") params body scope (cloFrom X.env.cells scope.names []) pm (.ref c') ctv) ⟨[], []⟩ = pure [])
    (tk : Takes ((cxOf CXg X.prog X.w X.K X.mg X.base Ng qg sg g cdg X.A X.stack s H Eg).tr pn xe) W) (hr : Room (k + 1) (X.A.deeper (envOfC qg sg s.heap.objs.size g cdg)))
    (hbody : ∀ (E : XK) (A : Around) (outer : List Env) (s : Shared) (H : Hp), Room k (A.deeper (lamEnv X scope s.heap.objs.size f c')) → PE (lamCx X A outer s H E scope f c') body (t E))
    (hN : Ng[i]? = some a) (hv : Vis sg a) (hd : (a == ("__debug__" : Str)) = false := by decide) (hcd : (a == ("__classdict__" : Str)) = false := by decide) :
    PE ((cxOf CXg X.prog X.w X.K X.mg X.base Ng qg sg g cdg X.A X.stack s H Eg).tr pn xe) (.Call (.Name a p1) [] [] p2)
      (fun σZ HZ Q => σZ[i]? = some (some (.ref f)) ∧ HZ c' = some (CodeO c' (X.env.qual ++ "<lambda>")) ∧ t (fun cls d H' => W cls d σZ H') σ HZ Q) where
  run := by
    rintro pinsZ sZ σZ HZ Q IZ ⟨hs, hc, ht⟩
    refine wpAny_Call_Name_kw (thn ((pe_var (pos := p1) (i := i) hN hv hd hcd).run pinsZ sZ σZ HZ (fun v H1 => v = .ref f ∧ H1 = HZ) IZ ⟨.ref f, hs, rfl, rfl⟩) ?_)
    rintro u s1 ⟨v, H1, I1, r1, rfl, eH⟩
    rw [eH] at I1
    cases (show u = Value.ref f from r1)
    have nof : f ∉ ([] : List Addr) := fun z => nomatch z
    have atF := I1.base.keep f _ hf hfn hfr nof
    refine PySem.W.callWith_F0 ⟨_, _, _, _, atF⟩ ?_
    have un : Un (frs X.stack) [] H HZ s.heap s1.heap := I1.base
    obtain ⟨⟨oc, cvs, ct, hoc, hdc, hvc⟩, _, _⟩ := I1.hok c' _ hc
    have go : codeAny (model X.prog X.w) (X.A.deeper (envOfC qg sg s.heap.objs.size g cdg)) (.call (.ref f) ⟨[], []⟩)
        (CR (L2.CX X.prog X.w) (envOfC qg sg s.heap.objs.size g cdg :: X.stack) X.prog X.w HZ s1 Q fun cls d H' => W cls d σZ H') s1 := by
      refine PySem.W.kla_callFunE hr.depth atF rfl L.co L.gen rfl ⟨c', oc, cvs, ct, rfl, hoc, hdc, hvc⟩ ?_
      rw [hbind]
      refine wpAny_pure (wpAny_newFunctionEnv (fun y hy => (L.own y hy).2) (fun y hy => absurd hy (by simp)) (fun h₁ hns hsb => ⟨I1.nolimit.fresh _ hsb, ?_⟩) L.kind)
      show codeAny _ _ (.expr body (lamEnv X scope s1.heap.objs.size f c')) _ _
      have grow : ∀ b o, s1.heap.get? b = some o → h₁.get? b = some o := fun b o e =>
        hsb.extBut b o (Nat.ne_of_lt (Heap.lt_size e)) (Heap.get?_push_of_some _ e)
      have J := lam_start2 (E := fun cls d H' => W cls d σZ H') (f := f) (c' := c') I L I1.env0 hr.hd un hns grow (tk := s1.toks + ([] : List (Str × Value)).length)
      refine PySem.W.kla_codeExpr (wpAny_mono ((hbody (fun cls d H' => W cls d σZ H') _ _ s1 HZ (hr.deeper _)).run [] _ _ HZ Q J ht) ?_ fun e s' hq => hq)
      rintro v s' ⟨w', H', J', rv, q⟩
      exact ⟨w', H', J'.os, J'.bare, J'.base, J'.hok, rv, q⟩
    refine wpAny_call (codeAny_mono go ?_)
    intro res s' hq
    match res, hq with
    | .error e, hq => exact tk e s' (XE.of_call I1 (fun _ _ _ z => z) hq)
    | .ok (.ret u), hq => exact I1.after hq
end
/-- what such a def gives, the lambda's call known by tl -/
def Gives2 (X : Cx) (Ng : List Str) (x : Str) (sg : Scope) (g : Addr) (cdg : Value) (bg : List Stmt) (a : Str) (q : Str) (TT : (XK → Hp → VK → Prop) → Hp → VK → Prop) : Prop :=
  ∀ (f c' : Addr) (s : Shared) (H : Hp) (Q : VK) (tl : XK → Hp → VK → Prop),
    (∀ (W : WX) (pn : List (Addr × Obj)) (xe : Value → Shared → Prop) (p1 p2 : Pos), Takes ((cxOf CX0 X.prog X.w X.K X.mg X.base Ng x sg g cdg X.A X.stack s H E0).tr pn xe) W →
      PE ((cxOf CX0 X.prog X.w X.K X.mg X.base Ng x sg g cdg X.A X.stack s H E0).tr pn xe) (.Call (.Name a p1) [] [] p2)
        (fun σZ HZ Q => σZ[0]? = some (some (.ref f)) ∧ HZ c' = some (CodeO c' q) ∧ tl (fun cls d H' => W cls d σZ H') HZ Q)) →
    H c' = some (CodeO c' q) → TT tl H Q →
    ∃ t, PSs (cxOf CX0 X.prog X.w X.K X.mg X.base Ng x sg g cdg X.A X.stack s H E0).nox bg t ∧ t { nx := fun _ H' => Q .non H', rt := Q } (L2.start Ng [.ref f]) H
section
variable {X : Cx}
/-- x(lambda: body) -/
theorem pe_lam2 {T : List (Addr × Str)} {TT : (XK → Hp → VK → Prop) → Hp → VK → Prop} {x a : Str} {g c P : Addr} {k : Nat} {pg : Arguments} {bg : List Stmt} {sg : Scope} {dV kV doc pm cdv ct oc : Value} {an od : Option Addr}
    {osl : Array (Option Value)} {Ng : List Str} {params : Arguments} {body : Expr} {scope : Scope} {t : XK → TE} {p lpos pos : Pos} (hg : Gl X x) (hm : X.mg x = some (.ref g)) (hk : PySem.W.keepIn X.K (.ref g) = true)
    (lk : X.K.lookup g = some ⟨oc, od, .func (PySem.W.fnOf x x pg bg sg dV kV doc pm an cdv ct), osl⟩) (hcg : PySem.W.codeIn X.K cdv x = true) (hb : L2.Binds X.K (PySem.W.fnOf x x pg bg sg dV kV doc pm an cdv ct) [a] [])
    (Sg : FnScope Ng [a] sg) (hNg : Ng[0]? = some a) (hva : Vis sg a) (hG : Gives2 X Ng x sg g cdv bg a (X.env.qual ++ "<lambda>") TT) (TB : TabB X.base X.mg c P) (hcode : X.env.code = .ref c)
    (hmT : (P, X.env.qual ++ "<lambda>") ∈ T) (hu : ∀ p ∈ T, p.1 = P → p.2 = X.env.qual ++ "<lambda>") (hr : Room (k + 2) X.A) (L : LamS X.env.scope scope) (hdef : defaultsOf params X.env = ([], []))
    (hbind : ∀ (q : Str) (cl : List (Str × Addr)) (pm cv ctv : Value), bindArgs (PySem.W.kla_fn "<lambda>" q params body scope cl pm cv ctv) ⟨[], []⟩ = pure [])
    (hbody : ∀ (E : XK) (A : Around) (outer : List Env) (s : Shared) (H : Hp) (f c' : Addr), Room k (A.deeper (lamEnv X scope s.heap.objs.size f c')) → PE (lamCx X A outer s H E scope f c') body (t E))
    (hdb : (x == ("__debug__" : Str)) = false := by decide) (hd : (a == ("__debug__" : Str)) = false := by decide) (hcd : (a == ("__classdict__" : Str)) = false := by decide) :
    PE X (.Call (.Name x p) [.Lambda params body scope lpos] [] pos) (tLam T TT t) where
  run := by
    rintro pins s σ H Q I ⟨hT, h⟩
    refine wpAny_Call_Name_kw (ld_glob I hg hm ?_ hdb)
    refine PySem.W.callWith_K (h₀ := X.base) I.ok.mod.kin hk ?_ (by rfl) (by rfl)
    show wpAny _ _ (spliced ((false, eval (.Lambda params body scope lpos) X.env) :: backTo pos (starEach [] X.env))) _ _ s
    refine Calls.spliced_cons (lam_make2 I TB hcode hmT hu hT hdef (L.has I.ok) ?_)
    intro f c' pm' ctv H1 s' I1 eN T1 hf hfn hfr hco
    refine Calls.spliced_nil ⟨I1.kIn, ?_⟩
    have go : codeAny (model X.prog X.w) X.A (.call (.ref g) ⟨[.ref f], []⟩) (CR CX0 X.stack X.prog X.w H1 s' Q E0) s' := by
      refine run_ofS (N := Ng) (ps := [a]) (us := [.ref f]) (vs := [.ref f]) lk hcg Sg hr I1.env0 (hb s' [.ref f] I1.kIn rfl) (.cons rfl .nil) rfl fun hr' => ?_
      obtain ⟨t', ht', hq'⟩ := hG f c' s' H1 Q (fun E H' Q' => t E σ H' Q') (fun W pn xe p1 p2 tk =>
        pe_act2 (i := 0) I1 L hf hfn hfr (hbind _ _ _ _ _) tk hr' (fun E A outer s H hr2 => hbody E A outer s H f c' hr2) hNg hva hd hcd) hco (h H1 eN T1)
      exact ⟨t', ht'.nox, hq'⟩
    refine wpAny_call (codeAny_mono go ?_)
    intro res s2 hq
    match res, hq with
    | .error e, hq => exact (show False from hq).elim
    | .ok (.ret u), hq => exact I1.after hq
end
end BJ

/-! a def whose body has a token (str.replace asks it); the part of a heap that stands while numbers are drawn and lambdas made -/
namespace BJ
open PySem PySem.Spec PyProof.Rows L2 Evl LamX
open PySem.W (Frag)
section
variable {X : Cx} {e : Expr} {es : List Expr} {te : TE} {t : TA} {pos : Pos}
theorem PAT.of' (h : PA X es t) : PAT X es t := fun pos pins s σ H Q _ I q => h.run pos pins s σ H Q I q
theorem pat_cons2 (h1 : PET X e te) (hr : PAT X es t) (hs : starEach (e :: es) X.env = (false, eval e X.env) :: starEach es X.env := by rfl) : PAT X (e :: es) (tCons te t) := by
  intro pos pins s σ H Q h0 I h
  rw [hs]
  show wpAny _ _ (spliced ((false, eval e X.env) :: backTo pos (starEach es X.env))) _ _ s
  refine Calls.spliced_cons (wpAny_mono (PySem.wpAny_toks (h1 pins s σ H _ h0 I h)) (fun u s1 q => ?_) fun _ _ z => z.2)
  obtain ⟨hk, x, H1, I1, r1, q1⟩ := q
  exact thn (hr pos pins s1 σ H1 _ (Nat.le_trans h0 hk) I1 q1) fun us s2 ⟨xs, H2, I2, r2, q2⟩ => ⟨x :: xs, H2, I2, .cons r1 r2, q2⟩
theorem pet_lst2 (h : PAT X es t) : PET X (.List es pos) (tLst t) := by
  intro pins s σ H Q h0 I hq
  refine wpAny_List_spliced (thn (h pos pins s σ H _ h0 I hq) fun us s1 ⟨xs, H1, I1, r, z, q⟩ => ⟨by rw [← r.length]; exact z, ?_⟩)
  have hf : H1 s1.heap.objs.size = none := I1.hok.fresh (Nat.le_refl _)
  refine ⟨.ref s1.heap.objs.size, upd H1 s1.heap.objs.size (.lst xs), I1.laid (t' := s1.toks) (fun b u e => Heap.get?_push_of_some _ e) (Nat.le_refl _) ?_, rfl, q _ hf⟩
  exact ⟨z, us, 0, r, Heap.get?_push_size _ rfl⟩
theorem pst_set2 {i : Nat} {x : Str} {pos' : Pos} (hN : X.N.Nodup) (hi : X.N[i]? = some x) (hx : Loc X.env.scope x) (he : PET X e te) (hs : swapsWith e (some (.Name x pos')) pos.line X.env = pure false := by rfl) (hf : X.fn x = true ∨ X.env.scope.names.lookup x = some .local := by first | exact .inl rfl | exact .inr rfl | assumption) :
    PST X (.Assign [.Name x pos'] e pos) (tAsg te (gName i)) := by
  intro pins s σ H D h0 I h
  refine wpAny_Assign_Name (thn (he pins s σ H _ h0 I h) fun v s1 ⟨y, H1, I1, r1, q1⟩ => ?_) hs
  exact store_ok I1 hN hi hx r1 (fun s2 I2 => ⟨_, H1, I2, q1⟩) hf
end
section
variable {P : Program} {w : World} {K : Frag} {mg : Str → Option Value} {base : Heap}
/-- the rule for a def of at least one parameter, none of its names a cell: a token is out when the body begins -/
theorem DefAt.okT {x qual : Str} {st : Stmt} {f : Addr} {N ps : List Str} {k : Nat} {sp : Sp} (D : DefAt K x qual st f ps) (S : FnScope N ps (defScope st)) (hnc : ∀ y ∈ (defScope st).names, y.2 ≠ .cell) (hps : 1 ≤ ps.length)
    (len : ∀ vs H Q E, sp vs H Q E → vs.length = ps.length)
    (hbody : ∀ (cdv : Value) (A : Around) (outer : List Env) (s : Shared) (H : Hp) (vs : List V) (Q : VK) (E : XK),
      Room k (A.deeper (envOfC qual (defScope st) s.heap.objs.size f cdv)) → sp vs H Q E →
      ∃ t, PSsT (cxOf (L2.CX P w) P w K mg base N qual (defScope st) f cdv A outer s H E) (defBody st) t ∧ t { nx := fun _ H' => Q .non H', rt := Q } (start N vs) H) :
    ∃ fd, FnOk P w K mg base (L2.CX P w) (k + 1) f fd ps sp ∧ Binds K fd ps [] ∧ Fun K x qual st f fd := by
  obtain ⟨fd, F, hb⟩ := D.fn
  refine ⟨fd, ?_, hb, F⟩
  obtain ⟨oc, od, kV, doc, pm, an, cdv, ct, osl, rfl, lk, hcd⟩ := F.ex
  exact fn_ofT lk hcd S hnc hps len fun A outer s H vs Q E hr hsp => hbody cdv A outer s H vs Q E hr hsp
end
/-! ### what stands while numbers are drawn and lambdas made -/
def cutH (d : Addr) (H : Hp) : Hp := fun p => if p = d then none else match H p with
  | some (.tbl _) => none
  | o => o
/-- S: the draws' dict is not in it, nor a table -/
structure Stab (d : Addr) (S : Hp) : Prop where
  off : S d = none
  tbl : ∀ p ps, S p ≠ some (.tbl ps)
theorem cut_stab (d : Addr) (H : Hp) : Stab d (cutH d H) := ⟨if_pos rfl, fun p ps h => by
  unfold cutH at h
  split at h
  · cases h
  · split at h
    · cases h
    · rename_i hh
      exact hh _ h⟩
theorem cut_ex (d : Addr) (H : Hp) : Ex (cutH d H) H := fun p o h => by
  unfold cutH at h
  split at h
  · cases h
  · split at h
    · cases h
    · exact h
theorem cut_at {d p : Addr} {H : Hp} {o : HO} (h : H p = some o) (hp : p ≠ d) (ht : ∀ ps, o ≠ .tbl ps) : cutH d H p = some o := by
  unfold cutH
  rw [if_neg hp, h]
  cases o <;> first | rfl | exact absurd rfl (ht _)
theorem Stab.to_cut {d : Addr} {S H : Hp} (st : Stab d S) (e : Ex S H) : Ex S (cutH d H) := fun p o h => cut_at (e p o h) (fun q => by rw [q, st.off] at h; cases h) (fun ps q => st.tbl p ps (q ▸ h))
theorem Stab.but {d : Addr} {S H H' : Hp} (st : Stab d S) (e : Ex S H) (b : SameBut d H H') : Ex S H' := fun p o h => b p o (fun q => by rw [q, st.off] at h; cases h) (e p o h)
theorem Stab.extN {d : Addr} {S H H' : Hp} (st : Stab d S) (e : Ex S H) (b : ExtN H H') : Ex S H' := fun p o h => b p o (e p o h) (fun ps q => st.tbl p ps (q ▸ h))
theorem Dr.extN {H H' : Hp} {d c : Addr} {cells : List Int} {n : Nat} (D : Dr H d c cells n) (s : ExtN H H') : Dr H' d c cells n := by
  obtain ⟨⟨a, l, u, h1, h2⟩, hl, hn, hz⟩ := D
  exact ⟨⟨a, l, u, s _ _ h1 (fun ps z => nomatch z), h2⟩, s _ _ hl (fun ps z => nomatch z), hn, hz⟩
theorem Tabs.but {T : List (Addr × Str)} {d : Addr} {H H' : Hp} {kvs : List (Key × V)} (t : Tabs T H) (hd : H d = some (.dK kvs)) (b : SameBut d H H') : Tabs T H' := fun p hp => by
  obtain ⟨ps, h1, h2, h3⟩ := t p hp
  refine ⟨ps, b _ _ (ne_of h1 hd (fun z => nomatch z)) h1, h2, fun pos cv hc => ?_⟩
  obtain ⟨c, e1, e2⟩ := h3 pos cv hc
  exact ⟨c, e1, b _ _ (ne_of e2 hd (fun z => nomatch z)) e2⟩
theorem Dr.atd {H : Hp} {d c : Addr} {cells : List Int} {n : Nat} (D : Dr H d c cells n) : ∃ kvs, H d = some (.dK kvs) := by
  obtain ⟨a, l, u, h, _⟩ := D.dict
  exact ⟨_, h⟩
end BJ

namespace BJL
open PySem PySem.Spec PyProof.Rows L2 BJ
def topS (i : Nat) : Stmt := PySem.Challenge.pw_brinejar_k08_opcodes_by_table.main.body.getD i (.Pass ⟨0, 0, 0, 0⟩)
abbrev s_is_integer : Stmt := topS 9
theorem sc_is_integer : FnScope ["thing"] ["thing"] (defScope s_is_integer) := ⟨rfl, rfl, rfl, by decide +kernel, rfl, by decide +kernel, by decide +kernel⟩
abbrev s_row_of : Stmt := topS 14
theorem sc_row_of : FnScope ["name"] ["name"] (defScope s_row_of) := ⟨rfl, rfl, rfl, by decide +kernel, rfl, by decide +kernel, by decide +kernel⟩
abbrev s_is_opcode_name : Stmt := topS 15
theorem sc_is_opcode_name : FnScope ["thing"] ["thing"] (defScope s_is_opcode_name) := ⟨rfl, rfl, rfl, by decide +kernel, rfl, by decide +kernel, by decide +kernel⟩
abbrev s_is_opcode_number : Stmt := topS 16
theorem sc_is_opcode_number : FnScope ["thing"] ["thing"] (defScope s_is_opcode_number) := ⟨rfl, rfl, rfl, by decide +kernel, rfl, by decide +kernel, by decide +kernel⟩
abbrev s_opcode_names : Stmt := topS 17
theorem sc_opcode_names : FnScope ["name", "version", "form"] [] (defScope s_opcode_names) := ⟨rfl, rfl, rfl, by decide +kernel, rfl, by decide +kernel, by decide +kernel⟩
abbrev s_number_of : Stmt := topS 18
theorem sc_number_of : FnScope ["name"] ["name"] (defScope s_number_of) := ⟨rfl, rfl, rfl, by decide +kernel, rfl, by decide +kernel, by decide +kernel⟩
abbrev s_name_of : Stmt := topS 19
theorem sc_name_of : FnScope ["number"] ["number"] (defScope s_name_of) := ⟨rfl, rfl, rfl, by decide +kernel, rfl, by decide +kernel, by decide +kernel⟩
abbrev s_since : Stmt := topS 20
theorem sc_since : FnScope ["name"] ["name"] (defScope s_since) := ⟨rfl, rfl, rfl, by decide +kernel, rfl, by decide +kernel, by decide +kernel⟩
abbrev s__law_begin : Stmt := topS 22
theorem sc__law_begin : FnScope ["script"] ["script"] (defScope s__law_begin) := ⟨rfl, rfl, rfl, by decide +kernel, rfl, by decide +kernel, by decide +kernel⟩
abbrev s__law_mixed : Stmt := topS 23
theorem sc__law_mixed : FnScope ["cell", "k", "mixed"] ["cell", "k"] (defScope s__law_mixed) := ⟨rfl, rfl, rfl, by decide +kernel, rfl, by decide +kernel, by decide +kernel⟩
abbrev s__law_next : Stmt := topS 24
theorem sc__law_next : FnScope ["draw", "bound", "found", "cells", "cell"] ["draw", "bound"] (defScope s__law_next) := ⟨rfl, rfl, rfl, by decide +kernel, rfl, by decide +kernel, by decide +kernel⟩
abbrev s__law_table : Stmt := topS 25
theorem sc__law_table : FnScope ["found", "row", "words", "at"] [] (defScope s__law_table) := ⟨rfl, rfl, rfl, by decide +kernel, rfl, by decide +kernel, by decide +kernel⟩
abbrev s__law_missed : Stmt := topS 26
theorem sc__law_missed : FnScope ["call", "caught", "found", "e"] ["call"] (defScope s__law_missed) := ⟨rfl, rfl, rfl, by decide +kernel, rfl, by decide +kernel, by decide +kernel⟩
abbrev s__law_odd : Stmt := topS 27
theorem sc__law_odd : FnScope ["draw", "table", "word", "some"] ["draw", "table"] (defScope s__law_odd) := ⟨rfl, rfl, rfl, by decide +kernel, rfl, by decide +kernel, by decide +kernel⟩
abbrev s_law : Stmt := topS 28
theorem sc_law : FnScope ["script", "draw", "table", "word", "begun", "at", "told", "turn", "odd"] ["script"] (defScope s_law) := ⟨rfl, rfl, rfl, by decide +kernel, rfl, by decide +kernel, by decide +kernel⟩
structure Adr where
  is_integer : Addr
  row_of : Addr
  is_opcode_name : Addr
  is_opcode_number : Addr
  opcode_names : Addr
  number_of : Addr
  name_of : Addr
  since : Addr
  _law_begin : Addr
  _law_mixed : Addr
  _law_next : Addr
  _law_table : Addr
  _law_missed : Addr
  _law_odd : Addr
  law : Addr
  JarError : Addr
  StateError : Addr
  MissingError : Addr
  UnknownBrand : Addr
  NoEntry : Addr
  NoName : Addr
  NothingToUndo : Addr
  UnknownBrand_i : Addr
  UnknownBrand_c : Addr
  UnknownBrand_d : Addr
  NoEntry_i : Addr
  NoEntry_c : Addr
  NoEntry_d : Addr
  NoName_i : Addr
  NoName_c : Addr
  NoName_d : Addr
  NothingToUndo_i : Addr
  NothingToUndo_c : Addr
  NothingToUndo_d : Addr
  ROWS : Addr
  NUMBERS : Addr
  lcode : Addr
  tab : Addr
  par : Params
def rowsN : List (Str × Int × Str) := [(("stop" : Str), (1 : Int), ("none" : Str)), (("version" : Str), (2 : Int), ("octet" : Str)), (("frame" : Str), (4 : Int), ("wide" : Str)), (("none" : Str), (1 : Int), ("none" : Str)), (("false" : Str), (1 : Int), ("none" : Str)), (("true" : Str), (1 : Int), ("none" : Str)), (("integer-line" : Str), (1 : Int), ("line" : Str)), (("integer-octet" : Str), (2 : Int), ("octet" : Str)), (("integer-counted" : Str), (2 : Int), ("counted" : Str)), (("text-line" : Str), (1 : Int), ("line" : Str)), (("text-wide" : Str), (2 : Int), ("wide counted" : Str)), (("text-short" : Str), (3 : Int), ("counted" : Str)), (("octets-line" : Str), (1 : Int), ("line" : Str)), (("octets-wide" : Str), (3 : Int), ("wide counted" : Str)), (("mark" : Str), (1 : Int), ("none" : Str)), (("drop" : Str), (1 : Int), ("none" : Str)), (("drop-to-mark" : Str), (1 : Int), ("none" : Str)), (("pack" : Str), (1 : Int), ("none" : Str)), (("pack-0" : Str), (2 : Int), ("none" : Str)), (("pack-1" : Str), (2 : Int), ("none" : Str)), (("pack-2" : Str), (2 : Int), ("none" : Str)), (("pack-3" : Str), (2 : Int), ("none" : Str)), (("row" : Str), (1 : Int), ("none" : Str)), (("append" : Str), (1 : Int), ("none" : Str)), (("append-all" : Str), (2 : Int), ("none" : Str)), (("book" : Str), (1 : Int), ("none" : Str)), (("enter" : Str), (1 : Int), ("none" : Str)), (("enter-all" : Str), (2 : Int), ("none" : Str)), (("bag" : Str), (4 : Int), ("none" : Str)), (("add-all" : Str), (4 : Int), ("none" : Str)), (("put-line" : Str), (1 : Int), ("line" : Str)), (("put-octet" : Str), (2 : Int), ("octet" : Str)), (("put-wide" : Str), (2 : Int), ("wide" : Str)), (("put-next" : Str), (3 : Int), ("none" : Str)), (("get-line" : Str), (1 : Int), ("line" : Str)), (("get-octet" : Str), (2 : Int), ("octet" : Str)), (("get-wide" : Str), (2 : Int), ("wide" : Str)), (("class-line" : Str), (1 : Int), ("line" : Str)), (("class-text" : Str), (4 : Int), ("none" : Str)), (("make" : Str), (1 : Int), ("none" : Str)), (("build" : Str), (1 : Int), ("none" : Str)), (("outer-line" : Str), (1 : Int), ("line" : Str)), (("outer-text" : Str), (2 : Int), ("none" : Str))]
def rowV (r : Str × Int × Str) : List V := [.str r.1, .int r.2.1, .str r.2.2]
def rowsL : List (List V) := rowsN.map rowV
def numL : List (Str × V) := [(("stop" : Str), V.int 160), (("version" : Str), V.int 161), (("frame" : Str), V.int 162), (("none" : Str), V.int 163), (("false" : Str), V.int 164), (("true" : Str), V.int 165), (("integer-line" : Str), V.int 166), (("integer-octet" : Str), V.int 167), (("integer-counted" : Str), V.int 168), (("text-line" : Str), V.int 169), (("text-wide" : Str), V.int 170), (("text-short" : Str), V.int 171), (("octets-line" : Str), V.int 172), (("octets-wide" : Str), V.int 173), (("mark" : Str), V.int 174), (("drop" : Str), V.int 175), (("drop-to-mark" : Str), V.int 176), (("pack" : Str), V.int 177), (("pack-0" : Str), V.int 178), (("pack-1" : Str), V.int 179), (("pack-2" : Str), V.int 180), (("pack-3" : Str), V.int 181), (("row" : Str), V.int 182), (("append" : Str), V.int 183), (("append-all" : Str), V.int 184), (("book" : Str), V.int 185), (("enter" : Str), V.int 186), (("enter-all" : Str), V.int 187), (("bag" : Str), V.int 188), (("add-all" : Str), V.int 189), (("put-line" : Str), V.int 190), (("put-octet" : Str), V.int 191), (("put-wide" : Str), V.int 192), (("put-next" : Str), V.int 193), (("get-line" : Str), V.int 194), (("get-octet" : Str), V.int 195), (("get-wide" : Str), V.int 196), (("class-line" : Str), V.int 197), (("class-text" : Str), V.int 198), (("make" : Str), V.int 199), (("build" : Str), V.int 200), (("outer-line" : Str), V.int 201), (("outer-text" : Str), V.int 202)]
structure Txt (P : Program) (K : PySem.W.Frag) (mg : Str → Option Value) (a : Adr) : Prop where
  b_LookupError : mg "LookupError" = none
  b_ValueError : mg "ValueError" = none
  b_bool : mg "bool" = none
  b_enumerate : mg "enumerate" = none
  b_int : mg "int" = none
  b_isinstance : mg "isinstance" = none
  b_len : mg "len" = none
  b_list : mg "list" = none
  b_min : mg "min" = none
  b_range : mg "range" = none
  b_repr : mg "repr" = none
  b_str : mg "str" = none
  b_tuple : mg "tuple" = none
  b_super : mg "super" = none
  c_FIRST : ∃ t, mg "FIRST" = some (.int (160) t)
  g_ROWS : mg "ROWS" = some (.ref a.ROWS)
  g_NUMBERS : mg "NUMBERS" = some (.ref a.NUMBERS)
  g_is_integer : mg "is_integer" = some (.ref a.is_integer)
  k_is_integer : PySem.W.keepIn K (.ref a.is_integer) = true
  d_is_integer : DefAt K "is_integer" "is_integer" s_is_integer a.is_integer ["thing"]
  g_row_of : mg "row_of" = some (.ref a.row_of)
  k_row_of : PySem.W.keepIn K (.ref a.row_of) = true
  d_row_of : DefAt K "row_of" "row_of" s_row_of a.row_of ["name"]
  g_is_opcode_name : mg "is_opcode_name" = some (.ref a.is_opcode_name)
  k_is_opcode_name : PySem.W.keepIn K (.ref a.is_opcode_name) = true
  d_is_opcode_name : DefAt K "is_opcode_name" "is_opcode_name" s_is_opcode_name a.is_opcode_name ["thing"]
  g_is_opcode_number : mg "is_opcode_number" = some (.ref a.is_opcode_number)
  k_is_opcode_number : PySem.W.keepIn K (.ref a.is_opcode_number) = true
  d_is_opcode_number : DefAt K "is_opcode_number" "is_opcode_number" s_is_opcode_number a.is_opcode_number ["thing"]
  g_opcode_names : mg "opcode_names" = some (.ref a.opcode_names)
  k_opcode_names : PySem.W.keepIn K (.ref a.opcode_names) = true
  d_opcode_names : DefAt K "opcode_names" "opcode_names" s_opcode_names a.opcode_names []
  g_number_of : mg "number_of" = some (.ref a.number_of)
  k_number_of : PySem.W.keepIn K (.ref a.number_of) = true
  d_number_of : DefAt K "number_of" "number_of" s_number_of a.number_of ["name"]
  g_name_of : mg "name_of" = some (.ref a.name_of)
  k_name_of : PySem.W.keepIn K (.ref a.name_of) = true
  d_name_of : DefAt K "name_of" "name_of" s_name_of a.name_of ["number"]
  g_since : mg "since" = some (.ref a.since)
  k_since : PySem.W.keepIn K (.ref a.since) = true
  d_since : DefAt K "since" "since" s_since a.since ["name"]
  g__law_begin : mg "_law_begin" = some (.ref a._law_begin)
  k__law_begin : PySem.W.keepIn K (.ref a._law_begin) = true
  d__law_begin : DefAt K "_law_begin" "_law_begin" s__law_begin a._law_begin ["script"]
  g__law_mixed : mg "_law_mixed" = some (.ref a._law_mixed)
  k__law_mixed : PySem.W.keepIn K (.ref a._law_mixed) = true
  d__law_mixed : DefAt K "_law_mixed" "_law_mixed" s__law_mixed a._law_mixed ["cell", "k"]
  g__law_next : mg "_law_next" = some (.ref a._law_next)
  k__law_next : PySem.W.keepIn K (.ref a._law_next) = true
  d__law_next : DefAt K "_law_next" "_law_next" s__law_next a._law_next ["draw", "bound"]
  g__law_table : mg "_law_table" = some (.ref a._law_table)
  k__law_table : PySem.W.keepIn K (.ref a._law_table) = true
  d__law_table : DefAt K "_law_table" "_law_table" s__law_table a._law_table []
  g__law_missed : mg "_law_missed" = some (.ref a._law_missed)
  k__law_missed : PySem.W.keepIn K (.ref a._law_missed) = true
  d__law_missed : DefAt K "_law_missed" "_law_missed" s__law_missed a._law_missed ["call"]
  g__law_odd : mg "_law_odd" = some (.ref a._law_odd)
  k__law_odd : PySem.W.keepIn K (.ref a._law_odd) = true
  d__law_odd : DefAt K "_law_odd" "_law_odd" s__law_odd a._law_odd ["draw", "table"]
  g_law : mg "law" = some (.ref a.law)
  k_law : PySem.W.keepIn K (.ref a.law) = true
  dc_law : DefAtC K "law" "law" s_law a.law a.lcode ["script"]
  g_JarError : mg "JarError" = some (.ref a.JarError)
  x_JarError : PySem.W.subIn K (.ref a.JarError) (.type "BaseException") = some true
  t_JarError : PySem.W.typeIn K (.ref a.JarError) = some (.type "type")
  h_JarError : PySem.W.hasDictIn K a.JarError = true
  g_StateError : mg "StateError" = some (.ref a.StateError)
  x_StateError : PySem.W.subIn K (.ref a.StateError) (.type "BaseException") = some true
  t_StateError : PySem.W.typeIn K (.ref a.StateError) = some (.type "type")
  h_StateError : PySem.W.hasDictIn K a.StateError = true
  g_MissingError : mg "MissingError" = some (.ref a.MissingError)
  x_MissingError : PySem.W.subIn K (.ref a.MissingError) (.type "BaseException") = some true
  t_MissingError : PySem.W.typeIn K (.ref a.MissingError) = some (.type "type")
  h_MissingError : PySem.W.hasDictIn K a.MissingError = true
  g_UnknownBrand : mg "UnknownBrand" = some (.ref a.UnknownBrand)
  x_UnknownBrand : PySem.W.subIn K (.ref a.UnknownBrand) (.type "BaseException") = some true
  t_UnknownBrand : PySem.W.typeIn K (.ref a.UnknownBrand) = some (.type "type")
  h_UnknownBrand : PySem.W.hasDictIn K a.UnknownBrand = true
  e_UnknownBrand : ErrK P K mg a.UnknownBrand a.UnknownBrand_i a.UnknownBrand_c a.UnknownBrand_d "LookupError" "LookupError.__init__" "LookupError.__new__" [.type "LookupError", .type "Exception", .type "BaseException", .type "object"] "UnknownBrand" ["given"]
  i_UnknownBrand : IniK K a.UnknownBrand_i a.UnknownBrand_c a.UnknownBrand_d "UnknownBrand.__init__" "unknown brand" ["given"]
  k_UnknownBrand : PySem.W.keepIn K (.ref a.UnknownBrand) = true
  R_UnknownBrand : ErrR K a.UnknownBrand
  n_UnknownBrand_given : PySem.W.findIn K (.ref a.UnknownBrand) "given" = some none
  g_NoEntry : mg "NoEntry" = some (.ref a.NoEntry)
  x_NoEntry : PySem.W.subIn K (.ref a.NoEntry) (.type "BaseException") = some true
  t_NoEntry : PySem.W.typeIn K (.ref a.NoEntry) = some (.type "type")
  h_NoEntry : PySem.W.hasDictIn K a.NoEntry = true
  e_NoEntry : ErrK P K mg a.NoEntry a.NoEntry_i a.NoEntry_c a.NoEntry_d "LookupError" "LookupError.__init__" "LookupError.__new__" [.type "LookupError", .type "Exception", .type "BaseException", .type "object"] "NoEntry" ["key"]
  i_NoEntry : IniK K a.NoEntry_i a.NoEntry_c a.NoEntry_d "NoEntry.__init__" "no such entry" ["key"]
  k_NoEntry : PySem.W.keepIn K (.ref a.NoEntry) = true
  R_NoEntry : ErrR K a.NoEntry
  n_NoEntry_key : PySem.W.findIn K (.ref a.NoEntry) "key" = some none
  g_NoName : mg "NoName" = some (.ref a.NoName)
  x_NoName : PySem.W.subIn K (.ref a.NoName) (.type "BaseException") = some true
  t_NoName : PySem.W.typeIn K (.ref a.NoName) = some (.type "type")
  h_NoName : PySem.W.hasDictIn K a.NoName = true
  e_NoName : ErrK P K mg a.NoName a.NoName_i a.NoName_c a.NoName_d "LookupError" "LookupError.__init__" "LookupError.__new__" [.type "LookupError", .type "Exception", .type "BaseException", .type "object"] "NoName" ["given"]
  i_NoName : IniK K a.NoName_i a.NoName_c a.NoName_d "NoName.__init__" "no such name" ["given"]
  k_NoName : PySem.W.keepIn K (.ref a.NoName) = true
  R_NoName : ErrR K a.NoName
  n_NoName_given : PySem.W.findIn K (.ref a.NoName) "given" = some none
  g_NothingToUndo : mg "NothingToUndo" = some (.ref a.NothingToUndo)
  x_NothingToUndo : PySem.W.subIn K (.ref a.NothingToUndo) (.type "BaseException") = some true
  t_NothingToUndo : PySem.W.typeIn K (.ref a.NothingToUndo) = some (.type "type")
  h_NothingToUndo : PySem.W.hasDictIn K a.NothingToUndo = true
  e_NothingToUndo : ErrK P K mg a.NothingToUndo a.NothingToUndo_i a.NothingToUndo_c a.NothingToUndo_d "LookupError" "LookupError.__init__" "LookupError.__new__" [.type "LookupError", .type "Exception", .type "BaseException", .type "object"] "NothingToUndo" ["count"]
  i_NothingToUndo : IniK K a.NothingToUndo_i a.NothingToUndo_c a.NothingToUndo_d "NothingToUndo.__init__" "there is no change to take back" ["count"]
  k_NothingToUndo : PySem.W.keepIn K (.ref a.NothingToUndo) = true
  R_NothingToUndo : ErrR K a.NothingToUndo
  n_NothingToUndo_count : PySem.W.findIn K (.ref a.NothingToUndo) "count" = some none
  u_NoName_JarError : PySem.W.kitOne K (.ref a.NoName) (.ref a.JarError) = some false
  v_NoName_JarError : PySem.W.exmOne K (.ref a.NoName) (.ref a.JarError) = some false
  u_NoName_StateError : PySem.W.kitOne K (.ref a.NoName) (.ref a.StateError) = some false
  v_NoName_StateError : PySem.W.exmOne K (.ref a.NoName) (.ref a.StateError) = some false
  u_NoName_MissingError : PySem.W.kitOne K (.ref a.NoName) (.ref a.MissingError) = some true
  v_NoName_MissingError : PySem.W.exmOne K (.ref a.NoName) (.ref a.MissingError) = some true
  u_NoName_NoName : PySem.W.kitOne K (.ref a.NoName) (.ref a.NoName) = some true
  v_NoName_NoName : PySem.W.exmOne K (.ref a.NoName) (.ref a.NoName) = some true
  u_NoName_NoEntry : PySem.W.kitOne K (.ref a.NoName) (.ref a.NoEntry) = some false
  v_NoName_NoEntry : PySem.W.exmOne K (.ref a.NoName) (.ref a.NoEntry) = some false
  u_NoName_NothingToUndo : PySem.W.kitOne K (.ref a.NoName) (.ref a.NothingToUndo) = some false
  v_NoName_NothingToUndo : PySem.W.exmOne K (.ref a.NoName) (.ref a.NothingToUndo) = some false
  u_NoName_UnknownBrand : PySem.W.kitOne K (.ref a.NoName) (.ref a.UnknownBrand) = some false
  v_NoName_UnknownBrand : PySem.W.exmOne K (.ref a.NoName) (.ref a.UnknownBrand) = some false
  u_NoName_LookupError : PySem.W.kitOne K (.ref a.NoName) (.type "LookupError") = some true
  u_NoName_ValueError : PySem.W.kitOne K (.ref a.NoName) (.type "ValueError") = some false
  rows : rowsIn K a.ROWS = some rowsL
  nums : KDL K a.par a.NUMBERS numL
end BJL

namespace BJL
open PySem PySem.Spec PyProof.Rows L2 BJ
section
variable {P : Program} {w : World} {K : PySem.W.Frag} {mg : Str → Option Value} {base : Heap} {a : Adr}
open Evl
def isI : V → Bool | .int _ => true | _ => false
def dInt : PyData → Bool | .int _ => true | .bool _ => true | _ => false
def dBool : PyData → Bool | .bool _ => true | _ => false
def dStr : PyData → Bool | .str _ => true | _ => false
theorem kitD (d : PyData) : kitB (tyN d) "int" = some (dInt d) ∧ kitB (tyN d) "bool" = some (dBool d) ∧ kitB (tyN d) "str" = some (dStr d) := by
  cases d with
  | none => exact ⟨show kitB "NoneType" "int" = _ by decide +kernel, show kitB "NoneType" "bool" = _ by decide +kernel, show kitB "NoneType" "str" = _ by decide +kernel⟩
  | bool b => exact ⟨show kitB "bool" "int" = some true by decide +kernel, show kitB "bool" "bool" = some true by decide +kernel, show kitB "bool" "str" = some false by decide +kernel⟩
  | int i => exact ⟨show kitB "int" "int" = some true by decide +kernel, show kitB "int" "bool" = some false by decide +kernel, show kitB "int" "str" = some false by decide +kernel⟩
  | str x => exact ⟨show kitB "str" "int" = some false by decide +kernel, show kitB "str" "bool" = some false by decide +kernel, show kitB "str" "str" = some true by decide +kernel⟩
  | list xs => exact ⟨show kitB "list" "int" = some false by decide +kernel, show kitB "list" "bool" = some false by decide +kernel, show kitB "list" "str" = some false by decide +kernel⟩
  | tuple xs => exact ⟨show kitB "tuple" "int" = some false by decide +kernel, show kitB "tuple" "bool" = some false by decide +kernel, show kitB "tuple" "str" = some false by decide +kernel⟩
  | dict xs => exact ⟨show kitB "dict" "int" = some false by decide +kernel, show kitB "dict" "bool" = some false by decide +kernel, show kitB "dict" "str" = some false by decide +kernel⟩
theorem isI_d {H : Hp} {x : V} {d : PyData} (h : Dz K H x d) : (dInt d && !dBool d) = isI x := by
  cases h <;> rfl
def spIsI (K : PySem.W.Frag) : Sp := fun vs H Q _ => ∃ x d, vs = [x] ∧ Dz K H x d ∧ Q (.bl (isI x)) H
theorem ok_is_integer (T : Txt P K mg a) : CallO P w K mg base 1 (.ref a.is_integer) (spIsI K) := by
  refine fnO (T.d_is_integer.okX sc_is_integer (fun vs H Q E h => ?_) (fun cdv A outer s H vs Q E hr h => ?_))
  · obtain ⟨x, d, rfl, _⟩ := h
    rfl
  · obtain ⟨x, d, rfl, dz, hq⟩ := h
    refine ⟨_, (pss_one (ps_ret (pe_and (pe_callB (call_isG' (K := K) rfl) (by rfl) T.b_isinstance (by decide +kernel) (pa_cons (pv 0) (pa_cons (pe_bltn (v := .ty "int") (u := .type "int") (by rfl) T.b_int (by decide +kernel) (by exact rfl)) pa_nil))) (pe_one (pe_not (pe_callB (call_isG' (K := K) rfl) (by rfl) T.b_isinstance (by decide +kernel) (pa_cons (pv 0) (pa_cons (pe_bltn (v := .ty "bool") (u := .type "bool") (by rfl) T.b_bool (by decide +kernel) (by exact rfl)) pa_nil)))))))), ?_⟩
    obtain ⟨k1, k2, _⟩ := kitD d
    rw [← isI_d dz] at hq
    generalize dInt d = bi at k1 hq
    generalize dBool d = bb at k2 hq
    refine ⟨_, rfl, x, _, .type (tyN d), _, bi, rfl, .ty "int", .ty (dz_ty dz), kit_ty k1, bi, rfl, ?_⟩
    cases bi with
    | false => exact hq
    | true => exact ⟨_, rfl, x, _, .type (tyN d), _, bb, rfl, .ty "bool", .ty (dz_ty dz), kit_ty k2, bb, rfl, hq⟩
def isName : V → Bool | .str z => (numL.lookup z).isSome | _ => false
def spName (K : PySem.W.Frag) : Sp := fun vs H Q _ => ∃ x d, vs = [x] ∧ Dz K H x d ∧ Q (.bl (isName x)) H
theorem ok_is_opcode_name (T : Txt P K mg a) (hw : a.par = w.params) : CallO P w K mg base 1 (.ref a.is_opcode_name) (spName K) := by
  have nums : KDL K w.params a.NUMBERS numL := hw ▸ T.nums
  refine fnO (T.d_is_opcode_name.okX sc_is_opcode_name (fun vs H Q E h => ?_) (fun cdv A outer s H vs Q E hr h => ?_))
  · obtain ⟨x, d, rfl, _⟩ := h
    rfl
  · obtain ⟨x, d, rfl, dz, hq⟩ := h
    refine ⟨_, (pss_one (ps_ret (pe_and (pe_callB (call_isG' (K := K) rfl) (by rfl) T.b_isinstance (by decide +kernel) (pa_cons (pv 0) (pa_cons (pe_bltn (v := .ty "str") (u := .type "str") (by rfl) T.b_str (by decide +kernel) (by exact rfl)) pa_nil))) (pe_one (pe_cmpR op_inKD (pv 0) (pe_glob (v := .ref a.NUMBERS) (by rfl) T.g_NUMBERS rfl) (by rfl)))))), ?_⟩
    obtain ⟨_, _, k3⟩ := kitD d
    have ty := dz_ty dz
    have other : dStr d = false → isName x = false → tRet (tAndV (tCB (rIsG K) (tCons (tVar 0) (tCons (tC (.ty "str")) tNil))) (tOp (rInKD K w false) (tVar 0) (tC (.ref a.NUMBERS)))) { nx := fun _ H' => Q .non H', rt := Q } (L2.start ["thing"] [x]) H := fun h0 h1 => by
      rw [h0] at k3
      rw [h1] at hq
      exact ⟨_, rfl, x, _, .type (tyN d), _, false, rfl, .ty "str", .ty ty, kit_ty k3, false, rfl, hq⟩
    cases dz with
    | str z =>
      refine ⟨_, rfl, _, _, .type "str", _, true, rfl, .ty "str", .ty ty, kit_ty k3, true, rfl, ?_⟩
      have lk := nums.look z
      cases hl : numL.lookup z with
      | some v =>
        rw [hl] at lk
        obtain ⟨u, hn, _⟩ := lk
        refine ⟨_, rfl, z, a.NUMBERS, some u, rfl, rfl, nums.kd, hn, ?_⟩
        have e : isName (.str z) = true := by show (numL.lookup z).isSome = true; rw [hl]; rfl
        rw [e] at hq
        exact hq
      | none =>
        rw [hl] at lk
        refine ⟨_, rfl, z, a.NUMBERS, none, rfl, rfl, nums.kd, lk, ?_⟩
        have e : isName (.str z) = false := by show (numL.lookup z).isSome = false; rw [hl]; rfl
        rw [e] at hq
        exact hq
    | non => exact other rfl rfl
    | bl b => exact other rfl rfl
    | int i => exact other rfl rfl
    | lst _ _ _ => exact other rfl rfl
    | tup _ _ => exact other rfl rfl
    | dict _ _ => exact other rfl rfl
def isNum : V → Bool | .int i => decide (160 ≤ i) && decide (i < 203) | _ => false
def spNum (K : PySem.W.Frag) : Sp := fun vs H Q _ => ∃ x d, vs = [x] ∧ Dz K H x d ∧ Q (.bl (isNum x)) H
theorem rows_at (T : Txt P K mg a) : ∃ bs : List Addr, (∀ H : Hp, SqT K H a.ROWS (bs.map V.ref)) ∧ bs.length = 43 ∧ ∀ (i : Nat) (r : Str × Int × Str), rowsN[i]? = some r → ∃ b, bs[i]? = some b ∧ ∀ H : Hp, SqT K H b (rowV r) := by
  obtain ⟨bs, h1, h2, h3⟩ := rowsIn_at T.rows
  refine ⟨bs, h1, by rw [h2]; decide +kernel, fun i r hi => h3 i (rowV r) ?_⟩
  unfold rowsL
  rw [List.getElem?_map, hi]
  rfl
theorem ok_is_opcode_number (T : Txt P K mg a) : CallO P w K mg base 2 (.ref a.is_opcode_number) (spNum K) := by
  have G_is_integer : CallO P w K mg base 1 (.ref a.is_integer) (spIsI K) := ok_is_integer T
  refine fnO (T.d_is_opcode_number.okX sc_is_opcode_number (fun vs H Q E h => ?_) (fun cdv A outer s H vs Q E hr h => ?_))
  · obtain ⟨x, d, rfl, _⟩ := h
    rfl
  · obtain ⟨x, d, rfl, dz, hq⟩ := h
    refine ⟨_, (pss_one (ps_ret (pe_and (pe_co G_is_integer (hr.mono (by decide)) rfl T.g_is_integer T.k_is_integer (takes_of rfl rfl rfl rfl) (pa_cons (pv 0) pa_nil)) (pe_one (pe_chain op_le op_lt (pe_glob (v := .int (160)) (by rfl) T.c_FIRST.choose_spec ⟨_, rfl⟩) (pv 0) (pe_op op_add (pe_glob (v := .int (160)) (by rfl) T.c_FIRST.choose_spec ⟨_, rfl⟩) (pe_callB call_len_seq (by rfl) T.b_len (by decide +kernel) (pa_cons (pe_glob (v := .ref a.ROWS) (by rfl) T.g_ROWS rfl) pa_nil)))))))), ?_⟩
    obtain ⟨bs, hb1, hb2, _⟩ := rows_at T
    refine ⟨_, rfl, x, d, rfl, dz, _, rfl, ?_⟩
    cases dz with
    | int i =>
      refine ⟨_, rfl, _, _, rfl, rfl, _, rfl, ?_⟩
      cases h1 : decide ((160 : Int) ≤ i) with
      | false =>
        have e : isNum (.int i) = false := by simp only [isNum, h1, Bool.false_and]
        rw [e] at hq
        exact hq
      | true =>
        refine ⟨a.ROWS, bs.map V.ref, rfl, .inr (hb1 H), _, _, rfl, rfl, _, _, rfl, rfl, ?_⟩
        have e : isNum (.int i) = decide (i < 160 + (((bs.map V.ref).length : Nat) : Int)) := by
          simp only [isNum, h1, Bool.true_and, List.length_map, hb2]
          rfl
        rw [e] at hq
        exact hq
    | _ => exact hq

end
end BJL

namespace BJL
open PySem PySem.Spec PyProof.Rows L2 BJ
section
variable {P : Program} {w : World} {K : PySem.W.Frag} {mg : Str → Option Value} {base : Heap} {a : Adr}
open Evl
theorem numL_get : ∀ k ∈ List.range 43, (match rowsN[k]? with | some r => numL.lookup r.1 == some (V.int (160 + (k : Nat))) | none => false) = true := by decide +kernel
theorem rowsN_len : rowsN.length = 43 := by decide +kernel
/-- the row of each name -/
theorem numL_at : ∀ p ∈ numL, (match p.2 with | .int n => decide (160 ≤ n) && (match rowsN[(n - 160).toNat]? with | some r => r.1 == p.1 | none => false) | _ => false) = true := by decide +kernel
theorem lookup_mem {β : Type} {l : List (Str × β)} {z : Str} {v : β} (h : l.lookup z = some v) : (z, v) ∈ l := by
  induction l with
  | nil => simp at h
  | cons p l ih =>
    obtain ⟨x, y⟩ := p
    rw [lookup_cons_if] at h
    split at h
    · rename_i e
      cases h
      rw [e]
      exact List.mem_cons_self
    · exact List.mem_cons_of_mem _ (ih h)
theorem num_row {z : Str} {v : V} (h : numL.lookup z = some v) : ∃ (k : Nat) (r : Str × Int × Str), v = .int (160 + (k : Nat)) ∧ rowsN[k]? = some r ∧ r.1 = z := by
  have := numL_at _ (lookup_mem h)
  cases v with
  | int n =>
    simp only [Bool.and_eq_true, decide_eq_true_eq] at this
    obtain ⟨h1, h2⟩ := this
    refine ⟨(n - 160).toNat, ?_⟩
    cases hr : rowsN[(n - 160).toNat]? with
    | none => rw [hr] at h2; cases h2
    | some r =>
      rw [hr] at h2
      exact ⟨r, by congr 1; omega, rfl, eq_of_beq h2⟩
  | _ => simp at this
def spRow (K : PySem.W.Frag) : Sp := fun vs H Q _ => ∃ (z : Str) (k : Nat) (r : Str × Int × Str), vs = [.str z] ∧ numL.lookup z = some (.int (160 + (k : Nat))) ∧ rowsN[k]? = some r ∧ ∀ b, (∀ H : Hp, SqT K H b (rowV r)) → Q (.ref b) H
theorem ok_row_of (T : Txt P K mg a) (hw : a.par = w.params) : CallO P w K mg base 1 (.ref a.row_of) (spRow K) := by
  have nums : KDL K w.params a.NUMBERS numL := hw ▸ T.nums
  refine fnO (T.d_row_of.okX sc_row_of (fun vs H Q E h => ?_) (fun cdv A outer s H vs Q E hr h => ?_))
  · obtain ⟨z, k, r, rfl, _⟩ := h
    rfl
  · obtain ⟨z, k, r, rfl, hl, hk, hq⟩ := h
    refine ⟨_, (pss_one (ps_ret (pe_ix (ix_tup' (K := K) rfl) (pe_glob (v := .ref a.ROWS) (by rfl) T.g_ROWS rfl) (pe_op op_sub (pe_ixDX rfl (takes_of rfl rfl rfl rfl) (pe_glob (v := .ref a.NUMBERS) (by rfl) T.g_NUMBERS rfl) (pv 0) (fun _ _ => rfl)) (pe_glob (v := .int (160)) (by rfl) T.c_FIRST.choose_spec ⟨_, rfl⟩)) (fun _ _ => rfl)))), ?_⟩
    obtain ⟨bs, hb1, hb2, hb3⟩ := rows_at T
    obtain ⟨b, hb, hsq⟩ := hb3 k r hk
    have lk := nums.look z
    rw [hl] at lk
    obtain ⟨u, hn, ru⟩ := lk
    obtain ⟨es, n, e1, e2⟩ := nums.kd.ex
    have kd : KDct K w a.NUMBERS z (.int (160 + (k : Nat))) := ⟨es, n, u, e1, e2, hn, ru⟩
    have hat : atI (bs.map V.ref) (160 + (k : Nat) - 160 : Int) = some (.ref b) := by
      rw [show (160 + (k : Nat) - 160 : Int) = ((k : Nat) : Int) by omega]
      exact atI_nat (by rw [List.getElem?_map, hb]; rfl)
    exact ⟨_, rfl, a.NUMBERS, z, rfl, rfl, .inl ⟨_, kd, _, _, rfl, rfl, a.ROWS, _, _, _, rfl, rfl, hb1 H, hat, hq b hsq⟩⟩
/-- the error that all three raise -/
abbrev Bad (a : Adr) (x : V) (H : Hp) (E : XK) : Prop := ∀ d H', H d = none → Ex H H' → H' d = some (.xd [("given", x)]) → E (.ref a.NoName) (some d) H'
def spNumber (K : PySem.W.Frag) (a : Adr) : Sp := fun vs H Q E => ∃ x d, vs = [x] ∧ Dz K H x d ∧
  ((∃ z v, x = .str z ∧ numL.lookup z = some v ∧ ∀ H', Ex H H' → Q v H') ∨ (isName x = false ∧ Bad a x H E))
theorem name_yes {z : Str} {v : V} (h : numL.lookup z = some v) : isName (.str z) = true := by
  show (numL.lookup z).isSome = true
  rw [h]
  rfl
theorem fn_number_of (T : Txt P K mg a) (hw : a.par = w.params) : ∃ fd, FnOk P w K mg base (L2.CX P w) 3 a.number_of fd ["name"] (spNumber K a) ∧ Binds K fd ["name"] [] ∧ Fun K "number_of" "number_of" s_number_of a.number_of fd := by
  have nums : KDL K w.params a.NUMBERS numL := hw ▸ T.nums
  have G_is_opcode_name : CallO P w K mg base 2 (.ref a.is_opcode_name) (spName K) := (ok_is_opcode_name T hw).mono (by decide)
  refine T.d_number_of.okX sc_number_of (fun vs H Q E h => ?_) (fun cdv A outer s H vs Q E hr h => ?_)
  · obtain ⟨x, d, rfl, _⟩ := h
    rfl
  · obtain ⟨x, d, rfl, dz, hx⟩ := h
    refine ⟨_, (pss_cons (ps_if (pt_not (pt_val (pe_co G_is_opcode_name (hr.mono (by decide)) rfl T.g_is_opcode_name T.k_is_opcode_name (takes_of rfl rfl rfl rfl) (pa_cons (pv 0) pa_nil))))
 (pss_one (ps_raiseErr rfl T.e_NoName T.i_NoName T.k_NoName T.x_NoName T.t_NoName hr (takes_of rfl rfl rfl rfl) (pa_cons (pv 0) pa_nil) (by rfl)))
 pss_nil)
 (pss_one (ps_ret (pe_ixDX rfl (takes_of rfl rfl rfl rfl) (pe_glob (v := .ref a.NUMBERS) (by rfl) T.g_NUMBERS rfl) (pv 0) (fun _ _ => rfl))))), ?_⟩
    rcases hx with ⟨z, v, rfl, hl, hq⟩ | ⟨hn, hq⟩
    · refine q_when (b := false) (et_not (a := true) (et_B (ev_is (v := .bl (isName (.str z))) (ev_ca (ea_cons (ev_var rfl) ea_nil) fun H1 x1 Q E q => ⟨_, d, rfl, dz_ex x1 dz, q H1 (Ex.refl _)⟩) (by rw [name_yes hl])))) (fun z => nomatch z) fun _ H1 e1 => ?_
      have lk := nums.look z
      rw [hl] at lk
      obtain ⟨u, hn, ru⟩ := lk
      obtain ⟨es, n, f1, f2⟩ := nums.kd.ex
      exact ⟨_, rfl, a.NUMBERS, z, rfl, rfl, .inl ⟨v, ⟨es, n, u, f1, f2, hn, ru⟩, hq H1 e1⟩⟩
    · refine q_when (b := true) (et_not (a := false) (et_B (ev_is (v := .bl (isName x)) (ev_ca (ea_cons (ev_var rfl) ea_nil) fun H1 x1 Q E q => ⟨_, d, rfl, dz_ex x1 dz, q H1 (Ex.refl _)⟩) (by rw [hn])))) (fun _ H1 e1 => ?_) (fun z => nomatch z)
      exact ⟨_, rfl, rfl, fun d hd => hq d _ (fresh_back e1 hd) (e1.trans (Ex.new hd)) upd_same⟩
def spNameOf (K : PySem.W.Frag) (a : Adr) : Sp := fun vs H Q E => ∃ x d, vs = [x] ∧ Dz K H x d ∧
  ((∃ (k : Nat) (r : Str × Int × Str), x = .int (160 + (k : Nat)) ∧ rowsN[k]? = some r ∧ ∀ H', Ex H H' → Q (.str r.1) H') ∨ (isNum x = false ∧ Bad a x H E))
theorem fn_name_of (T : Txt P K mg a) : ∃ fd, FnOk P w K mg base (L2.CX P w) 3 a.name_of fd ["number"] (spNameOf K a) ∧ Binds K fd ["number"] [] ∧ Fun K "name_of" "name_of" s_name_of a.name_of fd := by
  have G_is_opcode_number : CallO P w K mg base 2 (.ref a.is_opcode_number) (spNum K) := ok_is_opcode_number T
  refine T.d_name_of.okX sc_name_of (fun vs H Q E h => ?_) (fun cdv A outer s H vs Q E hr h => ?_)
  · obtain ⟨x, d, rfl, _⟩ := h
    rfl
  · obtain ⟨x, d, rfl, dz, hx⟩ := h
    refine ⟨_, (pss_cons (ps_if (pt_not (pt_val (pe_co G_is_opcode_number (hr.mono (by decide)) rfl T.g_is_opcode_number T.k_is_opcode_number (takes_of rfl rfl rfl rfl) (pa_cons (pv 0) pa_nil))))
 (pss_one (ps_raiseErr rfl T.e_NoName T.i_NoName T.k_NoName T.x_NoName T.t_NoName hr (takes_of rfl rfl rfl rfl) (pa_cons (pv 0) pa_nil) (by rfl)))
 pss_nil)
 (pss_one (ps_ret (pe_ix (ix_tup' (K := K) rfl) (pe_ix (ix_tup' (K := K) rfl) (pe_glob (v := .ref a.ROWS) (by rfl) T.g_ROWS rfl) (pe_op op_sub (pv 0) (pe_glob (v := .int (160)) (by rfl) T.c_FIRST.choose_spec ⟨_, rfl⟩)) (fun _ _ => rfl)) pe_int (fun _ _ => rfl))))), ?_⟩
    rcases hx with ⟨k, r, rfl, hk, hq⟩ | ⟨hn, hq⟩
    · have k43 : k < 43 := by have := (List.getElem?_eq_some_iff.mp hk).1; rw [rowsN_len] at this; exact this
      have yes : isNum (.int (160 + (k : Nat))) = true := by
        show (decide ((160 : Int) ≤ 160 + (k : Nat)) && decide ((160 + (k : Nat) : Int) < 203)) = true
        rw [decide_eq_true (by omega), decide_eq_true (by omega)]
        rfl
      refine q_when (b := false) (et_not (a := true) (et_B (ev_is (v := .bl (isNum (.int (160 + (k : Nat))))) (ev_ca (ea_cons (ev_var rfl) ea_nil) fun H1 x1 Q E q => ⟨_, d, rfl, dz_ex x1 dz, q H1 (Ex.refl _)⟩) (by rw [yes])))) (fun z => nomatch z) fun _ H1 e1 => ?_
      obtain ⟨bs, hb1, hb2, hb3⟩ := rows_at T
      obtain ⟨b, hb, hsq⟩ := hb3 k r hk
      have hat : atI (bs.map V.ref) (160 + (k : Nat) - 160 : Int) = some (.ref b) := by
        rw [show (160 + (k : Nat) - 160 : Int) = ((k : Nat) : Int) by omega]
        exact atI_nat (by rw [List.getElem?_map, hb]; rfl)
      exact ⟨_, rfl, _, _, rfl, rfl, a.ROWS, _, _, _, rfl, rfl, hb1 H1, hat, b, _, _, _, rfl, rfl, hsq H1, rfl, hq H1 e1⟩
    · refine q_when (b := true) (et_not (a := false) (et_B (ev_is (v := .bl (isNum x)) (ev_ca (ea_cons (ev_var rfl) ea_nil) fun H1 x1 Q E q => ⟨_, d, rfl, dz_ex x1 dz, q H1 (Ex.refl _)⟩) (by rw [hn])))) (fun _ H1 e1 => ?_) (fun z => nomatch z)
      exact ⟨_, rfl, rfl, fun d hd => hq d _ (fresh_back e1 hd) (e1.trans (Ex.new hd)) upd_same⟩
def spSince (K : PySem.W.Frag) (a : Adr) : Sp := fun vs H Q E => ∃ x d, vs = [x] ∧ Dz K H x d ∧
  ((∃ (z : Str) (k : Nat) (r : Str × Int × Str), x = .str z ∧ numL.lookup z = some (.int (160 + (k : Nat))) ∧ rowsN[k]? = some r ∧ ∀ H', Ex H H' → Q (.int r.2.1) H') ∨ (isName x = false ∧ Bad a x H E))
theorem fn_since (T : Txt P K mg a) (hw : a.par = w.params) : ∃ fd, FnOk P w K mg base (L2.CX P w) 3 a.since fd ["name"] (spSince K a) ∧ Binds K fd ["name"] [] ∧ Fun K "since" "since" s_since a.since fd := by
  have G_is_opcode_name : CallO P w K mg base 2 (.ref a.is_opcode_name) (spName K) := (ok_is_opcode_name T hw).mono (by decide)
  have G_row_of : CallO P w K mg base 1 (.ref a.row_of) (spRow K) := ok_row_of T hw
  refine T.d_since.okX sc_since (fun vs H Q E h => ?_) (fun cdv A outer s H vs Q E hr h => ?_)
  · obtain ⟨x, d, rfl, _⟩ := h
    rfl
  · obtain ⟨x, d, rfl, dz, hx⟩ := h
    refine ⟨_, (pss_cons (ps_if (pt_not (pt_val (pe_co G_is_opcode_name (hr.mono (by decide)) rfl T.g_is_opcode_name T.k_is_opcode_name (takes_of rfl rfl rfl rfl) (pa_cons (pv 0) pa_nil))))
 (pss_one (ps_raiseErr rfl T.e_NoName T.i_NoName T.k_NoName T.x_NoName T.t_NoName hr (takes_of rfl rfl rfl rfl) (pa_cons (pv 0) pa_nil) (by rfl)))
 pss_nil)
 (pss_one (ps_ret (pe_ix (ix_tup' (K := K) rfl) (pe_co G_row_of (hr.mono (by decide)) rfl T.g_row_of T.k_row_of (takes_of rfl rfl rfl rfl) (pa_cons (pv 0) pa_nil)) pe_int (fun _ _ => rfl))))), ?_⟩
    rcases hx with ⟨z, k, r, rfl, hl, hk, hq⟩ | ⟨hn, hq⟩
    · refine q_when (b := false) (et_not (a := true) (et_B (ev_is (v := .bl (isName (.str z))) (ev_ca (ea_cons (ev_var rfl) ea_nil) fun H1 x1 Q E q => ⟨_, d, rfl, dz_ex x1 dz, q H1 (Ex.refl _)⟩) (by rw [name_yes hl])))) (fun z => nomatch z) fun _ H1 e1 => ?_
      exact ⟨_, rfl, z, k, r, rfl, hl, hk, fun b hb => ⟨b, _, _, _, rfl, rfl, hb H1, rfl, hq H1 e1⟩⟩
    · refine q_when (b := true) (et_not (a := false) (et_B (ev_is (v := .bl (isName x)) (ev_ca (ea_cons (ev_var rfl) ea_nil) fun H1 x1 Q E q => ⟨_, d, rfl, dz_ex x1 dz, q H1 (Ex.refl _)⟩) (by rw [hn])))) (fun _ H1 e1 => ?_) (fun z => nomatch z)
      exact ⟨_, rfl, rfl, fun d hd => hq d _ (fresh_back e1 hd) (e1.trans (Ex.new hd)) upd_same⟩

end
end BJL

namespace BJL
open PySem PySem.Spec PyProof.Rows L2 BJ
section
variable {P : Program} {w : World} {K : PySem.W.Frag} {mg : Str → Option Value} {base : Heap} {a : Adr}
open Evl
def spNames : Sp := fun vs H Q _ => vs = [] ∧ ∀ p H', H p = none → Ex H H' → H' p = some (.tup (rowsN.map fun r => V.str r.1)) → Q (.ref p) H'
theorem ok_opcode_names (T : Txt P K mg a) : CallP P w K mg base 1 (.ref a.opcode_names) spNames := by
  refine T.d_opcode_names.ok sc_opcode_names (fun vs H Q E h => ?_) (fun cdv A outer s H vs Q E hr hG h => ?_)
  · obtain ⟨rfl, _⟩ := h
    rfl
  · obtain ⟨rfl, hq⟩ := h
    refine ⟨_, (pss_one (ps_ret (pe_callTy call_tuple_of (by rfl) T.b_tuple (by decide +kernel) (pa_cons (pe_lc (own := [("name", 0), ("version", 1), ("form", 2)]) (g := (gTup K 3 (gCons (gName 0) (gCons (gName 1) (gCons (gName 2) gNil))))) (by rfl) sc_opcode_names.nd (pi_tup (pe_glob (v := .ref a.ROWS) (by rfl) T.g_ROWS rfl)) (blkOk_by (own := [("name", 0), ("version", 1), ("form", 2)]) (N := ["name", "version", "form"]) (sc := defScope s_opcode_names) (by decide +kernel)) (fun _ _ _ _ _ => (pg_tup rfl (pgs_cons (pg_name (i := 0) sc_opcode_names.nd rfl (Or.inl rfl)) (pgs_cons (pg_name (i := 1) sc_opcode_names.nd rfl (Or.inl rfl)) (pgs_cons (pg_name (i := 2) sc_opcode_names.nd rfl (Or.inl rfl)) pgs_nil))))) (fun _ _ _ _ _ => pts_nil) (fun _ _ _ _ _ => (pv 0))) pa_nil)))), ?_⟩
    obtain ⟨bs, hb1, hb2, hb3⟩ := rows_at T
    have hlen : (bs.map V.ref).length = rowsN.length := by rw [List.length_map, hb2, rowsN_len]
    have el : EvL (tLc (iTup K (tC (.ref a.ROWS))) (gTup K 3 (gCons (gName 0) (gCons (gName 1) (gCons (gName 2) gNil)))) tYes (tVar 0) [0, 1, 2]) [none, none, none] H (rowsN.map fun r => V.str r.1) := fun H1 e Q q => by
      refine ⟨_, rfl, ⟨_, hb1 H1⟩, lc_ev (walk_tup (K := K) (a := a.ROWS) (xs := bs.map V.ref)) (fun _ => true) (fun i => V.str (rowsN.getD i ("", 0, "")).1) (by rw [hlen, rowsN_len]; decide) (fun H _ => hb1 H) (fun i x H2 H3 hi e2 y => ?_) fun D H' hD e' hl => ?_⟩
      · obtain ⟨y1, y2⟩ := y
        subst y1
        have hi' : i < rowsN.length := by rw [← hlen]; exact hi
        obtain ⟨b, hb, hsq⟩ := hb3 i rowsN[i] (List.getElem?_eq_getElem hi')
        rw [List.getElem?_map, hb] at y2
        cases y2
        refine ⟨[some (.str rowsN[i].1), some (.int rowsN[i].2.1), some (.str rowsN[i].2.2)], rfl, Ex.refl _, fun Q q => ⟨b, _, rfl, hsq _, rfl, _, _, rfl, _, _, rfl, _, _, rfl, rfl, q⟩, et_yes, fun _ => ?_⟩
        have ed : rowsN.getD i ("", 0, "") = rowsN[i] := by rw [List.getD, List.getElem?_eq_getElem hi']; rfl
        rw [ed]
        exact ev_var rfl
      · refine q D H' hD e' ?_
        have := given_map rowsN ("", 0, "") (fun _ => true) (fun r => V.str r.1)
        rw [List.filter_eq_self.mpr (fun _ _ => rfl)] at this
        rw [hlen] at hl
        rw [← this]
        exact hl
    exact s_retU (eu_tupL el) fun p H1 hp e1 h1 => hq p H1 hp e1 h1

end
end BJL

namespace BJL
open PySem PySem.Spec PyProof.Rows L2 BJ
section
variable {P : Program} {w : World} {K : PySem.W.Frag} {mg : Str → Option Value} {base : Heap} {a : Adr}
open Evl
/-- what _law_missed gives of a call that raises NoName(v): a new list [v] -/
def TMiss (a : Adr) : (XK → Hp → VK → Prop) → Hp → VK → Prop := fun tl H Q => ∀ H1, Ex H H1 → ∀ (E : XK) (Q2 : VK),
  (∀ cls d H', (cls = .ref a.NoName ∧ ∃ d' v, d = some d' ∧ H' d' = some (.xd [("given", v)]) ∧ ∀ p H2, H' p = none → sysModules < p → Ex H' H2 → H2 p = some (.lst [v]) → Q (.ref p) H2) → E cls d H') → tl E H1 Q2
theorem exm3 (T : Txt P K mg a) : PySem.W.exmAny K (.ref a.NoName) [.ref a.JarError, .ref a.StateError, .ref a.MissingError] = some true := by
  unfold PySem.W.exmAny PySem.W.exmAny PySem.W.exmAny PySem.W.exmAny
  rw [T.v_NoName_JarError, T.v_NoName_StateError, T.v_NoName_MissingError]
  rfl
theorem missed_gives (T : Txt P K mg a) {N : List Str} {qual : Str} {sc : Scope} {fl : Addr} {cdl : Value} {A : Around} {outer : List Env} {s0 : Shared} {H0 : Hp} {E : XK} {cdg : Value} {q : Str} :
    Gives2 (cxOf (L2.CX P w) P w K mg base N qual sc fl cdl A outer s0 H0 E) ["call", "caught", "found", "e"] "_law_missed" (defScope s__law_missed) a._law_missed cdg (defBody s__law_missed) "call" q (TMiss a) := by
  intro f c' s H Q tl act hc hT
  refine ⟨_, (pss_cons (ps_asg (pe_tup (pa_cons pe_non (pa_cons pe_non pa_nil))) (pg_tup rfl (pgs_cons (pg_name (i := 1) sc__law_missed.nd rfl (Or.inl rfl)) (pgs_cons (pg_name (i := 2) sc__law_missed.nd rfl (Or.inl rfl)) pgs_nil))) (by rfl))
 (pss_cons (ps_tryK (i := 3) (ts := fun a cls d => tAsg (tVar 3) (gName 1)) rfl rfl rfl sc__law_missed.nd rfl rfl (cl_three ⟨rfl, by decide, Or.inl T.g_JarError⟩ ⟨rfl, by decide, Or.inl T.g_StateError⟩ ⟨rfl, by decide, Or.inl T.g_MissingError⟩) tkN
 (fun W pn xe tk pn_ => (pss_one (ps_set (i := 2) sc__law_missed.nd rfl (Or.inl rfl) (act W pn xe _ _ tk))))
 (fun a oe cls d pn hz hf => (pss_one (ps_set (i := 1) sc__law_missed.nd rfl (Or.inl rfl) (pv 3)))))
 (pss_cons (ps_if (pt_cmp (pc_isN (pv 1)))
 (pss_one (ps_ret (pe_tup (pa_cons pe_str (pa_cons (pv 2) pa_nil)))))
 pss_nil)
 (pss_cons (ps_if (PW.pt (pw_or (pt_not (pt_val (pe_callB (call_isG' (K := K) rfl) (by rfl) T.b_isinstance (by decide +kernel) (pa_cons (pv 1) (pa_cons (pe_glob (v := .ref a.NoName) (by rfl) T.g_NoName rfl) pa_nil))))) (pw_or (pt_not (pt_val (pe_callB (call_isG' (K := K) rfl) (by rfl) T.b_isinstance (by decide +kernel) (pa_cons (pv 1) (pa_cons (pe_bltn (v := .ty "LookupError") (u := .type "LookupError") (by rfl) T.b_LookupError (by decide +kernel) (by exact rfl)) pa_nil))))) (pw_or1 (pt_val (pe_callB (call_isG' (K := K) rfl) (by rfl) T.b_isinstance (by decide +kernel) (pa_cons (pv 1) (pa_cons (pe_bltn (v := .ty "ValueError") (u := .type "ValueError") (by rfl) T.b_ValueError (by decide +kernel) (by exact rfl)) pa_nil))))))))
 (pss_one (ps_ret pe_str))
 pss_nil)
 (pss_one (ps_ret (pe_ifExp (pt_val (pe_callB call_isGT (by rfl) T.b_isinstance (by decide +kernel) (pa_cons (pv 1) (pa_cons (pe_tup (pa_cons (pe_glob (v := .ref a.NoEntry) (by rfl) T.g_NoEntry rfl) (pa_cons (pe_glob (v := .ref a.NothingToUndo) (by rfl) T.g_NothingToUndo rfl) (pa_cons (pe_glob (v := .ref a.UnknownBrand) (by rfl) T.g_UnknownBrand rfl) pa_nil)))) pa_nil)))) pe_str (pe_lstN (pa_cons (pe_exf (pv 1)) pa_nil))))))))), ?_⟩
  have hst : L2.start ["call", "caught", "found", "e"] [.ref f] = [some (.ref f), none, none, none] := rfl
  rw [hst]
  refine ⟨(by show 2 ≤ sizeLine; decide), fun p0 n0 => ⟨p0, _, rfl, st_of upd_same, rfl, _, _, rfl, _, _, rfl, rfl, ?_⟩⟩
  refine ⟨rfl, (Ex.new n0) _ _ hc, hT _ (Ex.new n0) _ _ ?_⟩
  rintro cls d H' ⟨rfl, d', v, rfl, hd, hq⟩
  refine ⟨true, exm3 T, fun _ e he => ?_, fun z => nomatch z⟩
  have hat : ExcAt (upd H' e (ExcK e (.ref a.NoName) (some d'))) e a.NoName d' [("given", v)] := ⟨upd_same, by rw [upd_ne (ne_of_none hd he)]; exact hd⟩
  have x0 := Ex.new (o := ExcK e (.ref a.NoName) (some d')) he
  refine ⟨_, rfl, ?_⟩
  refine ⟨_, rfl, false, rfl, ?_⟩
  refine q_when (b := false || (false || false)) (et_or (et_not (a := true) (et_B (ev_cb (ea_cons (ev_var rfl) (ea_cons ev_c ea_nil)) (rc_isE hat T.R_NoName T.u_NoName_NoName)))) fun _ => et_or (et_not (a := true) (et_B (ev_cb (ea_cons (ev_var rfl) (ea_cons ev_c ea_nil)) (rc_isEt hat T.R_NoName T.u_NoName_LookupError)))) fun _ =>
    et_B (ev_cb (ea_cons (ev_var rfl) (ea_cons ev_c ea_nil)) (rc_isEt hat T.R_NoName T.u_NoName_ValueError))) (fun z => nomatch z) fun _ H1 e1 => ?_
  have hat1 := excAt_ex e1 hat
  refine ⟨_, rfl, (by show 3 ≤ sizeLine; decide), fun p3 np => ⟨.ref e, p3, [.ref a.NoEntry, .ref a.NothingToUndo, .ref a.UnknownBrand], .ref a.NoName, [.ref a.NoEntry, .ref a.NothingToUndo, .ref a.UnknownBrand], false, rfl, upd_same, .cons (.own _) (.cons (.own _) (.cons (.own _) .nil)), .exc (excAt_ex (Ex.new np) hat1) T.R_NoName,
    kitAny_cons T.u_NoName_NoEntry (fun _ => kitAny_cons T.u_NoName_NothingToUndo (fun _ => kitAny_cons T.u_NoName_UnknownBrand (fun _ => kitAny_nil) fun z => z) fun z => z) (fun z => z), false, rfl, ?_⟩⟩
  exact ⟨_, rfl, e, a.NoName, d', _, v, rfl, excAt_ex (Ex.new np) hat1, T.R_NoName, T.n_NoName_given, rfl, (by show 1 ≤ sizeLine; decide), fun p hp sp => hq p _ (fresh_back ((x0.trans e1).trans (Ex.new np)) hp) sp (((x0.trans e1).trans (Ex.new np)).trans (Ex.new hp)) upd_same⟩

end
end BJL

namespace BJL
open PySem PySem.Spec PyProof.Rows L2 BJ
section
variable {P : Program} {w : World} {K : PySem.W.Frag} {mg : Str → Option Value} {base : Heap} {a : Adr}
open Evl
/-- new tuples (word, number) in a list -/
inductive PL (H : Hp) : List (Str × Int) → List V → Prop
  | nil : PL H [] []
  | cons {z : Str} {n : Int} {l : List (Str × Int)} {p : Addr} {vs : List V} : H p = some (.tup [.str z, .int n]) → PL H l vs → PL H ((z, n) :: l) (.ref p :: vs)
theorem PL.mono {H H' : Hp} (x : Ex H H') {l : List (Str × Int)} {vs : List V} (h : PL H l vs) : PL H' l vs := by
  induction h with
  | nil => exact .nil
  | cons h t ih => exact .cons (x _ _ h) ih
theorem PL.put {H : Hp} {D : Addr} {xs ys : List V} (hD : H D = some (.lst xs)) {l : List (Str × Int)} {vs : List V} (h : PL H l vs) : PL (upd H D (.lst ys)) l vs := by
  induction h with
  | nil => exact .nil
  | cons h t ih => exact .cons (by rw [upd_ne (ne_of h hD (fun z => nomatch z))]; exact h) ih
theorem PL.append {H : Hp} {l l' : List (Str × Int)} {vs vs' : List V} (h : PL H l vs) (h' : PL H l' vs') : PL H (l ++ l') (vs ++ vs') := by
  induction h with
  | nil => exact h'
  | cons h t ih => exact .cons h ih
theorem PL.length {H : Hp} {l : List (Str × Int)} {vs : List V} (h : PL H l vs) : vs.length = l.length := by
  induction h with
  | nil => rfl
  | cons h t ih => rw [List.length_cons, List.length_cons, ih]
theorem PL.get {H : Hp} {l : List (Str × Int)} {vs : List V} (h : PL H l vs) : ∀ (i : Nat) (z : Str) (n : Int), l[i]? = some (z, n) → ∃ p, vs[i]? = some (.ref p) ∧ H p = some (.tup [.str z, .int n]) := by
  induction h with
  | nil => intro i z n h; simp at h
  | cons h t ih =>
    intro i z n hi
    cases i with
    | zero =>
      simp at hi
      obtain ⟨rfl, rfl⟩ := hi
      exact ⟨_, rfl, h⟩
    | succ i =>
      simp only [List.getElem?_cons_succ] at hi
      exact ih i z n hi
def wordsP : List Str → List (Str × Int)
  | a :: b :: r => (a, (PySem.intText? b).getD 0) :: wordsP r
  | _ => []
def wordsOk : List Str → Bool
  | _ :: b :: r => (PySem.intText? b).isSome && decide (b.length ≤ 640) && wordsOk r
  | [] => true
  | _ => false
theorem words_at : ∀ {l : List Str}, wordsOk l = true → l.length = 2 * (wordsP l).length ∧ ∀ i, i < (wordsP l).length → ∃ z b n, l[2 * i]? = some z ∧ l[2 * i + 1]? = some b ∧ PySem.intText? b = some n ∧ b.length ≤ 640 ∧ (wordsP l)[i]? = some (z, n)
  | [], _ => ⟨rfl, fun i h => by simp [wordsP] at h⟩
  | [_], h => by simp [wordsOk] at h
  | a :: b :: r, h => by
    unfold wordsOk at h
    simp only [Bool.and_eq_true, decide_eq_true_eq] at h
    obtain ⟨⟨h1, h2⟩, h3⟩ := h
    obtain ⟨i1, i2⟩ := words_at h3
    obtain ⟨n, hn⟩ := Option.isSome_iff_exists.mp h1
    refine ⟨by simp only [wordsP, List.length_cons, i1]; omega, fun i hi => ?_⟩
    cases i with
    | zero => exact ⟨a, b, n, rfl, rfl, hn, h2, by simp [wordsP, hn]⟩
    | succ i =>
      obtain ⟨z, b', n', e1, e2, e3, e4, e5⟩ := i2 i (by simp only [wordsP, List.length_cons] at hi; omega)
      exact ⟨z, b', n', by rw [show 2 * (i + 1) = 2 * i + 1 + 1 by omega]; simpa using e1, by rw [show 2 * (i + 1) + 1 = 2 * i + 1 + 1 + 1 by omega]; simpa using e2, e3, e4, by simpa [wordsP] using e5⟩
def texts : List Str := [("stop 1 version 2 frame 4 none 1 false 1 true 1 integer-line 1 integer-octet 2 integer-counted 2 text-line 1" : Str), ("text-wide 2 text-short 3 octets-line 1 octets-wide 3 mark 1 drop 1 drop-to-mark 1 pack 1 pack-0 2 pack-1 2" : Str), ("pack-2 2 pack-3 2 row 1 append 1 append-all 2 book 1 enter 1 enter-all 2 bag 4 add-all 4 put-line 1" : Str), ("put-octet 2 put-wide 2 put-next 3 get-line 1 get-octet 2 get-wide 2 class-line 1 class-text 4 make 1 build 1" : Str), ("outer-line 1 outer-text 2" : Str)]
theorem texts_ok : ∀ t ∈ texts, wordsOk (Txt.split t " ") = true ∧ t.length ≤ 1000 ∧ (wordsP (Txt.split t " ")).length ≤ 100 := by decide +kernel
theorem texts_all : (texts.flatMap fun t => wordsP (Txt.split t " ")) = rowsN.map fun r => (r.1, r.2.1) := by decide +kernel
def tableL : List (Str × Int) := rowsN.map fun r => (r.1, r.2.1)
def spTable : Sp := fun vs H Q _ => vs = [] ∧ ∀ p l H', H p = none → Ex H H' → H' p = some (.lst l) → PL H' tableL l → Q (.ref p) H'

end
end BJL

namespace BJL
open PySem PySem.Spec PyProof.Rows L2 BJ
section
variable {P : Program} {w : World} {K : PySem.W.Frag} {mg : Str → Option Value} {base : Heap} {a : Adr}
open Evl
theorem rgc2 (m : Nat) (h : m ≤ 1000000) : RgC 0 ((2 * m : Nat) : Int) 2 m := by
  have e : Builtin.Range.rangeSize 0 ((2 * m : Nat) : Int) 2 = (m : Int) := by
    unfold Builtin.Range.rangeSize
    rw [if_pos (by decide)]
    split <;> omega
  refine ⟨by decide, by decide, ?_, e⟩
  have f : ∀ i : Int, -1000000000 ≤ i → i ≤ 1000000000 → Builtin.Range.rangeFitsLong i = true := fun i h1 h2 => by
    unfold Builtin.Range.rangeFitsLong
    rw [Bool.and_eq_true]
    exact ⟨decide_eq_true (by omega), decide_eq_true (by omega)⟩
  unfold Builtin.Range.small
  rw [e, f 0 (by omega) (by omega), f ((2 * m : Nat) : Int) (by omega) (by omega), f 2 (by omega) (by omega), f (m : Int) (by omega) (by omega), if_pos (by decide), f _ (by omega) (by omega), Bool.or_true]
  rfl
theorem ok__law_table (T : Txt P K mg a) : CallP P w K mg base 1 (.ref a._law_table) spTable := by
  refine T.d__law_table.ok sc__law_table (fun vs H Q E h => ?_) (fun cdv A outer s H vs Q E hr hG h => ?_)
  · obtain ⟨rfl, _⟩ := h
    rfl
  · obtain ⟨rfl, hq⟩ := h
    refine ⟨_, (pss_cons (ps_set (i := 0) sc__law_table.nd rfl (Or.inl rfl) (pe_lst pa_nil))
 (pss_cons (ps_for (passes_of rfl) rfl (pi_tup (pe_tup (pa_cons pe_str (pa_cons pe_str (pa_cons pe_str (pa_cons pe_str (pa_cons pe_str pa_nil))))))) (pg_name (i := 1) sc__law_table.nd rfl (Or.inl rfl))
 (pss_cons (ps_set (i := 2) sc__law_table.nd rfl (Or.inr rfl) (pe_split (pv 1) pe_str))
 (pss_one (ps_set (i := 0) sc__law_table.nd rfl (Or.inl rfl) (pe_op op_catS (pv 0) (pe_lc (own := [("at", 3)]) (g := (gName 3)) (by rfl) sc__law_table.nd (pi_range3 (by rfl) T.b_range (pa_cons pe_int (pa_cons (pe_callB call_len_seq (by rfl) T.b_len (by decide +kernel) (pa_cons (pv 2) pa_nil)) (pa_cons pe_int pa_nil)))) (blkOk_by (own := [("at", 3)]) (N := ["found", "row", "words", "at"]) (sc := defScope s__law_table) (by decide +kernel)) (fun _ _ _ _ _ => (pg_name (i := 3) sc__law_table.nd rfl (Or.inl rfl))) (fun _ _ _ _ _ => pts_nil) (fun _ _ _ _ _ => (pe_tup (pa_cons (pe_ix (ix_list' (K := K) rfl) (pv 2) (pv 3) (fun _ _ => rfl)) (pa_cons (pe_callTy call_int_str (by rfl) T.b_int (by decide +kernel) (pa_cons (pe_ix (ix_list' (K := K) rfl) (pv 2) (pe_op op_add (pv 3) pe_int) (fun _ _ => rfl)) pa_nil)) pa_nil))))))))))
 (pss_one (ps_ret (pv 0))))), ?_⟩
    have hst : L2.start ["found", "row", "words", "at"] [] = [none, none, none, none] := rfl
    rw [hst]
    refine ⟨(by show 0 ≤ sizeLine; decide), fun p0 n0 => ?_⟩
    have x0 := Ex.new (o := .lst []) n0
    have h0 : (upd H p0 (.lst [])) p0 = some (.lst []) := upd_same
    generalize upd H p0 (.lst []) = H0 at x0 h0
    have hi : EvI (iTup K (tTup (tCons (tC (texts.getD 0 "" |> V.str)) (tCons (tC (texts.getD 1 "" |> V.str)) (tCons (tC (texts.getD 2 "" |> V.str)) (tCons (tC (texts.getD 3 "" |> V.str)) (tCons (tC (texts.getD 4 "" |> V.str)) tNil))))))) [some (.ref p0), none, none, none] H0 (texts.map V.str) :=
      ei_tupU (eu_tup (ea_cons ev_c (ea_cons ev_c (ea_cons ev_c (ea_cons ev_c (ea_cons ev_c ea_nil))))) (show 5 ≤ 100000 by decide))
    refine hi H0 (Ex.refl _) _ fun H1 J G e1 w1 hG => for_it w1 (fun i σ H' => Ex H1 H' ∧ ∃ p l o1 o2 o3, σ = [some (.ref p), o1, o2, o3] ∧ H p = none ∧ H' p = some (.lst l) ∧ PL H' ((texts.take i).flatMap fun t => wordsP (Txt.split t " ")) l ∧ l.length ≤ 100 * i)
      ⟨Ex.refl _, p0, [], none, none, none, rfl, n0, e1 _ _ h0, .nil, by simp⟩ (fun i σ H' _ pp => hG H' pp.1) (fun i x σ H2 H3 hi5 ⟨e2, p, l, o1, o2, o3, hσ, np, hp, pl, ln⟩ y => ?turn) fun σ H2 ⟨e2, p, l, o1, o2, o3, hσ, np, hp, pl, ln⟩ => ?done
    case turn =>
      obtain ⟨y1, y2⟩ := y
      subst y1 hσ
      rw [List.length_map] at hi5
      rw [List.getElem?_map, List.getElem?_eq_getElem hi5] at y2
      cases y2
      generalize ht : texts[i] = t
      have htm : t ∈ texts := ht ▸ List.getElem_mem hi5
      obtain ⟨k1, k2, k3⟩ := texts_ok t htm
      have htk : (texts.take (i + 1)).flatMap (fun t => wordsP (Txt.split t " ")) = (texts.take i).flatMap (fun t => wordsP (Txt.split t " ")) ++ wordsP (Txt.split t " ") := by
        rw [List.take_succ_eq_append_getElem hi5, List.flatMap_append, ht]
        simp
      obtain ⟨w2, w3⟩ := words_at k1
      have i5 : i < 5 := hi5
      generalize hws : Txt.split t " " = ws at k1 k3 w2 w3 htk
      refine ⟨_, rfl, ⟨t, rfl⟩, t, " ", rfl, rfl, (by decide +kernel), (by rw [sizeLine_eq]; omega), ?_⟩
      rw [hws]
      intro pw nw
      have xw := Ex.new (o := .lst (ws.map V.str)) nw
      have hw : (upd H3 pw (.lst (ws.map V.str))) pw = some (.lst (ws.map V.str)) := upd_same
      generalize upd H3 pw (.lst (ws.map V.str)) = H4 at xw hw
      refine ⟨_, rfl, _, rfl, pw, ws.map V.str, rfl, .inl (sq_of hw), 0, _, 2, (wordsP ws).length, rfl, ?_, fun D nD => ?_⟩
      · rw [List.length_map, w2]
        exact rgc2 _ (by omega)
      refine lc_it (walk_rangeC (lo := 0) (c := 2) (n := (wordsP ws).length)) (fun j H' => H4 D = none ∧ Ex H4 H' ∧ ∃ vs, H' D = some (.lst vs) ∧ PL H' ((wordsP ws).take j) vs) ⟨nD, Ex.new nD, [], upd_same, .nil⟩ (fun _ _ _ _ => trivial) (fun j x H5 H6 hj ⟨_, e5, vs, hD, plD⟩ y => ?_) fun H5 ⟨_, e5, vs, hD, plD⟩ => ?_
      · obtain ⟨y1, y2⟩ := y
        subst y1 y2
        obtain ⟨z, b, n, g1, g2, g3, g4, g5⟩ := w3 j hj
        have ej : (0 + (j : Int) * 2) = ((2 * j : Nat) : Int) := by omega
        show gName 3 (.int (0 + (j : Int) * 2)) _ _ _
        rw [ej]
        have at1 : atI (ws.map V.str) ((2 * j : Nat) : Int) = some (.str z) := atI_nat (by rw [List.getElem?_map, g1]; rfl)
        have at2 : atI (ws.map V.str) (((2 * j : Nat) : Int) + 1) = some (.str b) := by
          rw [show ((2 * j : Nat) : Int) + 1 = ((2 * j + 1 : Nat) : Int) by omega]
          exact atI_nat (by rw [List.getElem?_map, g2]; rfl)
        refine ⟨rfl, _, rfl, _, rfl, pw, _, _, _, rfl, rfl, sq_of (e5 _ _ hw), at1, _, rfl, _, rfl, _, _, rfl, rfl, pw, _, _, _, rfl, rfl, sq_of (e5 _ _ hw), at2, b, n, rfl, g3, g4, (by show 2 ≤ sizeLine; decide), fun q nq => ?_⟩
        have xq := Ex.new (o := .tup [.str z, .int n]) nq
        have hl := plD.length
        have htj : (wordsP ws).take (j + 1) = (wordsP ws).take j ++ [(z, n)] := by
          rw [List.take_succ, g5]
          rfl
        refine ⟨vs, xq _ _ hD, by rw [hl, List.length_take, sizeLine_eq]; omega, nD, Ex.mut (e5.trans xq) nD, vs ++ [.ref q], upd_same, ?_⟩
        rw [htj]
        exact ((plD.mono xq).append (.cons upd_same .nil)).put (xq _ _ hD)
      · have pl5 := (pl.mono (xw.trans e5)).append (show PL H5 (wordsP ws) vs by rw [List.take_length] at plD; exact plD)
        have hl := plD.length
        rw [List.take_length] at hl
        refine ⟨p, D, l, vs, rfl, rfl, .inl (.inl (e5 _ _ (xw _ _ hp))), .inl (.inl hD), by rw [sizeLine_eq]; omega, fun r nr => ?_⟩
        have xr := Ex.new (o := .lst (l ++ vs)) nr
        refine ⟨((e2.trans xw).trans e5).trans xr, r, l ++ vs, _, _, _, rfl, fresh_back ((((x0.trans e1).trans e2).trans xw).trans e5) nr, upd_same, ?_, by rw [List.length_append]; omega⟩
        rw [htk]
        exact pl5.mono xr
    case done =>
      subst hσ
      refine ⟨_, rfl, hq p l H2 np ((x0.trans e1).trans e2) hp ?_⟩
      have : (texts.take (texts.map V.str).length).flatMap (fun t => wordsP (Txt.split t " ")) = tableL := by
        rw [List.length_map, List.take_length]
        exact texts_all
      rw [this] at pl
      exact pl

end
end BJL

namespace BJL
open PySem PySem.Spec PyProof.Rows L2 BJ
section
variable {P : Program} {w : World} {K : PySem.W.Frag} {mg : Str → Option Value} {base : Heap} {a : Adr}
theorem ok__law_mixed (T : Txt P K mg a) : CallO P w K mg base 1 (.ref a._law_mixed) spMixed := by
  refine fnO (T.d__law_mixed.okX sc__law_mixed (fun vs H Q E h => ?_) (fun cdv A outer s H vs Q E hr h => ?_))
  · obtain ⟨cell, k, rfl, _⟩ := h
    rfl
  · obtain ⟨cell, k, rfl, k0, k1, hq⟩ := h
    refine ⟨_, (pss_cons (ps_set (i := 2) sc__law_mixed.nd rfl (Or.inl rfl) (pe_op op_mod (pe_op op_add (pe_op op_add (pe_op op_add (pe_op op_mod (pv 0) pe_int) (pe_op op_mul (pe_op op_mul pe_int (pv 1)) (pv 1))) (pe_op op_mul pe_int (pv 1))) pe_int) pe_int))
 (pss_cons (ps_set (i := 2) sc__law_mixed.nd rfl (Or.inl rfl) (pe_op op_mod (pe_op op_mul (pe_op op_mod (pe_op op_mul (pv 2) (pv 2)) pe_int) (pv 2)) pe_int))
 (pss_one (ps_ret (pe_op op_fdiv (pe_op op_mod (pe_op op_mul (pv 2) (pe_op op_add pe_int (pe_op op_mul pe_int (pe_op op_mod (pv 1) pe_int)))) pe_int) pe_int))))), ?_⟩
    refine ⟨_, rfl, _, _, rfl, rfl, (by show (0 : Int) < _; decide), _, rfl, _, _, rfl, rfl, .inl (by omega), _, rfl, _, _, rfl, rfl, .inl (by constructor <;> omega), _, _, rfl, rfl, _, rfl, _, _, rfl, rfl, .inl (by omega), _, _, rfl, rfl, _, _, rfl, rfl, _, _, rfl, rfl, (by show (0 : Int) < _; decide), ?_⟩
    generalize hm : (cell % 1000000007 + 7919 * k * k + 31 * k + 7) % 2147483647 = m
    have m0 : 0 ≤ m := by omega
    have m1 : m < 2147483647 := by omega
    refine ⟨_, rfl, _, rfl, _, _, rfl, rfl, .inl (by omega), _, _, rfl, rfl, (by show (0 : Int) < _; decide), _, rfl, _, _, rfl, rfl, .inl (by omega), _, _, rfl, rfl, (by show (0 : Int) < _; decide), ?_⟩
    generalize hm2 : m * m % 2147483647 * m % 2147483629 = m'
    have m0' : 0 ≤ m' := by omega
    have m1' : m' < 2147483629 := by omega
    refine ⟨_, rfl, _, rfl, _, _, rfl, rfl, (by show (0 : Int) < _; decide), _, _, rfl, rfl, .inl (by omega), _, _, rfl, rfl, _, _, rfl, rfl, .inl (by omega), _, _, rfl, rfl, (by show (0 : Int) < _; decide), _, _, rfl, rfl, ⟨by decide, by decide⟩, ?_⟩
    exact hq _ (by omega)
theorem ok__law_begin (T : Txt P K mg a) : CallO P w K mg base 1 (.ref a._law_begin) (spBegin K) := by
  refine fnO (T.d__law_begin.okX sc__law_begin (fun vs H Q E h => ?_) (fun cdv A outer s H vs Q E hr h => ?_))
  · obtain ⟨s, ns, rfl, _⟩ := h
    rfl
  · obtain ⟨s, ns, rfl, hS, hl, hq⟩ := h
    refine ⟨_, (pss_one (ps_ret (pe_disp (pps_cons pe_str (pe_op op_catS (pv 0) (pe_lst (pa_cons pe_int pa_nil))) (pps_cons pe_str pe_int (pps_cons pe_str pe_int (pps_cons pe_str pe_int pps_nil)))) (by rfl) (by rfl) (fun z => by cases z) (by decide)))), ?_⟩
    intro d nd
    refine ⟨_, rfl, (by show 1 ≤ sizeLine; decide), fun q nq => ?_⟩
    have hS1 : Scr K (upd (upd H d (.dK [])) q (.lst [.int 0])) s (ns.map V.int) := by
      rcases hS with (h | ⟨o, h⟩) | h
      · exact .inl (.inl (upd_keep (upd_keep h nd) nq))
      · exact .inl (.inr ⟨o, upd_keep (upd_keep h nd) nq⟩)
      · exact .inr h
    have nqd : q ≠ d := fun z => by
      rw [z, upd_same] at nq
      cases nq
    have nq0 : H q = none := by rw [upd_ne nqd] at nq; exact nq
    refine ⟨_, _, _, _, rfl, rfl, hS1, .inl (.inl upd_same), (by rw [List.length_map, sizeLine_eq]; show ns.length + 1 ≤ 16777216; omega), fun c nc => ?_⟩
    have ncq : c ≠ q := fun z => by
      rw [z, upd_same] at nc
      cases nc
    have ncd : c ≠ d := fun z => by
      rw [z, upd_ne nqd.symm, upd_same] at nc
      cases nc
    have nc0 : H c = none := by rw [upd_ne ncq, upd_ne ncd] at nc; exact nc
    refine ⟨?_, drw c 0 0 0, rfl, (by show 4 ≤ 15; decide), ?_⟩
    · rw [upd_ne ncd.symm, upd_ne nqd.symm, upd_same]
    have em : mergeK [] (drw c 0 0 0) = drw c 0 0 0 := by
      have h1 : ¬ (("cells" : Str) = "at") := by decide
      have h2 : ¬ (("cells" : Str) = "left") := by decide
      have h3 : ¬ (("cells" : Str) = "used") := by decide
      have h4 : ¬ (("at" : Str) = "left") := by decide
      have h5 : ¬ (("at" : Str) = "used") := by decide
      have h6 : ¬ (("left" : Str) = "used") := by decide
      simp [mergeK, drw, putK, h1, h2, h3, h4, h5, h6]
    rw [em]
    refine hq d c _ (fun p o e => ?_) nd nc0 ⟨⟨0, 0, 0, upd_same, by omega, by omega, by omega, by omega, by omega⟩, ?_, by simp, by rw [List.length_append]; show ns.length + 1 ≤ 64; omega⟩
    · have pd : p ≠ d := ne_of_none e nd
      rw [upd_ne pd, upd_ne (ne_of_none e nc0), upd_ne (ne_of_none e nq0), upd_ne pd]
      exact e
    · rw [upd_ne ncd, upd_same, List.map_append]
      rfl

end
end BJL

namespace BJL
open PySem PySem.Spec PyProof.Rows L2 BJ
section
variable {P : Program} {w : World} {K : PySem.W.Frag} {mg : Str → Option Value} {base : Heap} {a : Adr}
theorem ok__law_next (T : Txt P K mg a) : CallO P w K mg base 2 (.ref a._law_next) spNext := by
  have G__law_mixed : CallO P w K mg base 1 (.ref a._law_mixed) spMixed := ok__law_mixed T
  refine fnO (T.d__law_next.okX sc__law_next (fun vs H Q E h => ?_) (fun cdv A outer s H vs Q E hr h => ?_))
  · obtain ⟨d, c, cells, n, b, rfl, _⟩ := h
    rfl
  · obtain ⟨d, c, cells, n, b, rfl, D, hn, b0, b1, hq⟩ := h
    have hu := hu_of hr
    refine ⟨_, (pss_cons (ps_if (pt_cmpR op_gt (pe_dget hu (pv 0) pe_str (fun _ _ => rfl)) pe_int (nomark _))
 (pss_cons (ps_set (i := 2) sc__law_next.nd rfl (Or.inl rfl) (pe_op op_modN (pe_dget hu (pv 0) pe_str (fun _ _ => rfl)) (pv 1)))
 (pss_cons (ps_dput hu (pv 0) pe_str (pe_op op_fdivN (pe_dget hu (pv 0) pe_str (fun _ _ => rfl)) (pv 1)) rfl)
 (pss_one (ps_ret (pv 2)))))
 pss_nil)
 (pss_cons (ps_set (i := 3) sc__law_next.nd rfl (Or.inl rfl) (pe_dget hu (pv 0) pe_str (fun _ _ => rfl)))
 (pss_cons (ps_set (i := 4) sc__law_next.nd rfl (Or.inl rfl) (pe_ix (ix_list' (K := K) rfl) (pv 3) (pe_op op_modN (pe_dget hu (pv 0) pe_str (fun _ _ => rfl)) (pe_callB call_len_seq (by rfl) T.b_len (by decide +kernel) (pa_cons (pv 3) pa_nil))) (fun _ _ => rfl)))
 (pss_cons (ps_dput hu (pv 0) pe_str (pe_op op_add (pe_dget hu (pv 0) pe_str (fun _ _ => rfl)) pe_int) rfl)
 (pss_cons (ps_if (PW.pt (pw_and (pt_cmpR op_ge (pv 4) (pe_op op_pow pe_int pe_int) (nomark _)) (pw_and1 (pt_cmpR op_le (pe_dget hu (pv 0) pe_str (fun _ _ => rfl)) (pe_callB call_len_seq (by rfl) T.b_len (by decide +kernel) (pa_cons (pv 3) pa_nil)) (nomark _)))))
 (pss_cons (ps_dput hu (pv 0) pe_str (pe_op op_fdivN (pv 4) (pv 1)) rfl)
 (pss_one (ps_ret (pe_op op_modN (pv 4) (pv 1)))))
 pss_nil)
 (pss_cons (ps_dput hu (pv 0) pe_str (pe_op op_add (pe_dget hu (pv 0) pe_str (fun _ _ => rfl)) pe_int) rfl)
 (pss_one (ps_ret (pe_op op_modN (pe_co G__law_mixed (hr.mono (by decide)) rfl T.g__law_mixed T.k__law_mixed (takes_of rfl rfl rfl rfl) (pa_cons (pe_co G__law_mixed (hr.mono (by decide)) rfl T.g__law_mixed T.k__law_mixed (takes_of rfl rfl rfl rfl) (pa_cons (pv 4) (pa_cons (pe_dget hu (pv 0) pe_str (fun _ _ => rfl)) pa_nil))) (pa_cons (pe_dget hu (pv 0) pe_str (fun _ _ => rfl)) pa_nil))) (pv 1)))))))))), ?_⟩
    obtain ⟨av, lv, uv, hd, a0, a1, u0, u1, l0⟩ := D.dict
    have bb : b.natAbs < 1073741824 := by omega
    refine ⟨_, rfl, d, _, rfl, dg (k := .inr "left") hd drw_left, _, _, rfl, rfl, _, rfl, ?_⟩
    refine ifd (fun hl => ?_) (fun hl => ?_)
    · refine ⟨_, rfl, d, _, rfl, dg (k := .inr "left") hd drw_left, _, rfl, _, _, rfl, rfl, (by show b ≠ 0; omega), ?_⟩
      refine ⟨_, rfl, d, _, rfl, dg (k := .inr "left") hd drw_left, _, rfl, _, _, rfl, rfl, ⟨(by omega), bb⟩, _, rfl, d, _, rfl, dp (k := .inr "left") hd drw_put_left (by show 4 < 1000; decide), ?_⟩
      refine ⟨_, rfl, ?_⟩
      exact hq _ _ (fm b0).1 (fm b0).2 (Dr_up D a0 (by omega) u0 (by omega) (fd b0 l0)) But.upd
    · refine ⟨_, rfl, d, _, rfl, dg (k := .inr "cells") hd drw_cells, ?_⟩
      have hlen : 0 < cells.length := List.length_pos_iff.mpr D.ne
      have hm := fm (i := av) (b := (cells.length : Int)) (by omega)
      have hi : (av.fmod (cells.length : Int)).toNat < cells.length := by omega
      have hx : (cells.map V.int)[(av.fmod (cells.length : Int)).toNat]? = some (.int cells[(av.fmod (cells.length : Int)).toNat]) := by
        rw [List.getElem?_map, List.getElem?_eq_getElem hi]
        rfl
      generalize cells[(av.fmod (cells.length : Int)).toNat] = cell at hx
      have hlm : ((cells.map V.int).length : Int) = (cells.length : Int) := by rw [List.length_map]
      have hat : atI (cells.map V.int) (av.fmod ((cells.map V.int).length : Int)) = some (.int cell) := by
        rw [hlm]
        have := atI_nat hx
        rw [show (((av.fmod (cells.length : Int)).toNat : Nat) : Int) = av.fmod (cells.length : Int) by omega] at this
        exact this
      refine ⟨_, rfl, _, rfl, d, _, rfl, dg (k := .inr "at") hd drw_at, _, rfl, c, _, rfl, .inl (SqL.of D.list), _, _, rfl, rfl, (by show (((cells.map V.int).length : Nat) : Int) ≠ 0; omega), c, _, _, _, rfl, rfl, SqL.of D.list, hat, ?_⟩
      refine ⟨_, rfl, d, _, rfl, dg (k := .inr "at") hd drw_at, _, _, rfl, rfl, _, rfl, d, _, rfl, dp (k := .inr "at") hd drw_put_at (by show 4 < 1000; decide), ?_⟩
      have hd1 : (upd H d (.dK (drw c (av + 1) lv uv))) d = some (.dK (drw c (av + 1) lv uv)) := upd_same
      have hc1 : SqL K (upd H d (.dK (drw c (av + 1) lv uv))) c (cells.map V.int) := SqL.of (by rw [upd_ne D.dc.symm]; exact D.list)
      -- the way by the mixer
      have fin : ∀ r : Int, Q (.int (r.fmod b)) (upd (upd H d (.dK (drw c (av + 1) lv uv))) d (.dK (drw c (av + 1) lv (uv + 1)))) := fun r => by
        rw [upd_upd]
        exact hq _ _ (fm b0).1 (fm b0).2 (Dr_up D (by omega) (by omega) (by omega) (by omega) l0) But.upd
      have last : ∀ tl, tl = (tSeq (sDPut (tVar 0) (tC (V.str "used")) (tOp (rI0 fun i j => V.int (i + j)) (tDGet (tVar 0) (tC (V.str "used"))) (tC (V.int 1))))
          (tRet (tOp (rI (fun x j => j ≠ 0) fun i j => V.int (i.fmod j)) (tCa spMixed (fun cls d _ H => E cls d H) (tCons (tCa spMixed (fun cls d _ H => E cls d H) (tCons (tVar 4) (tCons (tDGet (tVar 0) (tC (V.str "at"))) tNil))) (tCons (tDGet (tVar 0) (tC (V.str "used"))) tNil))) (tVar 1)))) →
          tl { nx := fun _ H' => Q .non H', rt := Q } [some (.ref d), some (.int b), none, some (.ref c), some (.int cell)] (upd H d (.dK (drw c (av + 1) lv uv))) := by
        rintro _ rfl
        have hd2 : (upd (upd H d (.dK (drw c (av + 1) lv uv))) d (.dK (drw c (av + 1) lv (uv + 1)))) d = some (.dK (drw c (av + 1) lv (uv + 1))) := upd_same
        refine ⟨_, rfl, d, _, rfl, dg (k := .inr "used") hd1 drw_used, _, _, rfl, rfl, _, rfl, d, _, rfl, dp (k := .inr "used") hd1 drw_put_used (by show 4 < 1000; decide), ?_⟩
        refine ⟨_, rfl, _, rfl, d, _, rfl, dg (k := .inr "at") hd2 drw_at, cell, av + 1, rfl, by omega, by omega, fun r r0 => ?_⟩
        refine ⟨_, rfl, d, _, rfl, dg (k := .inr "used") hd2 drw_used, r, uv + 1, rfl, by omega, by omega, fun r' r0' => ?_⟩
        exact ⟨_, rfl, _, _, rfl, rfl, (by show b ≠ 0; omega), fin r'⟩
      refine ⟨_, rfl, _, _, rfl, rfl, ⟨by decide, by decide, by decide⟩, _, _, rfl, rfl, _, rfl, ?_⟩
      refine ifd (fun h1 => ?_) (fun h1 => ?_)
      · refine ⟨_, rfl, d, _, rfl, dg (k := .inr "at") hd1 drw_at, _, rfl, c, _, rfl, .inl hc1, _, _, rfl, rfl, _, rfl, ?_⟩
        refine ifd (fun h2 => ?_) (fun h2 => last _ rfl)
        refine ⟨_, rfl, _, rfl, _, _, rfl, rfl, ⟨(by omega), bb⟩, _, rfl, d, _, rfl, dp (k := .inr "left") hd1 drw_put_left (by show 4 < 1000; decide), ?_⟩
        refine ⟨_, rfl, _, rfl, _, _, rfl, rfl, (by show b ≠ 0; omega), ?_⟩
        rw [upd_upd]
        have hcell : (0 : Int) ≤ cell := by
          have h1' : (10 : Int) ^ (18 : Int).toNat ≤ cell := h1
          have h10 : (0 : Int) ≤ (10 : Int) ^ (18 : Int).toNat := by decide
          omega
        exact hq _ _ (fm b0).1 (fm b0).2 (Dr_up D (by omega) (by omega) (by omega) (by omega) (fd b0 hcell)) But.upd
      · refine iteF ?_
        exact last _ rfl

end
end BJL

namespace BJL
open PySem PySem.Spec PyProof.Rows L2 BJ
section
variable {P : Program} {w : World} {K : PySem.W.Frag} {mg : Str → Option Value} {base : Heap} {a : Adr}
open Evl
def oddW (w : Str) : List Str := [Txt.upper w, w ++ (" " : Str), (" " : Str) ++ w, cutS w (some 1) none, w ++ ("s" : Str), Txt.replace w "-" "_" ++ ("_" : Str), w ++ ("\n" : Str)]
def ok2 (d : PyData) : Bool := (PyData.list [.list [d], .list [d]]).showable && decide ((PyData.list [.list [d], .list [d]]).depth ≤ 40) && decide ((PyData.list [.list [d], .list [d]]).shown.length ≤ sizeLine)
theorem ok2_z {d : PyData} (h : ok2 d = true) : ShowsZ (.list [.list [d], .list [d]]) := by
  unfold ok2 at h
  simp only [Bool.and_eq_true, decide_eq_true_eq] at h
  exact ⟨h.1.1, h.1.2, h.2⟩
theorem odd_w : ∀ r ∈ rowsN, ∀ z ∈ oddW r.1, (numL.lookup z).isSome = false ∧ ok2 (.str z) = true := by decide +kernel
theorem odd_d : ∀ r ∈ rowsN, ok2 (.list [.str r.1]) = true ∧ ok2 (.tuple [.str r.1]) = true ∧ ok2 (.dict [(.str r.1, .int 1)]) = true ∧ r.1.length ≤ 100 ∧ (Txt.replace r.1 "-" "_").length ≤ 100 := by decide +kernel
theorem odd_c : ok2 .none = true ∧ ok2 (.bool true) = true ∧ ok2 (.bool false) = true ∧ ok2 (.str "") = true ∧ ok2 (.dict []) = true ∧ ok2 (.int 160) = true ∧ ok2 (.int (10 ^ 40)) = true ∧ ok2 (.tuple [.int 1, .int 2]) = true ∧ (numL.lookup ("" : Str)).isSome = false := by decide +kernel
theorem tableL_at {k : Nat} (h : k < 43) : ∃ r, rowsN[k]? = some r ∧ r ∈ rowsN ∧ tableL[k]? = some (r.1, r.2.1) := by
  have hk : k < rowsN.length := by rw [rowsN_len]; exact h
  refine ⟨rowsN[k], List.getElem?_eq_getElem hk, List.getElem_mem hk, ?_⟩
  unfold tableL
  rw [List.getElem?_map, List.getElem?_eq_getElem hk]
  rfl

end
end BJL

namespace BJL
open PySem PySem.Spec PyProof.Rows L2 BJ
section
variable {P : Program} {w : World} {K : PySem.W.Frag} {mg : Str → Option Value} {base : Heap} {a : Adr}
open Evl
def spOdd (K : PySem.W.Frag) : Sp := fun vs H Q _ => ∃ (d c : Addr) (cells : List Int) (n : Nat) (t : Addr) (l : List V) (S : Hp), vs = [.ref d, .ref t] ∧ Dr H d c cells n ∧ n ≤ 1000 ∧ Stab d S ∧ Ex S H ∧ S t = some (.lst l) ∧ PL S tableL l ∧
  ∀ v dv H', SameBut d H H' → Dr H' d c cells (n + 2) → Dz K (cutH d H') v dv → isName v = false → ok2 dv = true → Q v H'
theorem fn__law_odd (T : Txt P K mg a) : CallO P w K mg base 3 (.ref a._law_odd) (spOdd K) := by
  have G__law_next : CallO P w K mg base 2 (.ref a._law_next) spNext := ok__law_next T
  refine fnO (T.d__law_odd.okT sc__law_odd (by decide +kernel) (by decide) (fun vs H Q E h => ?_) (fun cdv A outer s H vs Q E hr h => ?_))
  · obtain ⟨d, c, cells, n, t, l, S, rfl, _⟩ := h
    rfl
  · obtain ⟨d, c, cells, n, t, l, S, rfl, D, hn, st, eS, ht, pl, hq⟩ := h
    have hu := hu_of hr
    refine ⟨_, (psst_cons (PST.of (ps_set (i := 2) sc__law_odd.nd rfl (Or.inl rfl) (pe_ix (ix_tup' (K := K) rfl) (pe_ix (ix_list' (K := K) rfl) (pv 1) (pe_co G__law_next (hr.mono (by decide)) rfl T.g__law_next T.k__law_next (takes_of rfl rfl rfl rfl) (pa_cons (pv 0) (pa_cons pe_int pa_nil))) (fun _ _ => rfl)) pe_int (fun _ _ => rfl))))
 (psst_cons (PST.of (ps_set (i := 3) sc__law_odd.nd rfl (Or.inl rfl) (pe_lst (pa_cons pe_non (pa_cons pe_bl (pa_cons pe_bl (pa_cons pe_str (pa_cons (pe_upper (pv 2)) (pa_cons (pe_op op_add_str (pv 2) pe_str) (pa_cons (pe_op op_add_str pe_str (pv 2)) (pa_cons (pe_slice sl_str (pv 2) (po_some pe_int) po_none) (pa_cons (pe_op op_add_str (pv 2) pe_str) (pa_cons (pe_lstN (pa_cons (pv 2) pa_nil)) (pa_cons (pe_tup (pa_cons (pv 2) pa_nil)) (pa_cons pe_dnewK (pa_cons pe_int pa_nil))))))))))))))))
 (psst_cons (pst_set2 (i := 3) sc__law_odd.nd rfl (Or.inl rfl) (CwR.pet_op op_catS (CwR.PET.of (pv 3)) (pet_lst2 (pat_cons2 (CwR.pet_op op_add_str (CwR.pet_replC (pv 2)) (CwR.PET.of pe_str)) (PAT.of' (pa_cons (pe_op op_add_str (pv 2) pe_str) (pa_cons (pe_disp (pps_cons (pv 2) pe_int pps_nil) (by rfl) (by rfl) (fun z => by cases z) (by decide)) (pa_cons (pe_op op_pow pe_int pe_int) (pa_cons (pe_tup (pa_cons pe_int (pa_cons pe_int pa_nil))) pa_nil)))))))))
 (PSsT.of (pss_one (ps_ret (pe_ix (ix_list' (K := K) rfl) (pv 3) (pe_co G__law_next (hr.mono (by decide)) rfl T.g__law_next T.k__law_next (takes_of rfl rfl rfl rfl) (pa_cons (pv 0) (pa_cons pe_int pa_nil))) (fun _ _ => rfl)))))))), ?_⟩
    refine ⟨_, rfl, _, rfl, d, c, cells, n, 43, rfl, D, by omega, by omega, by omega, fun r H1 r0 r1 D1 B1 => ?_⟩
    have e1 : Ex S H1 := st.but eS B1.sb
    obtain ⟨row, hrow, hmem, htab⟩ := tableL_at (k := r.toNat) (by omega)
    obtain ⟨q, hq1, hq2⟩ := pl.get _ _ _ htab
    have hat : atI l r = some (.ref q) := by
      have := atI_nat hq1
      rw [show ((r.toNat : Nat) : Int) = r by omega] at this
      exact this
    obtain ⟨ow1, ow2, ow3, olen, orep⟩ := odd_d row hmem
    have oww := odd_w row hmem
    refine ⟨t, l, r, _, rfl, rfl, sq_of (e1 _ _ ht), hat, q, _, 0, _, rfl, rfl, st_of (e1 _ _ hq2), rfl, ?_⟩
    generalize row.1 = w at *
    have wz : w.length ≤ sizeLine := by rw [sizeLine_eq]; omega
    have l1 : (" " : Str).length = 1 := by decide +kernel
    have l2 : ("s" : Str).length = 1 := by decide +kernel
    have l3 : ("\n" : Str).length = 1 := by decide +kernel
    have l4 : ("_" : Str).length = 1 := by decide +kernel
    refine ⟨_, rfl, ⟨w, rfl⟩, w, rfl, rfl, (by omega), _, rfl, _, _, rfl, rfl, (by rw [l1, sizeLine_eq]; omega), _, rfl, _, _, rfl, rfl, (by rw [l1, sizeLine_eq]; omega), _, rfl, _, rfl, w, rfl, wz, _, rfl, _, _, rfl, rfl, (by rw [l2, sizeLine_eq]; omega),
      _, rfl, (by show 1 ≤ sizeLine; decide), fun p1 n1 s1 => ⟨_, rfl, (by show 1 ≤ sizeLine; decide), fun p2 n2 => fun p3 n3 => ⟨(by show 13 ≤ sizeLine; decide), fun p4 n4 => ?_⟩⟩⟩
    generalize hE : upd _ p4 (.lst _) = HE
    have x4 : Ex _ HE := hE ▸ Ex.new n4
    have x3 := (Ex.new n3).trans x4
    have x2 := (Ex.new n2).trans x3
    have x1 := (Ex.new n1).trans x2
    have h1 : HE p1 = some (.lst [.str w]) := x2 p1 _ upd_same
    have h2 : HE p2 = some (.tup [.str w]) := x3 p2 _ upd_same
    have h3 : HE p3 = some (.dK []) := x4 p3 _ upd_same
    have h4 : HE p4 = some (.lst [.non, .bl true, .bl false, .str "", .str (Txt.upper w), .str (w ++ (" " : Str)), .str ((" " : Str) ++ w), .str (cutS w (some 1) none), .str (w ++ ("s" : Str)), .ref p1, .ref p2, .ref p3, .int 160]) := by rw [← hE]; exact upd_same
    have l5 : ("_" : Str).length = 1 := by decide +kernel
    refine ⟨_, rfl, _, rfl, w, rfl, (by rw [l5]; omega), _, _, rfl, rfl, (by rw [l5, sizeLine_eq]; omega), _, rfl, _, _, rfl, rfl, (by rw [l3, sizeLine_eq]; omega), fun p5 n5 => ?_⟩
    refine ⟨_, rfl, upd_same, [(.inr w, .int 1)], rfl, (by show 1 ≤ 15; decide), ?_⟩
    rw [upd_upd]
    have e5 : mergeK [] [((.inr w : Key), V.int 1)] = [(.inr w, .int 1)] := by simp [mergeK, putK]
    rw [e5]
    refine ⟨_, _, rfl, rfl, ⟨by decide, by decide, by decide⟩, (by show 2 ≤ sizeLine; decide), fun p6 n6 => ⟨(by show 5 ≤ sizeLine; decide), fun p7 n7 => ?_⟩⟩
    generalize hE2 : upd _ p7 (.lst _) = HF
    have y7 : Ex _ HF := hE2 ▸ Ex.new n7
    have y6 := (Ex.new n6).trans y7
    have y5 := (Ex.new n5).trans y6
    have g5 : HF p5 = some (.dK [(.inr w, .int 1)]) := y6 p5 _ upd_same
    have g6 : HF p6 = some (.tup [.int 1, .int 2]) := y7 p6 _ upd_same
    have g7 : HF p7 = some (.lst [.str (Txt.replace w "-" "_" ++ ("_" : Str)), .str (w ++ ("\n" : Str)), .ref p5, .int (10 ^ 40), .ref p6]) := by rw [← hE2]; exact upd_same
    refine ⟨p4, p7, _, _, rfl, rfl, .inl (.inl (y5 _ _ h4)), .inl (.inl g7), (by show 18 ≤ sizeLine; decide), fun p8 n8 => ?_⟩
    have y8 := Ex.new (o := .lst ([V.non, .bl true, .bl false, .str "", .str (Txt.upper w), .str (w ++ (" " : Str)), .str ((" " : Str) ++ w), .str (cutS w (some 1) none), .str (w ++ ("s" : Str)), .ref p1, .ref p2, .ref p3, .int 160] ++ [.str (Txt.replace w "-" "_" ++ ("_" : Str)), .str (w ++ ("\n" : Str)), .ref p5, .int (10 ^ 40), .ref p6])) n8
    have z8 : (upd HF p8 (.lst ([V.non, .bl true, .bl false, .str "", .str (Txt.upper w), .str (w ++ (" " : Str)), .str ((" " : Str) ++ w), .str (cutS w (some 1) none), .str (w ++ ("s" : Str)), .ref p1, .ref p2, .ref p3, .int 160] ++ [.str (Txt.replace w "-" "_" ++ ("_" : Str)), .str (w ++ ("\n" : Str)), .ref p5, .int (10 ^ 40), .ref p6]))) p8 = _ := upd_same
    generalize upd HF p8 _ = HG at y8 z8
    have x18 : Ex H1 HG := ((x1.trans y5).trans y8)
    have DG := D1.same x18
    obtain ⟨kvs, hd1⟩ := D1.atd
    have nd : ∀ {p : Addr} {H' : Hp}, Ex H1 H' → H' p = none → p ≠ d := fun {p H'} x hp e => by
      rw [e, x _ _ hd1] at hp
      cases hp
    have m1 := nd (Ex.refl _) n1
    have m2 := nd (Ex.new n1) n2
    have m3 := nd ((Ex.new n1).trans (Ex.new n2)) n3
    have m5 := nd x1 n5
    have m6 := nd (x1.trans (Ex.new n5)) n6
    have m8 := nd (x1.trans y5) n8
    refine ⟨_, rfl, _, rfl, d, c, cells, n + 1, 18, rfl, DG, by omega, by omega, by omega, fun r2 H2 r20 r21 D2 B2 => ?_⟩
    have sb : SameBut d H H2 := (B1.sb.trans (SameBut.of x18)).trans B2.sb
    have k1 : cutH d H2 p1 = _ := cut_at ((B2 p1 m1).trans (y8 _ _ (y5 _ _ h1))) m1 (fun ps z => nomatch z)
    have k2 : cutH d H2 p2 = _ := cut_at ((B2 p2 m2).trans (y8 _ _ (y5 _ _ h2))) m2 (fun ps z => nomatch z)
    have k3 : cutH d H2 p3 = _ := cut_at ((B2 p3 m3).trans (y8 _ _ (y5 _ _ h3))) m3 (fun ps z => nomatch z)
    have k5 : cutH d H2 p5 = _ := cut_at ((B2 p5 m5).trans (y8 _ _ g5)) m5 (fun ps z => nomatch z)
    have k6 : cutH d H2 p6 = _ := cut_at ((B2 p6 m6).trans (y8 _ _ g6)) m6 (fun ps z => nomatch z)
    have k8 : H2 p8 = _ := (B2 p8 m8).trans z8
    suffices h : ∃ v dv, atI ([V.non, .bl true, .bl false, .str "", .str (Txt.upper w), .str (w ++ (" " : Str)), .str ((" " : Str) ++ w), .str (cutS w (some 1) none), .str (w ++ ("s" : Str)), .ref p1, .ref p2, .ref p3, .int 160] ++ [.str (Txt.replace w "-" "_" ++ ("_" : Str)), .str (w ++ ("\n" : Str)), .ref p5, .int (10 ^ 40), .ref p6]) r2 = some v ∧ Dz K (cutH d H2) v dv ∧ isName v = false ∧ ok2 dv = true by
      obtain ⟨v, dv, hv, hz, hi, ho⟩ := h
      exact ⟨p8, _, r2, v, rfl, rfl, sq_of k8, hv, hq v dv H2 sb D2 hz hi ho⟩
    obtain ⟨oc1, oc2, oc3, oc4, oc5, oc6, oc7, oc8, oc9⟩ := odd_c
    have wz : ∀ z ∈ oddW w, isName (.str z) = false ∧ ok2 (.str z) = true := oww
    obtain ⟨i, hi, rfl⟩ : ∃ i : Nat, i < 18 ∧ r2 = (i : Int) := ⟨r2.toNat, by omega, by omega⟩
    match i, hi with
    | 0, _ => exact ⟨_, _, rfl, .non, rfl, oc1⟩
    | 1, _ => exact ⟨_, _, rfl, .bl true, rfl, oc2⟩
    | 2, _ => exact ⟨_, _, rfl, .bl false, rfl, oc3⟩
    | 3, _ => exact ⟨_, _, rfl, .str _, oc9, oc4⟩
    | 4, _ => exact ⟨_, _, rfl, .str _, wz _ (by simp [oddW])⟩
    | 5, _ => exact ⟨_, _, rfl, .str _, wz _ (by simp [oddW])⟩
    | 6, _ => exact ⟨_, _, rfl, .str _, wz _ (by simp [oddW])⟩
    | 7, _ => exact ⟨_, _, rfl, .str _, wz _ (by simp [oddW])⟩
    | 8, _ => exact ⟨_, _, rfl, .str _, wz _ (by simp [oddW])⟩
    | 9, _ => exact ⟨_, _, rfl, .lst (sq_of k1) s1 (.cons (.str w) .nil), rfl, ow1⟩
    | 10, _ => exact ⟨_, _, rfl, .tup (st_of k2) (.cons (.str w) .nil), rfl, ow2⟩
    | 11, _ => exact ⟨_, _, rfl, .dict (kvs := []) (ds := []) k3 .nil, rfl, oc5⟩
    | 12, _ => exact ⟨_, _, rfl, .int 160, rfl, oc6⟩
    | 13, _ => exact ⟨_, _, rfl, .str _, wz _ (by simp [oddW])⟩
    | 14, _ => exact ⟨_, _, rfl, .str _, wz _ (by simp [oddW])⟩
    | 15, _ => exact ⟨_, _, rfl, .dict (kvs := [(.inr w, .int 1)]) (ds := [.int 1]) k5 (.cons (.int 1) .nil), rfl, ow3⟩
    | 16, _ => exact ⟨_, _, rfl, .int (10 ^ 40), rfl, oc7⟩
    | 17, _ => exact ⟨_, _, rfl, .tup (st_of k6) (.cons (.int 1) (.cons (.int 2) .nil)), rfl, oc8⟩

end
end BJL

namespace BJL
open PySem PySem.Spec PyProof.Rows L2 BJ
section
variable {P : Program} {w : World} {K : PySem.W.Frag} {mg : Str → Option Value} {base : Heap} {a : Adr}
open Evl
open LamX
abbrev lawN : List Str := ["script", "draw", "table", "word", "begun", "at", "told", "turn", "odd"]
abbrev lawB (i : Nat) : Stmt := (defBody s_law).getD i (.Pass ⟨0, 0, 0, 0⟩)
abbrev lawX (P : Program) (w : World) (K : PySem.W.Frag) (mg : Str → Option Value) (base : Heap) (a : Adr) (A : Around) (outer : List Env) (s : Shared) (H : Hp) (E : XK) : Cx := cxOf (L2.CX P w) P w K mg base lawN "law" (defScope s_law) a.law (.ref a.lcode) A outer s H E
/-- what stands at a turn of the law's loops -/
structure LW (a : Adr) (q : Str) (d c : Addr) (cells : List Int) (n : Nat) (S H : Hp) : Prop where
  st : Stab d S
  ex : Ex S H
  dr : Dr H d c cells n
  tb : Tabs [(a.tab, q)] H
theorem LW.same {a : Adr} {q : Str} {d c : Addr} {cells : List Int} {n : Nat} {S H H' : Hp} (l : LW a q d c cells n S H) (e : Ex H H') : LW a q d c cells n S H' := ⟨l.st, l.ex.trans e, l.dr.same e, l.tb.ext e⟩
theorem LW.extN {a : Adr} {q : Str} {d c : Addr} {cells : List Int} {n : Nat} {S H H' : Hp} (l : LW a q d c cells n S H) (e : ExtN H H') (tb : Tabs [(a.tab, q)] H') : LW a q d c cells n S H' := ⟨l.st, l.st.extN l.ex e, l.dr.extN e, tb⟩
def Sl (sc d t : Addr) (σ : L2.St) : Prop := ∃ o3 o4 o5 o6 o7 o8, σ = [some (.ref sc), some (.ref d), some (.ref t), o3, o4, o5, o6, o7, o8]
theorem int_ok {i : Int} (h : i.natAbs < 10 ^ 12) : ShowsZ (.list [.int i]) := by
  have h1 := show_ints [i] (fun n hn => by rw [List.mem_singleton.mp hn]; exact h)
  have h2 := short_ints [i] (fun n hn => by rw [List.mem_singleton.mp hn]; exact h)
  simp only [List.map_cons, List.map_nil] at h1 h2
  refine ⟨h1, by simp [PyData.depth, PyData.depthAll], PyData.shown_fits_bulk (B := 13) (by decide) (by decide) h2 (by simp [PyData.bulk, PyData.bulkAll])⟩
def okZ (d : PyData) : Bool := d.showable && decide (d.depth ≤ 40) && decide (d.shown.length ≤ sizeLine)
theorem okZ_z {d : PyData} (h : okZ d = true) : ShowsZ d := by
  unfold okZ at h
  simp only [Bool.and_eq_true, decide_eq_true_eq] at h
  exact ⟨h.1.1, h.1.2, h.2⟩
theorem law_at (T : Txt P K mg a) (hw : a.par = w.params) (TB : TabB base mg a.lcode a.tab) {A : Around} {outer : List Env} {s : Shared} {H0 : Hp} {E : XK} (hr : Room 6 (A.deeper (envOfC "law" (defScope s_law) s.heap.objs.size a.law (.ref a.lcode)))) (hG : A.guards = some []) :
    ∃ t, PS (lawX P w K mg base a A outer s H0 E) (lawB 3) t ∧ ∀ (D : Ends) (σ : L2.St) (H S : Hp) (d c : Addr) (cells : List Int) (n : Nat) (sc tt : Addr), Sl sc d tt σ → LW a ((lawX P w K mg base a A outer s H0 E).env.qual ++ ("<lambda>" : Str)) d c cells n S H →
      (∀ σ' H', Sl sc d tt σ' → LW a ((lawX P w K mg base a A outer s H0 E).env.qual ++ ("<lambda>" : Str)) d c cells n S H' → D.nx σ' H') → t D σ H := by
  have GO_name_of : CallO P w K mg base 3 (.ref a.name_of) (spNameOf K a) := fnO (fn_name_of T)
  obtain ⟨fdm, Fm, hb__law_missed⟩ := T.d__law_missed.fn
  obtain ⟨ocm, odm, kVm, docm, pmm, anm, cdm, ctm, oslm, rfl, lk__law_missed, hc__law_missed⟩ := Fm.ex
  refine ⟨_, (ps_for (passes_of rfl) rfl (pi_list (pe_op op_catS (pe_op op_catS (pe_listRg rfl (by rfl) T.b_list (prg_2 (by rfl) T.b_range pe_int pe_int)) (pe_listRg rfl (by rfl) T.b_list (prg_2 (by rfl) T.b_range pe_int pe_int))) (pe_lst (pa_cons (pe_op op_sub pe_int pe_int) (pa_cons (pe_op op_pow pe_int pe_int) (pa_cons pe_bl (pa_cons pe_non (pa_cons pe_str (pa_cons pe_str (pa_cons (pe_tup (pa_cons pe_int pa_nil)) (pa_cons (pe_lstN (pa_cons pe_int pa_nil)) pa_nil))))))))))) (pg_name (i := 5) sc_law.nd rfl (Or.inr rfl))
 (pss_one (ps_if (pt_cmpR op_ne (pe_callB (call_reprZ (K := K) rfl hr hG) (by rfl) T.b_repr (by decide +kernel) (pa_cons (pe_lam2 (T := [(a.tab, _)]) (TT := TMiss a) (c := a.lcode) (P := a.tab) (k := 3) (by rfl) T.g__law_missed T.k__law_missed lk__law_missed hc__law_missed hb__law_missed sc__law_missed rfl (Or.inl rfl) (missed_gives T) TB rfl (List.Mem.head _) (fun p hp _ => congrArg Prod.snd (List.mem_singleton.mp hp)) (hr.mono (by decide)) (lamS_by (by show lamSB (defScope s_law) _ = true; decide +kernel)) rfl (fun _ _ _ _ _ => rfl) (fun E A outer s H f c' hr => (pe_co GO_name_of (hr.mono (by decide)) rfl T.g_name_of T.k_name_of (takes_of rfl rfl rfl rfl) (pa_cons (pv 5) pa_nil)))) pa_nil)) (pe_callB (call_reprZ (K := K) rfl hr hG) (by rfl) T.b_repr (by decide +kernel) (pa_cons (pe_lstN (pa_cons (pv 5) pa_nil)) pa_nil)) (nomark _))
 (pss_one (ps_ret pe_bl))
 pss_nil))), ?_⟩
  generalize (lawX P w K mg base a A outer s H0 E).env.qual ++ ("<lambda>" : Str) = lq
  rintro D σ H S d c cells n sc tt ⟨o3, o4, o5, o6, o7, o8, rfl⟩ lw k
  refine ⟨0, 160, rfl, rfl, RgOk.of_le (by decide) (by decide) (by decide) (by decide), fun p1 n1 => ⟨203, 301, rfl, rfl, RgOk.of_le (by decide) (by decide) (by decide) (by decide), fun p2 n2 => ⟨p1, p2, _, _, rfl, rfl, .inl (.inl (upd_keep upd_same n2)), .inl (.inl upd_same), (by rw [rgV_length, rgV_length, sizeLine_eq]; decide), fun p3 n3 => ?_⟩⟩⟩
  generalize hE : upd _ p3 (.lst _) = H3
  have y3 : Ex _ H3 := hE ▸ Ex.new n3
  have h3 : H3 p3 = some (.lst (rgV 0 160 ++ rgV 203 301)) := by rw [← hE]; exact upd_same
  have z3 : Ex H H3 := ((Ex.new n1).trans (Ex.new n2)).trans y3
  refine ⟨_, _, rfl, rfl, _, _, rfl, rfl, ⟨by decide, by decide, by decide⟩, (by show 1 ≤ sizeLine; decide), fun p4 n4 => ⟨(by show 1 ≤ sizeLine; decide), fun p5 n5 s5 => ⟨(by show 8 ≤ sizeLine; decide), fun p6 n6 => ?_⟩⟩⟩
  generalize hE2 : upd _ p6 (.lst _) = H6
  have y6 : Ex _ H6 := hE2 ▸ Ex.new n6
  have y5 := (Ex.new n5).trans y6
  have y4 := (Ex.new n4).trans y5
  have g4 : H6 p4 = some (.tup [.int 160]) := y5 p4 _ upd_same
  have g5 : H6 p5 = some (.lst [.int 160]) := y6 p5 _ upd_same
  have g6 : H6 p6 = some (.lst [.int (0 - 1), .int (10 ^ 40), .bl true, .non, .str "stop", .str "160", .ref p4, .ref p5]) := by rw [← hE2]; exact upd_same
  refine ⟨p3, p6, _, _, rfl, rfl, .inl (.inl (y4 _ _ h3)), .inl (.inl g6), (by rw [List.length_append, rgV_length, rgV_length, sizeLine_eq]; show ((160 : Int) - 0).toNat + ((301 : Int) - 203).toNat + 8 ≤ 16777216; decide), fun p7 n7 => ?_⟩
  generalize hxs : (rgV 0 160 ++ rgV 203 301) ++ [.int (0 - 1), .int (10 ^ 40), .bl true, .non, .str "stop", .str "160", .ref p4, .ref p5] = xs
  have y7 := Ex.new (o := .lst xs) n7
  have g7 : (upd H6 p7 (.lst xs)) p7 = some (.lst xs) := upd_same
  generalize upd H6 p7 (.lst xs) = H7 at y7 g7
  have z7 : Ex H H7 := (z3.trans y4).trans y7
  obtain ⟨kvs, hd1⟩ := lw.dr.atd
  have nd : ∀ {p : Addr} {H' : Hp}, Ex H H' → H' p = none → p ≠ d := fun {p H'} x hp e => by
    rw [e, x _ _ hd1] at hp
    cases hp
  have m4 := nd z3 n4
  have m5 := nd (z3.trans (Ex.new n4)) n5
  have m7 := nd (z3.trans y4) n7
  have st : Stab d (cutH d H7) := cut_stab d H7
  have k4 : cutH d H7 p4 = _ := cut_at (y7 _ _ g4) m4 (fun ps z => nomatch z)
  have k5 : cutH d H7 p5 = _ := cut_at (y7 _ _ g5) m5 (fun ps z => nomatch z)
  have k7 : cutH d H7 p7 = _ := cut_at g7 m7 (fun ps z => nomatch z)
  have eS : Ex S (cutH d H7) := lw.st.to_cut (lw.ex.trans z7)
  have lw7 : LW a lq d c cells n (cutH d H7) H7 := ⟨st, cut_ex d H7, lw.dr.same z7, lw.tb.ext z7⟩
  generalize cutH d H7 = S7 at *
  have all : ∀ x ∈ xs, ∃ dx, Dz K S7 x dx ∧ isNum x = false ∧ ShowsZ (.list [dx]) := by
    intro x hx
    rw [← hxs] at hx
    rcases List.mem_append.mp hx with hx | hx
    · have : ∃ i : Int, x = .int i ∧ (i < 160 ∨ 203 ≤ i) ∧ i.natAbs < 10 ^ 12 := by
        rcases List.mem_append.mp hx with hx | hx
        · obtain ⟨i, hi, rfl⟩ := List.mem_map.mp hx
          have := List.mem_range.mp hi
          exact ⟨_, rfl, .inl (by omega), by omega⟩
        · obtain ⟨i, hi, rfl⟩ := List.mem_map.mp hx
          have := List.mem_range.mp hi
          exact ⟨_, rfl, .inr (by omega), by omega⟩
      obtain ⟨i, rfl, hi, hb⟩ := this
      refine ⟨_, .int i, ?_, int_ok hb⟩
      show (decide ((160 : Int) ≤ i) && decide (i < 203)) = false
      rcases hi with hi | hi
      · rw [decide_eq_false (by omega), Bool.false_and]
      · rw [decide_eq_false (p := i < 203) (by omega), Bool.and_false]
    · rcases List.mem_cons.mp hx with rfl | hx; exact ⟨_, .int (0 - 1), by decide +kernel, okZ_z (by decide +kernel)⟩
      rcases List.mem_cons.mp hx with rfl | hx; exact ⟨_, .int (10 ^ 40), by decide +kernel, okZ_z (by decide +kernel)⟩
      rcases List.mem_cons.mp hx with rfl | hx; exact ⟨_, .bl true, rfl, okZ_z (by decide +kernel)⟩
      rcases List.mem_cons.mp hx with rfl | hx; exact ⟨_, .non, rfl, okZ_z (by decide +kernel)⟩
      rcases List.mem_cons.mp hx with rfl | hx; exact ⟨_, .str "stop", rfl, okZ_z (by decide +kernel)⟩
      rcases List.mem_cons.mp hx with rfl | hx; exact ⟨_, .str "160", rfl, okZ_z (by decide +kernel)⟩
      rcases List.mem_cons.mp hx with rfl | hx; exact ⟨.tuple [.int 160], .tup (st_of k4) (.cons (.int 160) .nil), rfl, okZ_z (by decide +kernel)⟩
      rcases List.mem_cons.mp hx with rfl | hx; exact ⟨.list [.int 160], .lst (sq_of k5) s5 (.cons (.int 160) .nil), rfl, okZ_z (by decide +kernel)⟩
      cases hx
  refine ⟨p7, rfl, ⟨_, sq_of g7⟩, for_list (xs := xs) (fun _ σ H' => Sl sc d tt σ ∧ LW a lq d c cells n S7 H') ⟨⟨_, _, _, _, _, _, rfl⟩, lw7⟩ (fun i σ H' _ p => sq_of (p.2.ex _ _ k7)) (fun i x σ H' hx ⟨⟨o3, o4, o5, o6, o7, o8, hσ⟩, l⟩ => ?_) fun σ H' p => k σ H' p.1 ⟨lw.st, eS.trans p.2.ex, p.2.dr, p.2.tb⟩⟩
  subst hσ
  obtain ⟨dx, dz, hn, sh⟩ := all x (List.mem_of_getElem? hx)
  refine ⟨l.tb, fun H1 xn tb1 => fun H2 e2 E2 Q2 hE => ?_⟩
  have l2 := (l.extN xn tb1).same e2
  refine ⟨x, rfl, x, dx, rfl, dz_ex l2.ex dz, .inr ⟨hn, fun dd H3 nd3 e3 hd3 => hE _ _ _ ⟨rfl, dd, x, rfl, hd3, fun p H4 np4 sp4 e4 hp4 => ?_⟩⟩⟩
  have l4 := (l2.same e3).same e4
  refine ⟨_, .list [dx], rfl, .lst (sq_of hp4) sp4 (.cons (dz_ex l4.ex dz) .nil), sh, x, rfl, (by show 1 ≤ sizeLine; decide), fun p5 n5 s5 => ?_⟩
  have l5 := l4.same (Ex.new (o := .lst [x]) n5)
  refine ⟨_, .list [dx], rfl, .lst (sq_of upd_same) s5 (.cons (dz_ex l5.ex dz) .nil), sh, rfl, false, (by simp), ?_⟩
  exact ⟨⟨_, _, _, _, _, _, rfl⟩, l5⟩

end
end BJL

namespace BJL
open PySem PySem.Spec PyProof.Rows L2 BJ
section
variable {P : Program} {w : World} {K : PySem.W.Frag} {mg : Str → Option Value} {base : Heap} {a : Adr}
open Evl
open LamX
theorem LW.mut {q : Str} {d c : Addr} {cells : List Int} {n : Nat} {S H : Hp} {p : Addr} {xs ys : List V} (l : LW a q d c cells n S H) (hp : H p = some (.lst xs)) (hS : S p = none) (hc : p ≠ c) : LW a q d c cells n S (upd H p (.lst ys)) := by
  obtain ⟨kvs, hd⟩ := l.dr.atd
  have hd' : d ≠ p := ne_of hd hp (fun z => nomatch z)
  refine ⟨l.st, Ex.mut l.ex hS, ?_, fun r hr => ?_⟩
  · obtain ⟨⟨a', l', u', h1, h2⟩, h3, h4, h5⟩ := l.dr
    exact ⟨⟨a', l', u', by rw [upd_ne hd']; exact h1, h2⟩, by rw [upd_ne hc.symm]; exact h3, h4, h5⟩
  · obtain ⟨ps, h1, h2, h3⟩ := l.tb r hr
    refine ⟨ps, by rw [upd_ne (ne_of h1 hp (fun z => nomatch z))]; exact h1, h2, fun pos cv hc => ?_⟩
    obtain ⟨c', e1, e2⟩ := h3 pos cv hc
    exact ⟨c', e1, by rw [upd_ne (ne_of e2 hp (fun z => nomatch z))]; exact e2⟩
theorem law_turn (T : Txt P K mg a) (hw : a.par = w.params) (TB : TabB base mg a.lcode a.tab) {A : Around} {outer : List Env} {s : Shared} {H0 : Hp} {E : XK} (hr : Room 6 (A.deeper (envOfC "law" (defScope s_law) s.heap.objs.size a.law (.ref a.lcode)))) (hG : A.guards = some []) :
    ∃ t, PS (lawX P w K mg base a A outer s H0 E) (lawB 4) t ∧ ∀ (D : Ends) (σ : L2.St) (H S : Hp) (d c : Addr) (cells : List Int) (sc tt : Addr) (l : List V) (ns : List V), Sl sc d tt σ → LW a ((lawX P w K mg base a A outer s H0 E).env.qual ++ ("<lambda>" : Str)) d c cells 0 S H →
      S tt = some (.lst l) → PL S tableL l → SqL K S sc ns → ns.length ≤ 63 → (∀ σ' H', D.nx σ' H') → t D σ H := by
  have G__law_odd : CallP P w K mg base 3 (.ref a._law_odd) (spOdd K) := (fn__law_odd T).p
  have GO_number_of : CallO P w K mg base 3 (.ref a.number_of) (spNumber K a) := fnO (fn_number_of T hw)
  have GO_since : CallO P w K mg base 3 (.ref a.since) (spSince K a) := fnO (fn_since T hw)
  obtain ⟨fdm, Fm, hb__law_missed⟩ := T.d__law_missed.fn
  obtain ⟨ocm, odm, kVm, docm, pmm, anm, cdm, ctm, oslm, rfl, lk__law_missed, hc__law_missed⟩ := Fm.ex
  refine ⟨_, (ps_for (passes_of rfl) rfl (pi_range1 (by rfl) T.b_range (pa_cons (pe_op op_add pe_int (pe_callB (call_min2 rfl) (by rfl) T.b_min (by decide +kernel) (pa_cons pe_int (pa_cons (pe_callB call_len_seq (by rfl) T.b_len (by decide +kernel) (pa_cons (pv 0) pa_nil)) pa_nil)))) pa_nil)) (pg_name (i := 7) sc_law.nd rfl (Or.inl rfl))
 (pss_cons (ps_set (i := 8) sc_law.nd rfl (Or.inr rfl) (pe_ca G__law_odd (hr.mono (by decide)) hG rfl T.g__law_odd T.k__law_odd (takes_of rfl rfl rfl rfl) (pa_cons (pv 1) (pa_cons (pv 2) pa_nil))))
 (pss_cons (ps_set (i := 6) sc_law.nd rfl (Or.inl rfl) (pe_lstN (pa_cons (pe_lam2 (T := [(a.tab, _)]) (TT := TMiss a) (c := a.lcode) (P := a.tab) (k := 3) (by rfl) T.g__law_missed T.k__law_missed lk__law_missed hc__law_missed hb__law_missed sc__law_missed rfl (Or.inl rfl) (missed_gives T) TB rfl (List.Mem.head _) (fun p hp _ => congrArg Prod.snd (List.mem_singleton.mp hp)) (hr.mono (by decide)) (lamS_by (by show lamSB (defScope s_law) _ = true; decide +kernel)) rfl (fun _ _ _ _ _ => rfl) (fun E A outer s H f c' hr => (pe_co GO_number_of (hr.mono (by decide)) rfl T.g_number_of T.k_number_of (takes_of rfl rfl rfl rfl) (pa_cons (pv 8) pa_nil)))) pa_nil)))
 (pss_cons (ps_expr (pe_bm PySem.F.plainAttrs_list PySem.F.slot_list_append PySem.F.type_list_append mt_append (pv 6) (pa_cons (pe_lam2 (T := [(a.tab, _)]) (TT := TMiss a) (c := a.lcode) (P := a.tab) (k := 3) (by rfl) T.g__law_missed T.k__law_missed lk__law_missed hc__law_missed hb__law_missed sc__law_missed rfl (Or.inl rfl) (missed_gives T) TB rfl (List.Mem.head _) (fun p hp _ => congrArg Prod.snd (List.mem_singleton.mp hp)) (hr.mono (by decide)) (lamS_by (by show lamSB (defScope s_law) _ = true; decide +kernel)) rfl (fun _ _ _ _ _ => rfl) (fun E A outer s H f c' hr => (pe_co GO_since (hr.mono (by decide)) rfl T.g_since T.k_since (takes_of rfl rfl rfl rfl) (pa_cons (pv 8) pa_nil)))) pa_nil)))
 (pss_one (ps_if (pt_cmpR op_ne (pe_callB (call_reprZ (K := K) rfl hr hG) (by rfl) T.b_repr (by decide +kernel) (pa_cons (pv 6) pa_nil)) (pe_callB (call_reprZ (K := K) rfl hr hG) (by rfl) T.b_repr (by decide +kernel) (pa_cons (pe_lstN (pa_cons (pe_lstN (pa_cons (pv 8) pa_nil)) (pa_cons (pe_lstN (pa_cons (pv 8) pa_nil)) pa_nil))) pa_nil)) (nomark _))
 (pss_one (ps_ret pe_bl))
 pss_nil)))))), ?_⟩
  generalize (lawX P w K mg base a A outer s H0 E).env.qual ++ ("<lambda>" : Str) = lq
  rintro D σ H S d c cells sc tt l ns ⟨o3, o4, o5, o6, o7, o8, rfl⟩ lw ht pl hsc hlen k
  obtain ⟨N, hN, hN2⟩ : ∃ N : Int, N = 12 + (if ((ns.length : Nat) : Int) < 12 then ((ns.length : Nat) : Int) else 12) ∧ (0 ≤ N ∧ N ≤ 24) := ⟨_, rfl, by split <;> omega⟩
  refine ⟨_, rfl, sc, ns, rfl, .inl (ex_l lw.ex hsc), _, _, rfl, _, _, rfl, rfl, N, by rw [hN], by omega, by omega, for_range (lo := 0) (n := N.toNat) (fun i σ H' => Sl sc d tt σ ∧ LW a lq d c cells (2 * i) S H') ⟨⟨_, _, _, _, _, _, rfl⟩, lw⟩ (fun i σ H2 hi ⟨⟨o3, o4, o5, o6, o7, o8, hσ⟩, l2⟩ => ?_) fun σ H' p => k σ H'⟩
  subst hσ
  refine ⟨_, rfl, _, rfl, d, c, cells, 2 * i, tt, l, S, rfl, l2.dr, by omega, l2.st, l2.ex, ht, pl, fun v dv H3 sb D3 dz hn ok => ?_⟩
  have l3 : LW a lq d c cells (2 * i + 2) (cutH d H3) H3 := ⟨cut_stab d H3, cut_ex d H3, D3, by
    obtain ⟨kvs, hd⟩ := l2.dr.atd
    exact Tabs.but l2.tb hd sb⟩
  have eS : Ex S (cutH d H3) := l2.st.to_cut (l2.st.but l2.ex sb)
  have cS : cutH d H3 c = some (.lst (cells.map V.int)) := cut_at D3.list D3.dc.symm (fun ps z => nomatch z)
  generalize cutH d H3 = S3 at *
  -- told = [..]
  refine ⟨l3.tb, fun H4 xn tb4 => fun H5 e5 E2 Q2 hE => ?_⟩
  have l5 := (l3.extN xn tb4).same e5
  refine ⟨v, rfl, v, dv, rfl, dz_ex l5.ex dz, .inr ⟨hn, fun dd H6 nd6 e6 hd6 => hE _ _ _ ⟨rfl, dd, v, rfl, hd6, fun p H7 np7 sp7 e7 hp7 => ⟨(by show 1 ≤ sizeLine; decide), fun q nq sq => ?_⟩⟩⟩⟩
  have l7 := (l5.same e6).same e7
  have l8 := l7.same (Ex.new (o := .lst [.ref p]) nq)
  have hq8 : (upd H7 q (.lst [.ref p])) q = some (.lst [.ref p]) := upd_same
  have hp8 := Ex.new (o := .lst [.ref p]) nq _ _ hp7
  have nS : S3 q = none := fresh_back l7.ex nq
  generalize upd H7 q (.lst [.ref p]) = H8 at l8 hq8 hp8
  -- told.append(..)
  refine ⟨_, rfl, .inl ⟨rfl, _, .inl (.inl hq8)⟩, l8.tb, fun H9 xn9 tb9 => fun H10 e10 E3 Q3 hE3 => ?_⟩
  have l10 := (l8.extN xn9 tb9).same e10
  refine ⟨v, rfl, v, dv, rfl, dz_ex l10.ex dz, .inr ⟨hn, fun dd2 H11 nd11 e11 hd11 => hE3 _ _ _ ⟨rfl, dd2, v, rfl, hd11, fun p2 H12 np12 sp12 e12 hp12 => ?_⟩⟩⟩
  have l12 := (l10.same e11).same e12
  have x12 : ∀ b o, (∀ ps, o ≠ .tbl ps) → H8 b = some o → H12 b = some o := fun b o hb e => e12 _ _ (e11 _ _ (e10 _ _ (xn9 _ _ e hb)))
  have hq11 : H11 q = some (.lst [.ref p]) := e11 _ _ (e10 _ _ (xn9 _ _ hq8 (fun ps z => nomatch z)))
  have hq12 := e12 _ _ hq11
  have hpp := x12 p (.lst [v]) (fun ps z => nomatch z) hp8
  refine ⟨q, _, _, rfl, rfl, hq12, (by show 1 < sizeLine; decide), ?_⟩
  have qc : q ≠ c := fun e => by
    rw [e, cS] at nS
    cases nS
  have l13 := l12.mut (ys := [.ref p] ++ [.ref p2]) hq12 nS qc
  have pq : p ≠ q := ne_of_none hp7 nq
  have p2q : p2 ≠ q := (ne_of_none hq11 np12).symm
  have k1 : (upd H12 q (.lst ([.ref p] ++ [.ref p2]))) p = some (.lst [v]) := by rw [upd_ne pq]; exact hpp
  have k2 : (upd H12 q (.lst ([.ref p] ++ [.ref p2]))) p2 = some (.lst [v]) := by rw [upd_ne p2q]; exact hp12
  have k3 : (upd H12 q (.lst ([.ref p] ++ [.ref p2]))) q = some (.lst ([.ref p] ++ [.ref p2])) := upd_same
  generalize upd H12 q (.lst ([.ref p] ++ [.ref p2])) = H13 at l13 k1 k2 k3
  have dz13 := dz_ex l13.ex dz
  refine ⟨_, rfl, _, .list [.list [dv], .list [dv]], rfl, .lst (sq_of k3) sq (.cons (.lst (sq_of k1) sp7 (.cons dz13 .nil)) (.cons (.lst (sq_of k2) sp12 (.cons dz13 .nil)) .nil)), ok2_z ok, v, rfl, (by show 1 ≤ sizeLine; decide), fun r1 m1 t1 => ⟨v, rfl, (by show 1 ≤ sizeLine; decide), fun r2 m2 t2 => ⟨(by show 2 ≤ sizeLine; decide), fun r3 m3 t3 => ?_⟩⟩⟩
  have l16 := ((l13.same (Ex.new (o := .lst [v]) m1)).same (Ex.new (o := .lst [v]) m2)).same (Ex.new (o := .lst [.ref r1, .ref r2]) m3)
  have dz16 := dz_ex l16.ex dz
  have j1 := (Ex.new (o := .lst [.ref r1, .ref r2]) m3) _ _ ((Ex.new (o := .lst [v]) m2) r1 (.lst [v]) upd_same)
  have j2 := (Ex.new (o := .lst [.ref r1, .ref r2]) m3) r2 (.lst [v]) upd_same
  refine ⟨_, .list [.list [dv], .list [dv]], rfl, .lst (sq_of upd_same) t3 (.cons (.lst (sq_of j1) t1 (.cons dz16 .nil)) (.cons (.lst (sq_of j2) t2 (.cons dz16 .nil)) .nil)), ok2_z ok, rfl, false, (by simp), ?_⟩
  refine ⟨⟨_, _, _, _, _, _, rfl⟩, l2.st, eS.trans l16.ex, ?_, l16.tb⟩
  rw [show 2 * (i + 1) = 2 * i + 2 by omega]
  exact l16.dr

end
end BJL

namespace BJL
open PySem PySem.Spec PyProof.Rows L2 BJ
section
variable {P : Program} {w : World} {K : PySem.W.Frag} {mg : Str → Option Value} {base : Heap} {a : Adr}
open Evl
open LamX
def namesD : List PyData := rowsN.map fun r => .str r.1
theorem names_z : ShowsZ (.tuple namesD) := ⟨by decide +kernel, by decide +kernel, PyData.shown_fits_bulk (B := 13) (by decide) (by decide) (by decide +kernel) (by decide +kernel)⟩
theorem dz_names {H : Hp} : ∀ l : List (Str × Int × Str), DzAll K H (l.map fun r => V.str r.1) (l.map fun r => .str r.1)
  | [] => .nil
  | r :: l => .cons (.str _) (dz_names l)
theorem tableL_len : tableL.length = 43 := by decide +kernel
theorem given_names : given 43 (fun _ => true) (fun i => V.str (tableL.getD i ("", 0)).1) = rowsN.map fun r => V.str r.1 := by decide +kernel
theorem lc_evA {σ : L2.St} {J : It} {n : Nat} {G : Hp → Prop} {Y : Nat → Hp → V → Hp → Prop} (w : Walk J n G Y) {g : TG} {tt : TT} {te : TE} {vs : List Nat} {H1 : Hp} {Q : Addr → Hp → Prop} (f : Nat → Bool) (v : Nat → V) (hn : n ≤ 1000000)
    (hG : ∀ H, Ex H1 H → G H)
    (hs : ∀ i x H2 H3, i < n → Ex H1 H2 → Y i H2 x H3 → ∃ σ2, wipe σ2 vs = wipe σ vs ∧ Ex H2 H3 ∧ (∀ Q : L2.St → Hp → Prop, Q σ2 H3 → g x (wipe σ vs) H3 Q) ∧ EvT tt σ2 H1 (f i) ∧ (f i = true → Ev te σ2 H1 (v i)))
    (k : ∀ D H', H1 D = none → Ex H1 H' → H' D = some (.lst (given n f v)) → Q D H') :
    ∀ D, H1 D = none → ∃ W : Nat → Nat → Hp → Prop, (∃ m, W 0 m (upd H1 D (.lst []))) ∧ ∀ i m H, W i m H →
      (J.stop i H ∧ Q D H) ∨ (J.go i H ∧ ∃ Nx : Hp → Prop, (∀ H', Nx H' → ∃ m', m' < m ∧ W (i + 1) m' H') ∧ ∀ x H', J.yld i H x H' → g x (wipe σ vs) H' fun σ2 H2 => wipe σ2 vs = wipe σ vs ∧ tt σ2 H2 fun b H3 =>
        if b = true then te σ2 H3 fun y H4 => ∃ acc, H4 D = some (.lst acc) ∧ acc.length < sizeLine ∧ Nx (upd H4 D (.lst (acc ++ [y]))) else Nx H3) :=
  lc_ev (Q := fun v H => match v with | .ref D => Q D H | _ => False) w f v hn hG hs k
theorem law_if (T : Txt P K mg a) {A : Around} {outer : List Env} {s : Shared} {H0 : Hp} {E : XK} (hr : Room 6 (A.deeper (envOfC "law" (defScope s_law) s.heap.objs.size a.law (.ref a.lcode)))) (hG : A.guards = some []) :
    ∃ t, PS (lawX P w K mg base a A outer s H0 E) (lawB 1) t ∧ ∀ (D : Ends) (σ : L2.St) (H : Hp) (sc d tt : Addr) (l : List V), Sl sc d tt σ → H tt = some (.lst l) → PL H tableL l → (∀ H', Ex H H' → D.nx σ H') → t D σ H := by
  have G_opcode_names : CallP P w K mg base 1 (.ref a.opcode_names) spNames := ok_opcode_names T
  refine ⟨_, (ps_if (PW.pt (pw_or (pt_cmpR op_ne (pe_callB (call_reprZ (K := K) rfl hr hG) (by rfl) T.b_repr (by decide +kernel) (pa_cons (pe_ca0 G_opcode_names (hr.mono (by decide)) hG rfl T.g_opcode_names T.k_opcode_names (takes_of rfl rfl rfl rfl)) pa_nil)) (pe_callB (call_reprZ (K := K) rfl hr hG) (by rfl) T.b_repr (by decide +kernel) (pa_cons (pe_callTy call_tuple_of (by rfl) T.b_tuple (by decide +kernel) (pa_cons (pe_lc (own := [("word", 3), ("begun", 4)]) (g := (gTup K 2 (gCons (gName 3) (gCons (gName 4) gNil)))) (by rfl) sc_law.nd (pi_list (pv 2)) (blkOk_by (own := [("word", 3), ("begun", 4)]) (N := ["script", "draw", "table", "word", "begun", "at", "told", "turn", "odd"]) (sc := defScope s_law) (by decide +kernel)) (fun _ _ _ _ _ => (pg_tup rfl (pgs_cons (pg_name (i := 3) sc_law.nd rfl (Or.inl rfl)) (pgs_cons (pg_name (i := 4) sc_law.nd rfl (Or.inl rfl)) pgs_nil)))) (fun _ _ _ _ _ => pts_nil) (fun _ _ _ _ _ => (pv 3))) pa_nil)) pa_nil)) (nomark _)) (pw_or1 (pt_cmpR op_ne (pe_callB call_len_seq (by rfl) T.b_len (by decide +kernel) (pa_cons (pv 2) pa_nil)) pe_int (nomark _)))))
 (pss_one (ps_ret pe_bl))
 pss_nil), ?_⟩
  rintro D σ H sc d tt l ⟨o3, o4, o5, o6, o7, o8, rfl⟩ ht pl k
  have hl : l.length = 43 := by rw [pl.length, tableL_len]
  refine s_when (b := false || false) (et_or (et_is (et_test (ev_op (x := .str (PyData.tuple namesD).shown) (y := .str (PyData.tuple namesD).shown) (fun H1 e1 Q q => ?one) (fun H1 e1 Q q => ?two) (rv_ne rfl))) (by simp)) fun _ => et_is (et_test (ev_op (ev_len (ev_var rfl) (sq_of ht)) ev_c (rv_ne rfl))) (by rw [hl]; rfl)) (fun z => nomatch z) fun _ H1 e1 => k H1 e1
  case one => exact ⟨rfl, fun p H2 np e2 hp => ⟨_, _, rfl, .tup (st_of hp) (dz_names rowsN), names_z, q H2 e2⟩⟩
  case two =>
    refine ⟨_, rfl, tt, rfl, ⟨_, sq_of (e1 _ _ ht)⟩, ?_⟩
    refine lc_evA (σ := [some (.ref sc), some (.ref d), some (.ref tt), o3, o4, o5, o6, o7, o8]) (walk_list (K := K) (a := tt) (xs := l)) (fun _ => true) (fun i => V.str (tableL.getD i ("", 0)).1) (by omega) (fun H2 e2 => sq_of (e2 _ _ (e1 _ _ ht))) (fun i x H2 H3 hi e2 y => ?_) fun D' H2 nD e2 hD => ?_
    · obtain ⟨y1, y2⟩ := y
      subst y1
      rw [hl] at hi
      obtain ⟨row, hrow, hmem, htab⟩ := tableL_at hi
      obtain ⟨q', hq1, hq2⟩ := pl.get _ _ _ htab
      rw [hq1] at y2
      cases y2
      have hq3 := e2 _ _ (e1 _ _ hq2)
      have hg : (tableL.getD i ("", 0)).1 = row.1 := by rw [List.getD, htab]; rfl
      refine ⟨[some (.ref sc), some (.ref d), some (.ref tt), some (.str row.1), some (.int row.2.1), o5, o6, o7, o8], rfl, Ex.refl _, fun Q q => ⟨q', _, rfl, st_of hq3, rfl, _, _, rfl, _, _, rfl, rfl, q⟩, et_yes, fun _ => ?_⟩
      show Ev _ _ _ (.str (tableL.getD i ("", 0)).1)
      rw [hg]
      exact ev_var rfl
    · rw [hl, given_names] at hD
      refine ⟨D', _, rfl, .inl ⟨sq_of hD, fun r nr => ⟨_, _, rfl, .tup (st_of upd_same) (dz_names rowsN), names_z, q _ (e2.trans (Ex.new nr))⟩⟩⟩

end
end BJL

namespace BJL
open PySem PySem.Spec PyProof.Rows L2 BJ
section
variable {P : Program} {w : World} {K : PySem.W.Frag} {mg : Str → Option Value} {base : Heap} {a : Adr}
open Evl
open LamX
theorem rows_small : ∀ r ∈ rowsN, r.2.1.natAbs < 10 ^ 12 := by decide +kernel
theorem rows_shaped : ∀ r ∈ rowsN, SeqAt.shaped (.list [.str r.1, .str r.1]) = true := by decide +kernel
theorem int4_ok {i j k l : Int} (h1 : i.natAbs < 10 ^ 12) (h2 : j.natAbs < 10 ^ 12) (h3 : k.natAbs < 10 ^ 12) (h4 : l.natAbs < 10 ^ 12) : ShowsZ (.list [.int i, .int j, .int k, .int l]) := by
  have all : ∀ n ∈ [i, j, k, l], n.natAbs < 10 ^ 12 := fun n hn => by
    simp only [List.mem_cons, List.not_mem_nil, or_false] at hn
    rcases hn with rfl | rfl | rfl | rfl <;> assumption
  have s1 := show_ints [i, j, k, l] all
  have s2 := short_ints [i, j, k, l] all
  simp only [List.map_cons, List.map_nil] at s1 s2
  refine ⟨s1, by simp [PyData.depth, PyData.depthAll], PyData.shown_fits_bulk (B := 13) (by decide) (by decide) s2 (by simp [PyData.bulk, PyData.bulkAll])⟩
theorem law_enum (T : Txt P K mg a) (hw : a.par = w.params) {A : Around} {outer : List Env} {s : Shared} {H0 : Hp} {E : XK} (hr : Room 6 (A.deeper (envOfC "law" (defScope s_law) s.heap.objs.size a.law (.ref a.lcode)))) (hG : A.guards = some []) :
    ∃ t, PS (lawX P w K mg base a A outer s H0 E) (lawB 2) t ∧ ∀ (D : Ends) (σ : L2.St) (H : Hp) (sc d tt : Addr) (l : List V), Sl sc d tt σ → H tt = some (.lst l) → PL H tableL l → (∀ σ' H', Sl sc d tt σ' → Ex H H' → D.nx σ' H') → t D σ H := by
  have F1 := fnOG (fn_number_of (P := P) (w := w) (mg := mg) (base := base) T hw)
  have F2 := fnOG (fn_since (P := P) (w := w) (mg := mg) (base := base) T hw)
  have F3 := fnOG (fn_name_of (P := P) (w := w) (mg := mg) (base := base) T)
  have G_number_of : CallP P w K mg base 3 (.ref a.number_of) (spNumber K a) := fnP F1
  have G_since : CallP P w K mg base 3 (.ref a.since) (spSince K a) := fnP F2
  have G_name_of : CallP P w K mg base 3 (.ref a.name_of) (spNameOf K a) := fnP F3
  have GK_number_of_name : CallG P w K mg base 3 (.ref a.number_of) ["name"] fun vs zs H Q E => spNumber K a (gKw 0 1 vs zs) H Q E := fnK F1 (by decide) fun _ _ _ _ _ _ us ws hu hw => match us, ws, hu, hw with | [], [_], _, _ => rfl
  have GK_since_name : CallG P w K mg base 3 (.ref a.since) ["name"] fun vs zs H Q E => spSince K a (gKw 0 1 vs zs) H Q E := fnK F2 (by decide) fun _ _ _ _ _ _ us ws hu hw => match us, ws, hu, hw with | [], [_], _, _ => rfl
  have GK_name_of_number : CallG P w K mg base 3 (.ref a.name_of) ["number"] fun vs zs H Q E => spNameOf K a (gKw 0 1 vs zs) H Q E := fnK F3 (by decide) fun _ _ _ _ _ _ us ws hu hw => match us, ws, hu, hw with | [], [_], _, _ => rfl
  refine ⟨_, (ps_for (passes_of rfl) rfl (pi_enum (by rfl) T.b_enumerate (pa_cons (pv 2) pa_nil)) (pg_tup rfl (pgs_cons (pg_name (i := 5) sc_law.nd rfl (Or.inr rfl)) (pgs_cons (pg_tup rfl (pgs_cons (pg_name (i := 3) sc_law.nd rfl (Or.inl rfl)) (pgs_cons (pg_name (i := 4) sc_law.nd rfl (Or.inl rfl)) pgs_nil))) pgs_nil)))
 (pss_cons (ps_set (i := 6) sc_law.nd rfl (Or.inl rfl) (pe_lstN (pa_cons (pe_ca G_number_of (hr.mono (by decide)) hG rfl T.g_number_of T.k_number_of (takes_of rfl rfl rfl rfl) (pa_cons (pv 3) pa_nil)) (pa_cons (pe_caK0 GK_number_of_name (hr.mono (by decide)) hG rfl T.g_number_of T.k_number_of (takes_of rfl rfl rfl rfl) (pk_cons (pv 3) pk_nil)) (pa_cons (pe_ca G_since (hr.mono (by decide)) hG rfl T.g_since T.k_since (takes_of rfl rfl rfl rfl) (pa_cons (pv 3) pa_nil)) (pa_cons (pe_caK0 GK_since_name (hr.mono (by decide)) hG rfl T.g_since T.k_since (takes_of rfl rfl rfl rfl) (pk_cons (pv 3) pk_nil)) pa_nil))))))
 (pss_cons (ps_if (pt_cmpR op_ne (pe_callB (call_reprZ (K := K) rfl hr hG) (by rfl) T.b_repr (by decide +kernel) (pa_cons (pv 6) pa_nil)) (pe_callB (call_reprZ (K := K) rfl hr hG) (by rfl) T.b_repr (by decide +kernel) (pa_cons (pe_lstN (pa_cons (pe_op op_add pe_int (pv 5)) (pa_cons (pe_op op_add pe_int (pv 5)) (pa_cons (pv 4) (pa_cons (pv 4) pa_nil))))) pa_nil)) (nomark _))
 (pss_one (ps_ret pe_bl))
 pss_nil)
 (pss_one (ps_if (pt_cmpR (op_neD' (K := K) rfl hr.units) (pe_lst (pa_cons (pe_ca G_name_of (hr.mono (by decide)) hG rfl T.g_name_of T.k_name_of (takes_of rfl rfl rfl rfl) (pa_cons (pe_op op_add pe_int (pv 5)) pa_nil)) (pa_cons (pe_caK0 GK_name_of_number (hr.mono (by decide)) hG rfl T.g_name_of T.k_name_of (takes_of rfl rfl rfl rfl) (pk_cons (pe_op op_add pe_int (pv 5)) pk_nil)) pa_nil))) (pe_lst (pa_cons (pv 3) (pa_cons (pv 3) pa_nil))) (nomark _))
 (pss_one (ps_ret pe_bl))
 pss_nil))))), ?_⟩
  rintro D σ H sc d tt l ⟨o3, o4, o5, o6, o7, o8, rfl⟩ ht pl k
  have hl : l.length = 43 := by rw [pl.length, tableL_len]
  refine ⟨_, rfl, tt, l, rfl, sq_of ht, for_it (walk_enum (xs := l)) (fun _ σ H' => Sl sc d tt σ ∧ Ex H H') ⟨⟨_, _, _, _, _, _, rfl⟩, Ex.refl _⟩ (fun i σ H' _ p => sq_of (p.2 _ _ ht)) (fun i x σ H2 H3 hi ⟨⟨o3, o4, o5, o6, o7, o8, hσ⟩, e2⟩ y => ?_) fun σ H' p => k σ H' p.1 p.2⟩
  subst hσ
  obtain ⟨q0, x1, x2, rfl, nq0, rfl, y1, y2⟩ := y
  cases y1
  rw [hl] at hi
  obtain ⟨row, hrow, hmem, htab⟩ := tableL_at hi
  obtain ⟨q', hq1, hq2⟩ := pl.get _ _ _ htab
  have y2' : l[i]? = some x2 := y2
  rw [hq1] at y2'
  cases y2'
  have sm := rows_small row hmem
  have lk0 : numL.lookup row.1 = some (.int (160 + (i : Nat))) := by
    have := numL_get i (List.mem_range.mpr hi)
    rw [hrow] at this
    exact eq_of_beq this
  have e3 := e2.trans (Ex.new (o := .tup [.int (i : Nat), .ref q']) nq0)
  refine ⟨q0, _, rfl, st_of upd_same, rfl, _, _, rfl, _, _, rfl, q', _, rfl, st_of (e3 _ _ hq2), rfl, _, _, rfl, _, _, rfl, rfl, rfl, ?_⟩
  generalize upd H2 q0 (.tup [.int (i : Nat), .ref q']) = H3 at e3
  refine ⟨_, rfl, _, _, rfl, .str _, .inl ⟨row.1, _, rfl, lk0, fun Ha ea => ⟨_, rfl, _, _, rfl, .str _, .inl ⟨row.1, _, rfl, lk0, fun Hb eb => ⟨_, rfl, _, _, rfl, .str _, .inl ⟨row.1, i, row, rfl, lk0, hrow, fun Hc ec => ⟨_, rfl, _, _, rfl, .str _, .inl ⟨row.1, i, row, rfl, lk0, hrow, fun Hd ed => ⟨(by show 4 ≤ sizeLine; decide), fun p np sp => ?_⟩⟩⟩⟩⟩⟩⟩⟩⟩
  have x1 := (((ea.trans eb).trans ec).trans ed).trans (Ex.new (o := .lst [.int (160 + (i : Nat)), .int (160 + (i : Nat)), .int row.2.1, .int row.2.1]) np)
  have hp : (upd Hd p (.lst [.int (160 + (i : Nat)), .int (160 + (i : Nat)), .int row.2.1, .int row.2.1])) p = _ := upd_same
  generalize upd Hd p _ = H4 at x1 hp
  have sh := int4_ok (i := 160 + (i : Nat)) (j := 160 + (i : Nat)) (k := row.2.1) (l := row.2.1) (by omega) (by omega) sm sm
  refine ⟨_, rfl, _, _, rfl, .lst (sq_of hp) sp (.cons (.int _) (.cons (.int _) (.cons (.int _) (.cons (.int _) .nil)))), sh, _, rfl, _, _, rfl, rfl, _, rfl, _, _, rfl, rfl, _, rfl, _, rfl, (by show 4 ≤ sizeLine; decide), fun r nr sr => ⟨_, _, rfl, .lst (sq_of upd_same) sr (.cons (.int _) (.cons (.int _) (.cons (.int _) (.cons (.int _) .nil)))), sh, rfl, false, (by simp), ?_⟩⟩
  have x2 := x1.trans (Ex.new (o := .lst [.int (160 + (i : Nat)), .int (160 + (i : Nat)), .int row.2.1, .int row.2.1]) nr)
  generalize upd H4 r _ = H5 at x2
  refine ⟨_, rfl, _, _, rfl, rfl, _, _, rfl, .int _, .inl ⟨i, row, rfl, hrow, fun Ha ea => ⟨_, rfl, _, _, rfl, rfl, _, _, rfl, .int _, .inl ⟨i, row, rfl, hrow, fun Hb eb => ⟨(by show 2 ≤ sizeLine; decide), fun p1 n1 => ⟨_, rfl, _, rfl, (by show 2 ≤ sizeLine; decide), fun p2 n2 => ?_⟩⟩⟩⟩⟩⟩
  have k1 := (Ex.new (o := .lst [.str row.1, .str row.1]) n2) p1 (.lst [.str row.1, .str row.1]) upd_same
  refine ⟨_, _, .lst (sq_of k1) (.cons (.str _) (.cons (.str _) .nil)), .lst (sq_of upd_same) (.cons (.str _) (.cons (.str _) .nil)), rows_shaped row hmem, rows_shaped row hmem, false, ?_, ?_⟩
  · have e : PyData.eqv (.list [.str row.1, .str row.1]) (.list [.str row.1, .str row.1]) = true := SeqAt.eqv_refl _ (SeqAt.canLay_of_shaped (rows_shaped row hmem))
    rw [e]
    rfl
  · exact ⟨⟨_, _, _, _, _, _, rfl⟩, (((e3.trans x2).trans ea).trans eb).trans ((Ex.new n1).trans (Ex.new n2))⟩

end
end BJL

namespace BJL
open PySem PySem.Spec PyProof.Rows L2 BJ
section
variable {P : Program} {w : World} {K : PySem.W.Frag} {mg : Str → Option Value} {base : Heap} {a : Adr}
open Evl
open LamX
def sp_law (K : PySem.W.Frag) (a : Adr) : Sp := fun vs H Q _ => ∃ (s : Addr) (ns : List Int), vs = [.ref s] ∧ Scr K H s (ns.map V.int) ∧ ns.length ≤ 63 ∧ H a.tab = some (.tbl #[]) ∧ ∀ H', Q (.bl true) H'
theorem cut_scr {d s : Addr} {H : Hp} {xs : List V} (h : Scr K H s xs) (hd : s ≠ d) : SqL K (cutH d H) s xs := by
  rcases h with (h | ⟨o, h⟩) | h
  · exact .inl (.inl (cut_at h hd (fun ps z => nomatch z)))
  · exact .inl (.inr ⟨o, cut_at h hd (fun ps z => nomatch z)⟩)
  · exact (Scr.sq (K := K) (H := cutH d H) (.inr h))
theorem cut_pl {d : Addr} {H : Hp} {kvs : List (Key × V)} (hd : H d = some (.dK kvs)) {l : List (Str × Int)} {vs : List V} (h : PL H l vs) : PL (cutH d H) l vs := by
  induction h with
  | nil => exact .nil
  | cons h t ih => exact .cons (cut_at h (ne_of h hd (fun z => nomatch z)) (fun ps z => nomatch z)) ih
theorem ok_law (T : Txt P K mg a) (hw : a.par = w.params) (TB : TabB base mg a.lcode a.tab) : CallP P w K mg base 7 (.ref a.law) (sp_law K a) := by
  have G__law_begin : CallP P w K mg base 1 (.ref a._law_begin) (spBegin K) := (ok__law_begin T).p
  have G__law_table : CallP P w K mg base 1 (.ref a._law_table) spTable := ok__law_table T
  refine T.dc_law.ok sc_law (fun vs H Q E h => ?_) (fun A outer s H vs Q E hr hG h => ?_)
  · obtain ⟨x, ns, rfl, _⟩ := h
    rfl
  · obtain ⟨sc, ns0, rfl, hS, hl, hT, hq⟩ := h
    obtain ⟨t1, p1, k1⟩ := law_if (P := P) (w := w) (mg := mg) (base := base) (outer := outer) (H0 := H) (E := E) T hr hG
    obtain ⟨t2, p2, k2⟩ := law_enum (P := P) (w := w) (mg := mg) (base := base) (outer := outer) (H0 := H) (E := E) T hw hr hG
    obtain ⟨t3, p3, k3⟩ := law_at (P := P) (w := w) (mg := mg) (base := base) (outer := outer) (H0 := H) (E := E) T hw TB hr hG
    obtain ⟨t4, p4, k4⟩ := law_turn (P := P) (w := w) (mg := mg) (base := base) (outer := outer) (H0 := H) (E := E) T hw TB hr hG
    refine ⟨_, pss_cons (ps_par (i := 1) (j := 2) rfl sc_law.nd rfl rfl (by decide) rfl rfl (pa_cons (pe_ca G__law_begin (hr.mono (by decide)) hG rfl T.g__law_begin T.k__law_begin (takes_of rfl rfl rfl rfl) (pa_cons (pv 0) pa_nil)) (pa_cons (pe_ca0 G__law_table (hr.mono (by decide)) hG rfl T.g__law_table T.k__law_table (takes_of rfl rfl rfl rfl)) pa_nil)) (by rfl)) (pss_cons p1 (pss_cons p2 (pss_cons p3 (pss_cons p4 (pss_one (ps_ret pe_bl)))))), ?_⟩
    refine ⟨_, rfl, sc, ns0, rfl, hS, hl, fun d c H1 x1 nd nc D1 => ⟨rfl, fun p l H2 np x2 hp pl => ⟨_, _, rfl, ?_⟩⟩⟩
    have D2 := D1.same x2
    obtain ⟨kvs, hd2⟩ := D2.atd
    have hpd : p ≠ d := ne_of hp hd2 (fun z => nomatch z)
    have D2' := D2
    refine k1 _ _ H2 sc d p l ⟨_, _, _, _, _, _, rfl⟩ hp pl fun H3 e3 => k2 _ _ H3 sc d p l ⟨_, _, _, _, _, _, rfl⟩ (e3 _ _ hp) (pl.mono e3) fun σ4 H4 s4 e4 => ?_
    have x4 : Ex H H4 := (((Ex.trans x1 x2)).trans e3).trans e4
    have D4 := (D2.same e3).same e4
    obtain ⟨kvs4, hd4⟩ := D4.atd
    have hp4 := e4 _ _ (e3 _ _ hp)
    have pl4 := (pl.mono e3).mono e4
    have hS4 : Scr K H4 sc (ns0.map V.int) ∧ sc ≠ d ∨ Scr K H4 sc (ns0.map V.int) ∧ ∃ (its : List Value) (n : Nat), K.lookup sc = some { cls := .type "list", data := .seq its.toArray n } ∧ Vals (ns0.map V.int) its ∧ (ns0.map V.int).length ≤ sizeLine := by
      rcases hS with (h | ⟨o, h⟩) | h
      · exact .inl ⟨.inl (.inl (x4 _ _ h)), ne_of_none h nd⟩
      · exact .inl ⟨.inl (.inr ⟨o, x4 _ _ h⟩), ne_of_none h nd⟩
      · exact .inr ⟨.inr h, h⟩
    have hsc : SqL K (cutH d H4) sc (ns0.map V.int) := by
      rcases hS4 with ⟨h, hne⟩ | ⟨_, h⟩
      · exact cut_scr h hne
      · exact Scr.sq (K := K) (H := cutH d H4) (.inr h)
    have lw : ∀ q, LW a q d c (ns0 ++ [0]) 0 (cutH d H4) H4 := fun q => ⟨cut_stab d H4, cut_ex d H4, D4, fun r hr => by
      rw [List.mem_singleton.mp hr]
      exact TabS.nil (x4 _ _ hT)⟩
    have ht : cutH d H4 p = some (.lst l) := cut_at hp4 hpd (fun ps z => nomatch z)
    have plS := cut_pl hd4 pl4
    exact k3 _ _ H4 (cutH d H4) d c (ns0 ++ [0]) 0 sc p s4 (lw _) fun σ5 H5 s5 l5 => k4 _ _ H5 (cutH d H4) d c (ns0 ++ [0]) sc p l (ns0.map V.int) s5 l5 ht plS hsc (by rw [List.length_map]; exact hl) fun σ6 H6 => hq H6
theorem law_end {P : Program} {w : World} {K : PySem.W.Frag} {mg : Str → Option Value} {fa : Addr} {h : Heap} (a : Adr) (T : Txt P K mg a) (hp : a.par = w.params) (X : K.In h) (hmg : mg "law" = some (.ref fa))
    (c : PySem.W.codeHdIn K a.lcode a.tab = true) (hn : K.lookup a.tab = none) (ht : h.get? a.tab = some { cls := .none, data := .fields #[] }) :
    ∃ (cs : List (Addr × Addr)) (sp : Sp), (∀ p ∈ cs, h.get? p.2 = some { cls := .none, data := .fields #[] }) ∧ (∀ p ∈ cs, K.lookup p.2 = none) ∧ (∀ p ∈ cs, PySem.W.CodeHd h p.1 p.2) ∧
        (∀ (H : Hp) (a : Addr) (ns : List Int), ns.length ≤ 63 → (∀ z ∈ ns, Builtin.Int.intBits z ≤ 1048576) → (∀ p ∈ cs, H p.2 = some (.tbl #[])) → Scr K H a (ns.map V.int) → sp [.ref a] H (fun v _ => v = .bl true) fun _ _ _ => False) ∧
        ∀ base : Heap, K.In base → base.Ns mainGlobals mg → (∀ p ∈ cs, LamX.TabB base mg p.1 p.2) → CallP P w K mg base 30 (.ref fa) sp := by
  refine ⟨[(a.lcode, a.tab)], sp_law K a, fun p hp => ?_, fun p hp => ?_, fun p hp => ?_, fun H s ns hl _ hT hS => ⟨s, ns, rfl, hS, hl, hT _ (List.Mem.head _), fun _ => rfl⟩, fun base _ _ hTB => ?_⟩
  · rw [List.mem_singleton.mp hp]; exact ht
  · rw [List.mem_singleton.mp hp]; exact hn
  · rw [List.mem_singleton.mp hp]; exact PySem.W.codeHd_of_K X c
  · have q := T.g_law.symm.trans hmg
    cases q
    exact (ok_law T hp (hTB _ (List.Mem.head _))).mono (by decide)

end
end BJL
namespace BJL
open PySem PySem.Spec PyProof.Rows L2 BJ
theorem all_mk {P : Program} {K : PySem.W.Frag} {h : Heap} {mg : Str → Option Value} {Ais_integer Arow_of Ais_opcode_name Ais_opcode_number Aopcode_names Anumber_of Aname_of Asince A_law_begin A_law_mixed A_law_next A_law_table A_law_missed A_law_odd Alaw AJarError AStateError AMissingError AUnknownBrand ANoEntry ANoName ANothingToUndo AUnknownBrand_i AUnknownBrand_c AUnknownBrand_d ANoEntry_i ANoEntry_c ANoEntry_d ANoName_i ANoName_c ANoName_d ANothingToUndo_i ANothingToUndo_c ANothingToUndo_d AROWS ANUMBERS Alcode Atab : Addr} {par : Params} (X : K.In h) (G : h.Ns mainGlobals mg)
  {t_FIRST : Tok}
  {od_is_integer an_is_integer : Option Addr} {sl_is_integer : Array (Option Value)} {oc_is_integer kV_is_integer dc_is_integer pm_is_integer cd_is_integer ct_is_integer : Value}
  {od_row_of an_row_of : Option Addr} {sl_row_of : Array (Option Value)} {oc_row_of kV_row_of dc_row_of pm_row_of cd_row_of ct_row_of : Value}
  {od_is_opcode_name an_is_opcode_name : Option Addr} {sl_is_opcode_name : Array (Option Value)} {oc_is_opcode_name kV_is_opcode_name dc_is_opcode_name pm_is_opcode_name cd_is_opcode_name ct_is_opcode_name : Value}
  {od_is_opcode_number an_is_opcode_number : Option Addr} {sl_is_opcode_number : Array (Option Value)} {oc_is_opcode_number kV_is_opcode_number dc_is_opcode_number pm_is_opcode_number cd_is_opcode_number ct_is_opcode_number : Value}
  {od_opcode_names an_opcode_names : Option Addr} {sl_opcode_names : Array (Option Value)} {oc_opcode_names kV_opcode_names dc_opcode_names pm_opcode_names cd_opcode_names ct_opcode_names : Value}
  {od_number_of an_number_of : Option Addr} {sl_number_of : Array (Option Value)} {oc_number_of kV_number_of dc_number_of pm_number_of cd_number_of ct_number_of : Value}
  {od_name_of an_name_of : Option Addr} {sl_name_of : Array (Option Value)} {oc_name_of kV_name_of dc_name_of pm_name_of cd_name_of ct_name_of : Value}
  {od_since an_since : Option Addr} {sl_since : Array (Option Value)} {oc_since kV_since dc_since pm_since cd_since ct_since : Value}
  {od__law_begin an__law_begin : Option Addr} {sl__law_begin : Array (Option Value)} {oc__law_begin kV__law_begin dc__law_begin pm__law_begin cd__law_begin ct__law_begin : Value}
  {od__law_mixed an__law_mixed : Option Addr} {sl__law_mixed : Array (Option Value)} {oc__law_mixed kV__law_mixed dc__law_mixed pm__law_mixed cd__law_mixed ct__law_mixed : Value}
  {od__law_next an__law_next : Option Addr} {sl__law_next : Array (Option Value)} {oc__law_next kV__law_next dc__law_next pm__law_next cd__law_next ct__law_next : Value}
  {od__law_table an__law_table : Option Addr} {sl__law_table : Array (Option Value)} {oc__law_table kV__law_table dc__law_table pm__law_table cd__law_table ct__law_table : Value}
  {od__law_missed an__law_missed : Option Addr} {sl__law_missed : Array (Option Value)} {oc__law_missed kV__law_missed dc__law_missed pm__law_missed cd__law_missed ct__law_missed : Value}
  {od__law_odd an__law_odd : Option Addr} {sl__law_odd : Array (Option Value)} {oc__law_odd kV__law_odd dc__law_odd pm__law_odd cd__law_odd ct__law_odd : Value}
  {od_law an_law : Option Addr} {sl_law : Array (Option Value)} {oc_law kV_law dc_law pm_law ct_law : Value}
  {oc_lc : Value} {od_lc : Option Addr} {vs_lc : Array Value} {sl_lc : Array (Option Value)}
  {od_UnknownBrand an_UnknownBrand : Option Addr} {sl_UnknownBrand : Array (Option Value)} {oc_UnknownBrand kV_UnknownBrand dc_UnknownBrand pm_UnknownBrand ct_UnknownBrand : Value} {cl_UnknownBrand ccl_UnknownBrand : Value} {cld_UnknownBrand cdd_UnknownBrand : Option Addr} {csl_UnknownBrand ccs_UnknownBrand : Array (Option Value)} {vs_UnknownBrand : Array Value}
  {tf_UnknownBrand : Tok}
  {od_NoEntry an_NoEntry : Option Addr} {sl_NoEntry : Array (Option Value)} {oc_NoEntry kV_NoEntry dc_NoEntry pm_NoEntry ct_NoEntry : Value} {cl_NoEntry ccl_NoEntry : Value} {cld_NoEntry cdd_NoEntry : Option Addr} {csl_NoEntry ccs_NoEntry : Array (Option Value)} {vs_NoEntry : Array Value}
  {tf_NoEntry : Tok}
  {od_NoName an_NoName : Option Addr} {sl_NoName : Array (Option Value)} {oc_NoName kV_NoName dc_NoName pm_NoName ct_NoName : Value} {cl_NoName ccl_NoName : Value} {cld_NoName cdd_NoName : Option Addr} {csl_NoName ccs_NoName : Array (Option Value)} {vs_NoName : Array Value}
  {tf_NoName : Tok}
  {od_NothingToUndo an_NothingToUndo : Option Addr} {sl_NothingToUndo : Array (Option Value)} {oc_NothingToUndo kV_NothingToUndo dc_NothingToUndo pm_NothingToUndo ct_NothingToUndo : Value} {cl_NothingToUndo ccl_NothingToUndo : Value} {cld_NothingToUndo cdd_NothingToUndo : Option Addr} {csl_NothingToUndo ccs_NothingToUndo : Array (Option Value)} {vs_NothingToUndo : Array Value}
  {tf_NothingToUndo : Tok}
  (za_ROWS : PySem.W.nsIn K mainGlobals "ROWS" = some (some (.ref AROWS)))
  (za_NUMBERS : PySem.W.nsIn K mainGlobals "NUMBERS" = some (some (.ref ANUMBERS)))
  (zb_LookupError : PySem.W.nsIn K mainGlobals "LookupError" = some none)
  (zb_ValueError : PySem.W.nsIn K mainGlobals "ValueError" = some none)
  (zb_bool : PySem.W.nsIn K mainGlobals "bool" = some none)
  (zb_enumerate : PySem.W.nsIn K mainGlobals "enumerate" = some none)
  (zb_int : PySem.W.nsIn K mainGlobals "int" = some none)
  (zb_isinstance : PySem.W.nsIn K mainGlobals "isinstance" = some none)
  (zb_len : PySem.W.nsIn K mainGlobals "len" = some none)
  (zb_list : PySem.W.nsIn K mainGlobals "list" = some none)
  (zb_min : PySem.W.nsIn K mainGlobals "min" = some none)
  (zb_range : PySem.W.nsIn K mainGlobals "range" = some none)
  (zb_repr : PySem.W.nsIn K mainGlobals "repr" = some none)
  (zb_str : PySem.W.nsIn K mainGlobals "str" = some none)
  (zb_tuple : PySem.W.nsIn K mainGlobals "tuple" = some none)
  (zb_super : PySem.W.nsIn K mainGlobals "super" = some none)
  (zc_FIRST : PySem.W.nsIn K mainGlobals "FIRST" = some (some (.int (160) t_FIRST)))
  (za_is_integer : PySem.W.nsIn K mainGlobals "is_integer" = some (some (.ref Ais_integer)))
  (zl_is_integer : K.lookup Ais_integer = some ⟨oc_is_integer, od_is_integer, .func (PySem.W.fnOf "is_integer" "is_integer" (defArgs s_is_integer) (defBody s_is_integer) (defScope s_is_integer) .none kV_is_integer dc_is_integer pm_is_integer an_is_integer cd_is_integer ct_is_integer), sl_is_integer⟩)
  (zd_is_integer : PySem.W.codeIn K cd_is_integer "is_integer" = true)
  (zk_is_integer : PySem.W.keepIn K (.ref Ais_integer) = true)
  (za_row_of : PySem.W.nsIn K mainGlobals "row_of" = some (some (.ref Arow_of)))
  (zl_row_of : K.lookup Arow_of = some ⟨oc_row_of, od_row_of, .func (PySem.W.fnOf "row_of" "row_of" (defArgs s_row_of) (defBody s_row_of) (defScope s_row_of) .none kV_row_of dc_row_of pm_row_of an_row_of cd_row_of ct_row_of), sl_row_of⟩)
  (zd_row_of : PySem.W.codeIn K cd_row_of "row_of" = true)
  (zk_row_of : PySem.W.keepIn K (.ref Arow_of) = true)
  (za_is_opcode_name : PySem.W.nsIn K mainGlobals "is_opcode_name" = some (some (.ref Ais_opcode_name)))
  (zl_is_opcode_name : K.lookup Ais_opcode_name = some ⟨oc_is_opcode_name, od_is_opcode_name, .func (PySem.W.fnOf "is_opcode_name" "is_opcode_name" (defArgs s_is_opcode_name) (defBody s_is_opcode_name) (defScope s_is_opcode_name) .none kV_is_opcode_name dc_is_opcode_name pm_is_opcode_name an_is_opcode_name cd_is_opcode_name ct_is_opcode_name), sl_is_opcode_name⟩)
  (zd_is_opcode_name : PySem.W.codeIn K cd_is_opcode_name "is_opcode_name" = true)
  (zk_is_opcode_name : PySem.W.keepIn K (.ref Ais_opcode_name) = true)
  (za_is_opcode_number : PySem.W.nsIn K mainGlobals "is_opcode_number" = some (some (.ref Ais_opcode_number)))
  (zl_is_opcode_number : K.lookup Ais_opcode_number = some ⟨oc_is_opcode_number, od_is_opcode_number, .func (PySem.W.fnOf "is_opcode_number" "is_opcode_number" (defArgs s_is_opcode_number) (defBody s_is_opcode_number) (defScope s_is_opcode_number) .none kV_is_opcode_number dc_is_opcode_number pm_is_opcode_number an_is_opcode_number cd_is_opcode_number ct_is_opcode_number), sl_is_opcode_number⟩)
  (zd_is_opcode_number : PySem.W.codeIn K cd_is_opcode_number "is_opcode_number" = true)
  (zk_is_opcode_number : PySem.W.keepIn K (.ref Ais_opcode_number) = true)
  (za_opcode_names : PySem.W.nsIn K mainGlobals "opcode_names" = some (some (.ref Aopcode_names)))
  (zl_opcode_names : K.lookup Aopcode_names = some ⟨oc_opcode_names, od_opcode_names, .func (PySem.W.fnOf "opcode_names" "opcode_names" (defArgs s_opcode_names) (defBody s_opcode_names) (defScope s_opcode_names) .none kV_opcode_names dc_opcode_names pm_opcode_names an_opcode_names cd_opcode_names ct_opcode_names), sl_opcode_names⟩)
  (zd_opcode_names : PySem.W.codeIn K cd_opcode_names "opcode_names" = true)
  (zk_opcode_names : PySem.W.keepIn K (.ref Aopcode_names) = true)
  (za_number_of : PySem.W.nsIn K mainGlobals "number_of" = some (some (.ref Anumber_of)))
  (zl_number_of : K.lookup Anumber_of = some ⟨oc_number_of, od_number_of, .func (PySem.W.fnOf "number_of" "number_of" (defArgs s_number_of) (defBody s_number_of) (defScope s_number_of) .none kV_number_of dc_number_of pm_number_of an_number_of cd_number_of ct_number_of), sl_number_of⟩)
  (zd_number_of : PySem.W.codeIn K cd_number_of "number_of" = true)
  (zk_number_of : PySem.W.keepIn K (.ref Anumber_of) = true)
  (za_name_of : PySem.W.nsIn K mainGlobals "name_of" = some (some (.ref Aname_of)))
  (zl_name_of : K.lookup Aname_of = some ⟨oc_name_of, od_name_of, .func (PySem.W.fnOf "name_of" "name_of" (defArgs s_name_of) (defBody s_name_of) (defScope s_name_of) .none kV_name_of dc_name_of pm_name_of an_name_of cd_name_of ct_name_of), sl_name_of⟩)
  (zd_name_of : PySem.W.codeIn K cd_name_of "name_of" = true)
  (zk_name_of : PySem.W.keepIn K (.ref Aname_of) = true)
  (za_since : PySem.W.nsIn K mainGlobals "since" = some (some (.ref Asince)))
  (zl_since : K.lookup Asince = some ⟨oc_since, od_since, .func (PySem.W.fnOf "since" "since" (defArgs s_since) (defBody s_since) (defScope s_since) .none kV_since dc_since pm_since an_since cd_since ct_since), sl_since⟩)
  (zd_since : PySem.W.codeIn K cd_since "since" = true)
  (zk_since : PySem.W.keepIn K (.ref Asince) = true)
  (za__law_begin : PySem.W.nsIn K mainGlobals "_law_begin" = some (some (.ref A_law_begin)))
  (zl__law_begin : K.lookup A_law_begin = some ⟨oc__law_begin, od__law_begin, .func (PySem.W.fnOf "_law_begin" "_law_begin" (defArgs s__law_begin) (defBody s__law_begin) (defScope s__law_begin) .none kV__law_begin dc__law_begin pm__law_begin an__law_begin cd__law_begin ct__law_begin), sl__law_begin⟩)
  (zd__law_begin : PySem.W.codeIn K cd__law_begin "_law_begin" = true)
  (zk__law_begin : PySem.W.keepIn K (.ref A_law_begin) = true)
  (za__law_mixed : PySem.W.nsIn K mainGlobals "_law_mixed" = some (some (.ref A_law_mixed)))
  (zl__law_mixed : K.lookup A_law_mixed = some ⟨oc__law_mixed, od__law_mixed, .func (PySem.W.fnOf "_law_mixed" "_law_mixed" (defArgs s__law_mixed) (defBody s__law_mixed) (defScope s__law_mixed) .none kV__law_mixed dc__law_mixed pm__law_mixed an__law_mixed cd__law_mixed ct__law_mixed), sl__law_mixed⟩)
  (zd__law_mixed : PySem.W.codeIn K cd__law_mixed "_law_mixed" = true)
  (zk__law_mixed : PySem.W.keepIn K (.ref A_law_mixed) = true)
  (za__law_next : PySem.W.nsIn K mainGlobals "_law_next" = some (some (.ref A_law_next)))
  (zl__law_next : K.lookup A_law_next = some ⟨oc__law_next, od__law_next, .func (PySem.W.fnOf "_law_next" "_law_next" (defArgs s__law_next) (defBody s__law_next) (defScope s__law_next) .none kV__law_next dc__law_next pm__law_next an__law_next cd__law_next ct__law_next), sl__law_next⟩)
  (zd__law_next : PySem.W.codeIn K cd__law_next "_law_next" = true)
  (zk__law_next : PySem.W.keepIn K (.ref A_law_next) = true)
  (za__law_table : PySem.W.nsIn K mainGlobals "_law_table" = some (some (.ref A_law_table)))
  (zl__law_table : K.lookup A_law_table = some ⟨oc__law_table, od__law_table, .func (PySem.W.fnOf "_law_table" "_law_table" (defArgs s__law_table) (defBody s__law_table) (defScope s__law_table) .none kV__law_table dc__law_table pm__law_table an__law_table cd__law_table ct__law_table), sl__law_table⟩)
  (zd__law_table : PySem.W.codeIn K cd__law_table "_law_table" = true)
  (zk__law_table : PySem.W.keepIn K (.ref A_law_table) = true)
  (za__law_missed : PySem.W.nsIn K mainGlobals "_law_missed" = some (some (.ref A_law_missed)))
  (zl__law_missed : K.lookup A_law_missed = some ⟨oc__law_missed, od__law_missed, .func (PySem.W.fnOf "_law_missed" "_law_missed" (defArgs s__law_missed) (defBody s__law_missed) (defScope s__law_missed) .none kV__law_missed dc__law_missed pm__law_missed an__law_missed cd__law_missed ct__law_missed), sl__law_missed⟩)
  (zd__law_missed : PySem.W.codeIn K cd__law_missed "_law_missed" = true)
  (zk__law_missed : PySem.W.keepIn K (.ref A_law_missed) = true)
  (za__law_odd : PySem.W.nsIn K mainGlobals "_law_odd" = some (some (.ref A_law_odd)))
  (zl__law_odd : K.lookup A_law_odd = some ⟨oc__law_odd, od__law_odd, .func (PySem.W.fnOf "_law_odd" "_law_odd" (defArgs s__law_odd) (defBody s__law_odd) (defScope s__law_odd) .none kV__law_odd dc__law_odd pm__law_odd an__law_odd cd__law_odd ct__law_odd), sl__law_odd⟩)
  (zd__law_odd : PySem.W.codeIn K cd__law_odd "_law_odd" = true)
  (zk__law_odd : PySem.W.keepIn K (.ref A_law_odd) = true)
  (za_law : PySem.W.nsIn K mainGlobals "law" = some (some (.ref Alaw)))
  (zl_law : K.lookup Alaw = some ⟨oc_law, od_law, .func (PySem.W.fnOf "law" "law" (defArgs s_law) (defBody s_law) (defScope s_law) .none kV_law dc_law pm_law an_law (.ref Alcode) ct_law), sl_law⟩)
  (zd_law : PySem.W.codeIn K (.ref Alcode) "law" = true)
  (zk_law : PySem.W.keepIn K (.ref Alaw) = true)
  (zt_lc : K.lookup Alcode = some ⟨oc_lc, od_lc, .fields vs_lc, sl_lc⟩)
  (zt_tab : vs_lc[11]? = some (.ref Atab))
  (za_JarError : PySem.W.nsIn K mainGlobals "JarError" = some (some (.ref AJarError)))
  (zt_JarError : PySem.W.typeIn K (.ref AJarError) = some (.type "type"))
  (zx_JarError : PySem.W.subIn K (.ref AJarError) (.type "BaseException") = some true)
  (zh_JarError : PySem.W.hasDictIn K AJarError = true)
  (za_StateError : PySem.W.nsIn K mainGlobals "StateError" = some (some (.ref AStateError)))
  (zt_StateError : PySem.W.typeIn K (.ref AStateError) = some (.type "type"))
  (zx_StateError : PySem.W.subIn K (.ref AStateError) (.type "BaseException") = some true)
  (zh_StateError : PySem.W.hasDictIn K AStateError = true)
  (za_MissingError : PySem.W.nsIn K mainGlobals "MissingError" = some (some (.ref AMissingError)))
  (zt_MissingError : PySem.W.typeIn K (.ref AMissingError) = some (.type "type"))
  (zx_MissingError : PySem.W.subIn K (.ref AMissingError) (.type "BaseException") = some true)
  (zh_MissingError : PySem.W.hasDictIn K AMissingError = true)
  (za_UnknownBrand : PySem.W.nsIn K mainGlobals "UnknownBrand" = some (some (.ref AUnknownBrand)))
  (zt_UnknownBrand : PySem.W.typeIn K (.ref AUnknownBrand) = some (.type "type"))
  (zx_UnknownBrand : PySem.W.subIn K (.ref AUnknownBrand) (.type "BaseException") = some true)
  (zh_UnknownBrand : PySem.W.hasDictIn K AUnknownBrand = true)
  (zi_UnknownBrand : PySem.W.excInitIn K AUnknownBrand [.type "LookupError", .type "Exception", .type "BaseException", .type "object"] "LookupError.__new__" = true)
  (zo_UnknownBrand : PySem.W.excOver K AUnknownBrand [.type "LookupError", .type "Exception", .type "BaseException", .type "object"] = true)
  (zI_UnknownBrand : PySem.W.findIn K (.ref AUnknownBrand) "__init__" = some (some (.ref AUnknownBrand_i)))
  (zf_UnknownBrand : PySem.W.isFn K (.ref AUnknownBrand_i) = true)
  (zl_UnknownBrand : K.lookup AUnknownBrand_i = some ⟨oc_UnknownBrand, od_UnknownBrand, .func (PySem.W.ksFn "__init__" "UnknownBrand.__init__" (eiA ((["given"] : List Str).zip [⟨10, 23, 10, 28⟩]) ⟨10, 17, 10, 21⟩) (eiSup "unknown brand" ⟨11, 8, 11, 13⟩ ⟨11, 8, 11, 15⟩ ⟨11, 8, 11, 24⟩ ⟨11, 25, 11, 40⟩ ⟨11, 8, 11, 41⟩ :: setsB [("given", ⟨12, 8, 12, 12⟩, ⟨12, 8, 12, 18⟩, ⟨12, 21, 12, 26⟩, ⟨12, 8, 12, 26⟩)]) (eiS ["given"]) .none kV_UnknownBrand dc_UnknownBrand pm_UnknownBrand an_UnknownBrand (.ref AUnknownBrand_d) ct_UnknownBrand AUnknownBrand_c), sl_UnknownBrand⟩)
  (zq_UnknownBrand : PySem.W.codeIn K (.ref AUnknownBrand_d) "UnknownBrand.__init__" = true)
  (zs_UnknownBrand : PySem.W.ks_superIn K AUnknownBrand AUnknownBrand "__init__" = some (some (.builtin "LookupError.__init__")))
  (zB_UnknownBrand : PySem.W.subIn K (.ref AUnknownBrand) (.type "LookupError") = some true)
  (zST_UnknownBrand : PySem.W.nsIn K PySem.cStatics "thirdparty.any" = some none)
  (zA_UnknownBrand : PySem.W.findIn K (.ref AUnknownBrand) "__setattr__" = some (some (.builtin "object.__setattr__")))
  (zT_UnknownBrand_given : PySem.W.takerIn K AUnknownBrand "given" = some none)
  (zn_UnknownBrand_given : PySem.W.findIn K (.ref AUnknownBrand) "given" = some none)
  (zC_UnknownBrand : K.lookup AUnknownBrand_c = some ⟨cl_UnknownBrand, cld_UnknownBrand, .cell (some (.ref AUnknownBrand)), csl_UnknownBrand⟩)
  (zD_UnknownBrand : K.lookup AUnknownBrand_d = some ⟨ccl_UnknownBrand, cdd_UnknownBrand, .fields vs_UnknownBrand, ccs_UnknownBrand⟩)
  (zE_UnknownBrand : vs_UnknownBrand[2]? = some (.str P.main.file tf_UnknownBrand))
  (zM_UnknownBrand : PySem.W.mroIn K AUnknownBrand (.ref AUnknownBrand) = some true)
  (zN_UnknownBrand : (PySem.W.clsIn K AUnknownBrand).isSome = true)
  (zP_UnknownBrand : (P.main.scope.names.lookup ("super" : Str)).isSome = false)
  (zk_UnknownBrand : PySem.W.keepIn K (.ref AUnknownBrand) = true)
  (zga_UnknownBrand : PySem.W.findIn K (.ref AUnknownBrand) "__getattribute__" = some (some (.builtin "BaseException.__getattribute__")))
  (zgg_UnknownBrand : PySem.W.findIn K (.ref AUnknownBrand) "__getattr__" = some none)
  (zcc_UnknownBrand : PySem.W.findIn K (.ref AUnknownBrand) "__class__" = some (some (.builtin "object.__class__")))
  (zcg_UnknownBrand : PySem.W.specialIn K (.builtin "object.__class__") "__get__" = some (some (.builtin "getset_descriptor.__get__")))
  (zct_UnknownBrand : PySem.W.takesIn K (.builtin "object.__class__") = some true)
  (zmo_UnknownBrand : PySem.W.mroIn K AUnknownBrand (.type "object") = some true)
  (za_NoEntry : PySem.W.nsIn K mainGlobals "NoEntry" = some (some (.ref ANoEntry)))
  (zt_NoEntry : PySem.W.typeIn K (.ref ANoEntry) = some (.type "type"))
  (zx_NoEntry : PySem.W.subIn K (.ref ANoEntry) (.type "BaseException") = some true)
  (zh_NoEntry : PySem.W.hasDictIn K ANoEntry = true)
  (zi_NoEntry : PySem.W.excInitIn K ANoEntry [.type "LookupError", .type "Exception", .type "BaseException", .type "object"] "LookupError.__new__" = true)
  (zo_NoEntry : PySem.W.excOver K ANoEntry [.type "LookupError", .type "Exception", .type "BaseException", .type "object"] = true)
  (zI_NoEntry : PySem.W.findIn K (.ref ANoEntry) "__init__" = some (some (.ref ANoEntry_i)))
  (zf_NoEntry : PySem.W.isFn K (.ref ANoEntry_i) = true)
  (zl_NoEntry : K.lookup ANoEntry_i = some ⟨oc_NoEntry, od_NoEntry, .func (PySem.W.ksFn "__init__" "NoEntry.__init__" (eiA ((["key"] : List Str).zip [⟨15, 23, 15, 26⟩]) ⟨15, 17, 15, 21⟩) (eiSup "no such entry" ⟨16, 8, 16, 13⟩ ⟨16, 8, 16, 15⟩ ⟨16, 8, 16, 24⟩ ⟨16, 25, 16, 40⟩ ⟨16, 8, 16, 41⟩ :: setsB [("key", ⟨17, 8, 17, 12⟩, ⟨17, 8, 17, 16⟩, ⟨17, 19, 17, 22⟩, ⟨17, 8, 17, 22⟩)]) (eiS ["key"]) .none kV_NoEntry dc_NoEntry pm_NoEntry an_NoEntry (.ref ANoEntry_d) ct_NoEntry ANoEntry_c), sl_NoEntry⟩)
  (zq_NoEntry : PySem.W.codeIn K (.ref ANoEntry_d) "NoEntry.__init__" = true)
  (zs_NoEntry : PySem.W.ks_superIn K ANoEntry ANoEntry "__init__" = some (some (.builtin "LookupError.__init__")))
  (zB_NoEntry : PySem.W.subIn K (.ref ANoEntry) (.type "LookupError") = some true)
  (zST_NoEntry : PySem.W.nsIn K PySem.cStatics "thirdparty.any" = some none)
  (zA_NoEntry : PySem.W.findIn K (.ref ANoEntry) "__setattr__" = some (some (.builtin "object.__setattr__")))
  (zT_NoEntry_key : PySem.W.takerIn K ANoEntry "key" = some none)
  (zn_NoEntry_key : PySem.W.findIn K (.ref ANoEntry) "key" = some none)
  (zC_NoEntry : K.lookup ANoEntry_c = some ⟨cl_NoEntry, cld_NoEntry, .cell (some (.ref ANoEntry)), csl_NoEntry⟩)
  (zD_NoEntry : K.lookup ANoEntry_d = some ⟨ccl_NoEntry, cdd_NoEntry, .fields vs_NoEntry, ccs_NoEntry⟩)
  (zE_NoEntry : vs_NoEntry[2]? = some (.str P.main.file tf_NoEntry))
  (zM_NoEntry : PySem.W.mroIn K ANoEntry (.ref ANoEntry) = some true)
  (zN_NoEntry : (PySem.W.clsIn K ANoEntry).isSome = true)
  (zP_NoEntry : (P.main.scope.names.lookup ("super" : Str)).isSome = false)
  (zk_NoEntry : PySem.W.keepIn K (.ref ANoEntry) = true)
  (zga_NoEntry : PySem.W.findIn K (.ref ANoEntry) "__getattribute__" = some (some (.builtin "BaseException.__getattribute__")))
  (zgg_NoEntry : PySem.W.findIn K (.ref ANoEntry) "__getattr__" = some none)
  (zcc_NoEntry : PySem.W.findIn K (.ref ANoEntry) "__class__" = some (some (.builtin "object.__class__")))
  (zcg_NoEntry : PySem.W.specialIn K (.builtin "object.__class__") "__get__" = some (some (.builtin "getset_descriptor.__get__")))
  (zct_NoEntry : PySem.W.takesIn K (.builtin "object.__class__") = some true)
  (zmo_NoEntry : PySem.W.mroIn K ANoEntry (.type "object") = some true)
  (za_NoName : PySem.W.nsIn K mainGlobals "NoName" = some (some (.ref ANoName)))
  (zt_NoName : PySem.W.typeIn K (.ref ANoName) = some (.type "type"))
  (zx_NoName : PySem.W.subIn K (.ref ANoName) (.type "BaseException") = some true)
  (zh_NoName : PySem.W.hasDictIn K ANoName = true)
  (zi_NoName : PySem.W.excInitIn K ANoName [.type "LookupError", .type "Exception", .type "BaseException", .type "object"] "LookupError.__new__" = true)
  (zo_NoName : PySem.W.excOver K ANoName [.type "LookupError", .type "Exception", .type "BaseException", .type "object"] = true)
  (zI_NoName : PySem.W.findIn K (.ref ANoName) "__init__" = some (some (.ref ANoName_i)))
  (zf_NoName : PySem.W.isFn K (.ref ANoName_i) = true)
  (zl_NoName : K.lookup ANoName_i = some ⟨oc_NoName, od_NoName, .func (PySem.W.ksFn "__init__" "NoName.__init__" (eiA ((["given"] : List Str).zip [⟨20, 23, 20, 28⟩]) ⟨20, 17, 20, 21⟩) (eiSup "no such name" ⟨21, 8, 21, 13⟩ ⟨21, 8, 21, 15⟩ ⟨21, 8, 21, 24⟩ ⟨21, 25, 21, 39⟩ ⟨21, 8, 21, 40⟩ :: setsB [("given", ⟨22, 8, 22, 12⟩, ⟨22, 8, 22, 18⟩, ⟨22, 21, 22, 26⟩, ⟨22, 8, 22, 26⟩)]) (eiS ["given"]) .none kV_NoName dc_NoName pm_NoName an_NoName (.ref ANoName_d) ct_NoName ANoName_c), sl_NoName⟩)
  (zq_NoName : PySem.W.codeIn K (.ref ANoName_d) "NoName.__init__" = true)
  (zs_NoName : PySem.W.ks_superIn K ANoName ANoName "__init__" = some (some (.builtin "LookupError.__init__")))
  (zB_NoName : PySem.W.subIn K (.ref ANoName) (.type "LookupError") = some true)
  (zST_NoName : PySem.W.nsIn K PySem.cStatics "thirdparty.any" = some none)
  (zA_NoName : PySem.W.findIn K (.ref ANoName) "__setattr__" = some (some (.builtin "object.__setattr__")))
  (zT_NoName_given : PySem.W.takerIn K ANoName "given" = some none)
  (zn_NoName_given : PySem.W.findIn K (.ref ANoName) "given" = some none)
  (zC_NoName : K.lookup ANoName_c = some ⟨cl_NoName, cld_NoName, .cell (some (.ref ANoName)), csl_NoName⟩)
  (zD_NoName : K.lookup ANoName_d = some ⟨ccl_NoName, cdd_NoName, .fields vs_NoName, ccs_NoName⟩)
  (zE_NoName : vs_NoName[2]? = some (.str P.main.file tf_NoName))
  (zM_NoName : PySem.W.mroIn K ANoName (.ref ANoName) = some true)
  (zN_NoName : (PySem.W.clsIn K ANoName).isSome = true)
  (zP_NoName : (P.main.scope.names.lookup ("super" : Str)).isSome = false)
  (zk_NoName : PySem.W.keepIn K (.ref ANoName) = true)
  (zga_NoName : PySem.W.findIn K (.ref ANoName) "__getattribute__" = some (some (.builtin "BaseException.__getattribute__")))
  (zgg_NoName : PySem.W.findIn K (.ref ANoName) "__getattr__" = some none)
  (zcc_NoName : PySem.W.findIn K (.ref ANoName) "__class__" = some (some (.builtin "object.__class__")))
  (zcg_NoName : PySem.W.specialIn K (.builtin "object.__class__") "__get__" = some (some (.builtin "getset_descriptor.__get__")))
  (zct_NoName : PySem.W.takesIn K (.builtin "object.__class__") = some true)
  (zmo_NoName : PySem.W.mroIn K ANoName (.type "object") = some true)
  (za_NothingToUndo : PySem.W.nsIn K mainGlobals "NothingToUndo" = some (some (.ref ANothingToUndo)))
  (zt_NothingToUndo : PySem.W.typeIn K (.ref ANothingToUndo) = some (.type "type"))
  (zx_NothingToUndo : PySem.W.subIn K (.ref ANothingToUndo) (.type "BaseException") = some true)
  (zh_NothingToUndo : PySem.W.hasDictIn K ANothingToUndo = true)
  (zi_NothingToUndo : PySem.W.excInitIn K ANothingToUndo [.type "LookupError", .type "Exception", .type "BaseException", .type "object"] "LookupError.__new__" = true)
  (zo_NothingToUndo : PySem.W.excOver K ANothingToUndo [.type "LookupError", .type "Exception", .type "BaseException", .type "object"] = true)
  (zI_NothingToUndo : PySem.W.findIn K (.ref ANothingToUndo) "__init__" = some (some (.ref ANothingToUndo_i)))
  (zf_NothingToUndo : PySem.W.isFn K (.ref ANothingToUndo_i) = true)
  (zl_NothingToUndo : K.lookup ANothingToUndo_i = some ⟨oc_NothingToUndo, od_NothingToUndo, .func (PySem.W.ksFn "__init__" "NothingToUndo.__init__" (eiA ((["count"] : List Str).zip [⟨25, 23, 25, 28⟩]) ⟨25, 17, 25, 21⟩) (eiSup "there is no change to take back" ⟨26, 8, 26, 13⟩ ⟨26, 8, 26, 15⟩ ⟨26, 8, 26, 24⟩ ⟨26, 25, 26, 58⟩ ⟨26, 8, 26, 59⟩ :: setsB [("count", ⟨27, 8, 27, 12⟩, ⟨27, 8, 27, 18⟩, ⟨27, 21, 27, 26⟩, ⟨27, 8, 27, 26⟩)]) (eiS ["count"]) .none kV_NothingToUndo dc_NothingToUndo pm_NothingToUndo an_NothingToUndo (.ref ANothingToUndo_d) ct_NothingToUndo ANothingToUndo_c), sl_NothingToUndo⟩)
  (zq_NothingToUndo : PySem.W.codeIn K (.ref ANothingToUndo_d) "NothingToUndo.__init__" = true)
  (zs_NothingToUndo : PySem.W.ks_superIn K ANothingToUndo ANothingToUndo "__init__" = some (some (.builtin "LookupError.__init__")))
  (zB_NothingToUndo : PySem.W.subIn K (.ref ANothingToUndo) (.type "LookupError") = some true)
  (zST_NothingToUndo : PySem.W.nsIn K PySem.cStatics "thirdparty.any" = some none)
  (zA_NothingToUndo : PySem.W.findIn K (.ref ANothingToUndo) "__setattr__" = some (some (.builtin "object.__setattr__")))
  (zT_NothingToUndo_count : PySem.W.takerIn K ANothingToUndo "count" = some none)
  (zn_NothingToUndo_count : PySem.W.findIn K (.ref ANothingToUndo) "count" = some none)
  (zC_NothingToUndo : K.lookup ANothingToUndo_c = some ⟨cl_NothingToUndo, cld_NothingToUndo, .cell (some (.ref ANothingToUndo)), csl_NothingToUndo⟩)
  (zD_NothingToUndo : K.lookup ANothingToUndo_d = some ⟨ccl_NothingToUndo, cdd_NothingToUndo, .fields vs_NothingToUndo, ccs_NothingToUndo⟩)
  (zE_NothingToUndo : vs_NothingToUndo[2]? = some (.str P.main.file tf_NothingToUndo))
  (zM_NothingToUndo : PySem.W.mroIn K ANothingToUndo (.ref ANothingToUndo) = some true)
  (zN_NothingToUndo : (PySem.W.clsIn K ANothingToUndo).isSome = true)
  (zP_NothingToUndo : (P.main.scope.names.lookup ("super" : Str)).isSome = false)
  (zk_NothingToUndo : PySem.W.keepIn K (.ref ANothingToUndo) = true)
  (zga_NothingToUndo : PySem.W.findIn K (.ref ANothingToUndo) "__getattribute__" = some (some (.builtin "BaseException.__getattribute__")))
  (zgg_NothingToUndo : PySem.W.findIn K (.ref ANothingToUndo) "__getattr__" = some none)
  (zcc_NothingToUndo : PySem.W.findIn K (.ref ANothingToUndo) "__class__" = some (some (.builtin "object.__class__")))
  (zcg_NothingToUndo : PySem.W.specialIn K (.builtin "object.__class__") "__get__" = some (some (.builtin "getset_descriptor.__get__")))
  (zct_NothingToUndo : PySem.W.takesIn K (.builtin "object.__class__") = some true)
  (zmo_NothingToUndo : PySem.W.mroIn K ANothingToUndo (.type "object") = some true)
  (zu_NoName_JarError : PySem.W.kitOne K (.ref ANoName) (.ref AJarError) = some false)
  (zv_NoName_JarError : PySem.W.exmOne K (.ref ANoName) (.ref AJarError) = some false)
  (zu_NoName_StateError : PySem.W.kitOne K (.ref ANoName) (.ref AStateError) = some false)
  (zv_NoName_StateError : PySem.W.exmOne K (.ref ANoName) (.ref AStateError) = some false)
  (zu_NoName_MissingError : PySem.W.kitOne K (.ref ANoName) (.ref AMissingError) = some true)
  (zv_NoName_MissingError : PySem.W.exmOne K (.ref ANoName) (.ref AMissingError) = some true)
  (zu_NoName_NoName : PySem.W.kitOne K (.ref ANoName) (.ref ANoName) = some true)
  (zv_NoName_NoName : PySem.W.exmOne K (.ref ANoName) (.ref ANoName) = some true)
  (zu_NoName_NoEntry : PySem.W.kitOne K (.ref ANoName) (.ref ANoEntry) = some false)
  (zv_NoName_NoEntry : PySem.W.exmOne K (.ref ANoName) (.ref ANoEntry) = some false)
  (zu_NoName_NothingToUndo : PySem.W.kitOne K (.ref ANoName) (.ref ANothingToUndo) = some false)
  (zv_NoName_NothingToUndo : PySem.W.exmOne K (.ref ANoName) (.ref ANothingToUndo) = some false)
  (zu_NoName_UnknownBrand : PySem.W.kitOne K (.ref ANoName) (.ref AUnknownBrand) = some false)
  (zv_NoName_UnknownBrand : PySem.W.exmOne K (.ref ANoName) (.ref AUnknownBrand) = some false)
  (zu_NoName_LookupError : PySem.W.kitOne K (.ref ANoName) (.type "LookupError") = some true)
  (zu_NoName_ValueError : PySem.W.kitOne K (.ref ANoName) (.type "ValueError") = some false)
  (zz_rows : rowsIn K AROWS = some rowsL)
  (zz_nums : KDL K par ANUMBERS numL) : Txt P K mg ⟨Ais_integer, Arow_of, Ais_opcode_name, Ais_opcode_number, Aopcode_names, Anumber_of, Aname_of, Asince, A_law_begin, A_law_mixed, A_law_next, A_law_table, A_law_missed, A_law_odd, Alaw, AJarError, AStateError, AMissingError, AUnknownBrand, ANoEntry, ANoName, ANothingToUndo, AUnknownBrand_i, AUnknownBrand_c, AUnknownBrand_d, ANoEntry_i, ANoEntry_c, ANoEntry_d, ANoName_i, ANoName_c, ANoName_d, ANothingToUndo_i, ANothingToUndo_c, ANothingToUndo_d, AROWS, ANUMBERS, Alcode, Atab, par⟩ := {
  g_ROWS := PySem.W.mg_of X G za_ROWS,
  g_NUMBERS := PySem.W.mg_of X G za_NUMBERS,
  b_LookupError := PySem.W.mg_none_of X G zb_LookupError,
  b_ValueError := PySem.W.mg_none_of X G zb_ValueError,
  b_bool := PySem.W.mg_none_of X G zb_bool,
  b_enumerate := PySem.W.mg_none_of X G zb_enumerate,
  b_int := PySem.W.mg_none_of X G zb_int,
  b_isinstance := PySem.W.mg_none_of X G zb_isinstance,
  b_len := PySem.W.mg_none_of X G zb_len,
  b_list := PySem.W.mg_none_of X G zb_list,
  b_min := PySem.W.mg_none_of X G zb_min,
  b_range := PySem.W.mg_none_of X G zb_range,
  b_repr := PySem.W.mg_none_of X G zb_repr,
  b_str := PySem.W.mg_none_of X G zb_str,
  b_tuple := PySem.W.mg_none_of X G zb_tuple,
  b_super := PySem.W.mg_none_of X G zb_super,
  c_FIRST := ⟨_, PySem.W.mg_of X G zc_FIRST⟩,
  g_is_integer := PySem.W.mg_of X G za_is_integer,
  k_is_integer := zk_is_integer,
  d_is_integer := ⟨_, fun_mk (st := s_is_integer) zl_is_integer zd_is_integer zk_is_integer, (fun_mk (st := s_is_integer) zl_is_integer zd_is_integer zk_is_integer).binds (ps := ["thing"]) fun _ _ _ _ _ _ us hl => match us, hl with | [_], _ => rfl⟩,
  g_row_of := PySem.W.mg_of X G za_row_of,
  k_row_of := zk_row_of,
  d_row_of := ⟨_, fun_mk (st := s_row_of) zl_row_of zd_row_of zk_row_of, (fun_mk (st := s_row_of) zl_row_of zd_row_of zk_row_of).binds (ps := ["name"]) fun _ _ _ _ _ _ us hl => match us, hl with | [_], _ => rfl⟩,
  g_is_opcode_name := PySem.W.mg_of X G za_is_opcode_name,
  k_is_opcode_name := zk_is_opcode_name,
  d_is_opcode_name := ⟨_, fun_mk (st := s_is_opcode_name) zl_is_opcode_name zd_is_opcode_name zk_is_opcode_name, (fun_mk (st := s_is_opcode_name) zl_is_opcode_name zd_is_opcode_name zk_is_opcode_name).binds (ps := ["thing"]) fun _ _ _ _ _ _ us hl => match us, hl with | [_], _ => rfl⟩,
  g_is_opcode_number := PySem.W.mg_of X G za_is_opcode_number,
  k_is_opcode_number := zk_is_opcode_number,
  d_is_opcode_number := ⟨_, fun_mk (st := s_is_opcode_number) zl_is_opcode_number zd_is_opcode_number zk_is_opcode_number, (fun_mk (st := s_is_opcode_number) zl_is_opcode_number zd_is_opcode_number zk_is_opcode_number).binds (ps := ["thing"]) fun _ _ _ _ _ _ us hl => match us, hl with | [_], _ => rfl⟩,
  g_opcode_names := PySem.W.mg_of X G za_opcode_names,
  k_opcode_names := zk_opcode_names,
  d_opcode_names := ⟨_, fun_mk (st := s_opcode_names) zl_opcode_names zd_opcode_names zk_opcode_names, (fun_mk (st := s_opcode_names) zl_opcode_names zd_opcode_names zk_opcode_names).binds (ps := []) fun _ _ _ _ _ _ us hl => match us, hl with | [], _ => rfl⟩,
  g_number_of := PySem.W.mg_of X G za_number_of,
  k_number_of := zk_number_of,
  d_number_of := ⟨_, fun_mk (st := s_number_of) zl_number_of zd_number_of zk_number_of, (fun_mk (st := s_number_of) zl_number_of zd_number_of zk_number_of).binds (ps := ["name"]) fun _ _ _ _ _ _ us hl => match us, hl with | [_], _ => rfl⟩,
  g_name_of := PySem.W.mg_of X G za_name_of,
  k_name_of := zk_name_of,
  d_name_of := ⟨_, fun_mk (st := s_name_of) zl_name_of zd_name_of zk_name_of, (fun_mk (st := s_name_of) zl_name_of zd_name_of zk_name_of).binds (ps := ["number"]) fun _ _ _ _ _ _ us hl => match us, hl with | [_], _ => rfl⟩,
  g_since := PySem.W.mg_of X G za_since,
  k_since := zk_since,
  d_since := ⟨_, fun_mk (st := s_since) zl_since zd_since zk_since, (fun_mk (st := s_since) zl_since zd_since zk_since).binds (ps := ["name"]) fun _ _ _ _ _ _ us hl => match us, hl with | [_], _ => rfl⟩,
  g__law_begin := PySem.W.mg_of X G za__law_begin,
  k__law_begin := zk__law_begin,
  d__law_begin := ⟨_, fun_mk (st := s__law_begin) zl__law_begin zd__law_begin zk__law_begin, (fun_mk (st := s__law_begin) zl__law_begin zd__law_begin zk__law_begin).binds (ps := ["script"]) fun _ _ _ _ _ _ us hl => match us, hl with | [_], _ => rfl⟩,
  g__law_mixed := PySem.W.mg_of X G za__law_mixed,
  k__law_mixed := zk__law_mixed,
  d__law_mixed := ⟨_, fun_mk (st := s__law_mixed) zl__law_mixed zd__law_mixed zk__law_mixed, (fun_mk (st := s__law_mixed) zl__law_mixed zd__law_mixed zk__law_mixed).binds (ps := ["cell", "k"]) fun _ _ _ _ _ _ us hl => match us, hl with | [_, _], _ => rfl⟩,
  g__law_next := PySem.W.mg_of X G za__law_next,
  k__law_next := zk__law_next,
  d__law_next := ⟨_, fun_mk (st := s__law_next) zl__law_next zd__law_next zk__law_next, (fun_mk (st := s__law_next) zl__law_next zd__law_next zk__law_next).binds (ps := ["draw", "bound"]) fun _ _ _ _ _ _ us hl => match us, hl with | [_, _], _ => rfl⟩,
  g__law_table := PySem.W.mg_of X G za__law_table,
  k__law_table := zk__law_table,
  d__law_table := ⟨_, fun_mk (st := s__law_table) zl__law_table zd__law_table zk__law_table, (fun_mk (st := s__law_table) zl__law_table zd__law_table zk__law_table).binds (ps := []) fun _ _ _ _ _ _ us hl => match us, hl with | [], _ => rfl⟩,
  g__law_missed := PySem.W.mg_of X G za__law_missed,
  k__law_missed := zk__law_missed,
  d__law_missed := ⟨_, fun_mk (st := s__law_missed) zl__law_missed zd__law_missed zk__law_missed, (fun_mk (st := s__law_missed) zl__law_missed zd__law_missed zk__law_missed).binds (ps := ["call"]) fun _ _ _ _ _ _ us hl => match us, hl with | [_], _ => rfl⟩,
  g__law_odd := PySem.W.mg_of X G za__law_odd,
  k__law_odd := zk__law_odd,
  d__law_odd := ⟨_, fun_mk (st := s__law_odd) zl__law_odd zd__law_odd zk__law_odd, (fun_mk (st := s__law_odd) zl__law_odd zd__law_odd zk__law_odd).binds (ps := ["draw", "table"]) fun _ _ _ _ _ _ us hl => match us, hl with | [_, _], _ => rfl⟩,
  g_law := PySem.W.mg_of X G za_law,
  k_law := zk_law,
  dc_law := ⟨_, _, _, _, _, _, _, _, zl_law, zd_law, .all fun us hl => match us, hl with | [_], _ => rfl⟩,
  g_JarError := PySem.W.mg_of X G za_JarError,
  x_JarError := zx_JarError,
  t_JarError := zt_JarError,
  h_JarError := zh_JarError,
  g_StateError := PySem.W.mg_of X G za_StateError,
  x_StateError := zx_StateError,
  t_StateError := zt_StateError,
  h_StateError := zh_StateError,
  g_MissingError := PySem.W.mg_of X G za_MissingError,
  x_MissingError := zx_MissingError,
  t_MissingError := zt_MissingError,
  h_MissingError := zh_MissingError,
  g_UnknownBrand := PySem.W.mg_of X G za_UnknownBrand,
  x_UnknownBrand := zx_UnknownBrand,
  t_UnknownBrand := zt_UnknownBrand,
  h_UnknownBrand := zh_UnknownBrand,
  n_UnknownBrand_given := zn_UnknownBrand_given,
  k_UnknownBrand := zk_UnknownBrand,
  e_UnknownBrand := ⟨famL, PySem.W.mg_of X G za_UnknownBrand, zi_UnknownBrand, zo_UnknownBrand, zh_UnknownBrand, zI_UnknownBrand, zf_UnknownBrand, zs_UnknownBrand, zB_UnknownBrand, zST_UnknownBrand, PySem.W.mg_none_of X G zb_super, zA_UnknownBrand, (by intro f hf; rcases List.mem_cons.mp hf with rfl | hf; exact zT_UnknownBrand_given; cases hf), ⟨_, _, _, zC_UnknownBrand⟩, ⟨_, _, _, _, _, zD_UnknownBrand, zE_UnknownBrand⟩, zM_UnknownBrand, Option.isSome_iff_exists.mp zN_UnknownBrand, zP_UnknownBrand⟩,
  i_UnknownBrand := ⟨⟨_, _, _, _, _, _, _, _, _, ⟨10, 17, 10, 21⟩, [⟨10, 23, 10, 28⟩], _, _, _, _, _, [("given", ⟨12, 8, 12, 12⟩, ⟨12, 8, 12, 18⟩, ⟨12, 21, 12, 26⟩, ⟨12, 8, 12, 26⟩)], zl_UnknownBrand, rfl, rfl, rfl⟩, zq_UnknownBrand, (by decide +kernel), by decide +kernel, ⟨(fun z => nomatch z), by decide⟩, (by rintro fd ⟨oc, od, osl, h⟩ u us hl; have q := h.symm.trans zl_UnknownBrand; cases q; exact match us, hl with | [_], _ => rfl)⟩,
  R_UnknownBrand := ⟨zN_UnknownBrand, zga_UnknownBrand, zgg_UnknownBrand, zx_UnknownBrand, zcc_UnknownBrand, zcg_UnknownBrand, zct_UnknownBrand, zmo_UnknownBrand, zh_UnknownBrand⟩,
  g_NoEntry := PySem.W.mg_of X G za_NoEntry,
  x_NoEntry := zx_NoEntry,
  t_NoEntry := zt_NoEntry,
  h_NoEntry := zh_NoEntry,
  n_NoEntry_key := zn_NoEntry_key,
  k_NoEntry := zk_NoEntry,
  e_NoEntry := ⟨famL, PySem.W.mg_of X G za_NoEntry, zi_NoEntry, zo_NoEntry, zh_NoEntry, zI_NoEntry, zf_NoEntry, zs_NoEntry, zB_NoEntry, zST_NoEntry, PySem.W.mg_none_of X G zb_super, zA_NoEntry, (by intro f hf; rcases List.mem_cons.mp hf with rfl | hf; exact zT_NoEntry_key; cases hf), ⟨_, _, _, zC_NoEntry⟩, ⟨_, _, _, _, _, zD_NoEntry, zE_NoEntry⟩, zM_NoEntry, Option.isSome_iff_exists.mp zN_NoEntry, zP_NoEntry⟩,
  i_NoEntry := ⟨⟨_, _, _, _, _, _, _, _, _, ⟨15, 17, 15, 21⟩, [⟨15, 23, 15, 26⟩], _, _, _, _, _, [("key", ⟨17, 8, 17, 12⟩, ⟨17, 8, 17, 16⟩, ⟨17, 19, 17, 22⟩, ⟨17, 8, 17, 22⟩)], zl_NoEntry, rfl, rfl, rfl⟩, zq_NoEntry, (by decide +kernel), by decide +kernel, ⟨(fun z => nomatch z), by decide⟩, (by rintro fd ⟨oc, od, osl, h⟩ u us hl; have q := h.symm.trans zl_NoEntry; cases q; exact match us, hl with | [_], _ => rfl)⟩,
  R_NoEntry := ⟨zN_NoEntry, zga_NoEntry, zgg_NoEntry, zx_NoEntry, zcc_NoEntry, zcg_NoEntry, zct_NoEntry, zmo_NoEntry, zh_NoEntry⟩,
  g_NoName := PySem.W.mg_of X G za_NoName,
  x_NoName := zx_NoName,
  t_NoName := zt_NoName,
  h_NoName := zh_NoName,
  n_NoName_given := zn_NoName_given,
  k_NoName := zk_NoName,
  e_NoName := ⟨famL, PySem.W.mg_of X G za_NoName, zi_NoName, zo_NoName, zh_NoName, zI_NoName, zf_NoName, zs_NoName, zB_NoName, zST_NoName, PySem.W.mg_none_of X G zb_super, zA_NoName, (by intro f hf; rcases List.mem_cons.mp hf with rfl | hf; exact zT_NoName_given; cases hf), ⟨_, _, _, zC_NoName⟩, ⟨_, _, _, _, _, zD_NoName, zE_NoName⟩, zM_NoName, Option.isSome_iff_exists.mp zN_NoName, zP_NoName⟩,
  i_NoName := ⟨⟨_, _, _, _, _, _, _, _, _, ⟨20, 17, 20, 21⟩, [⟨20, 23, 20, 28⟩], _, _, _, _, _, [("given", ⟨22, 8, 22, 12⟩, ⟨22, 8, 22, 18⟩, ⟨22, 21, 22, 26⟩, ⟨22, 8, 22, 26⟩)], zl_NoName, rfl, rfl, rfl⟩, zq_NoName, (by decide +kernel), by decide +kernel, ⟨(fun z => nomatch z), by decide⟩, (by rintro fd ⟨oc, od, osl, h⟩ u us hl; have q := h.symm.trans zl_NoName; cases q; exact match us, hl with | [_], _ => rfl)⟩,
  R_NoName := ⟨zN_NoName, zga_NoName, zgg_NoName, zx_NoName, zcc_NoName, zcg_NoName, zct_NoName, zmo_NoName, zh_NoName⟩,
  g_NothingToUndo := PySem.W.mg_of X G za_NothingToUndo,
  x_NothingToUndo := zx_NothingToUndo,
  t_NothingToUndo := zt_NothingToUndo,
  h_NothingToUndo := zh_NothingToUndo,
  n_NothingToUndo_count := zn_NothingToUndo_count,
  k_NothingToUndo := zk_NothingToUndo,
  e_NothingToUndo := ⟨famL, PySem.W.mg_of X G za_NothingToUndo, zi_NothingToUndo, zo_NothingToUndo, zh_NothingToUndo, zI_NothingToUndo, zf_NothingToUndo, zs_NothingToUndo, zB_NothingToUndo, zST_NothingToUndo, PySem.W.mg_none_of X G zb_super, zA_NothingToUndo, (by intro f hf; rcases List.mem_cons.mp hf with rfl | hf; exact zT_NothingToUndo_count; cases hf), ⟨_, _, _, zC_NothingToUndo⟩, ⟨_, _, _, _, _, zD_NothingToUndo, zE_NothingToUndo⟩, zM_NothingToUndo, Option.isSome_iff_exists.mp zN_NothingToUndo, zP_NothingToUndo⟩,
  i_NothingToUndo := ⟨⟨_, _, _, _, _, _, _, _, _, ⟨25, 17, 25, 21⟩, [⟨25, 23, 25, 28⟩], _, _, _, _, _, [("count", ⟨27, 8, 27, 12⟩, ⟨27, 8, 27, 18⟩, ⟨27, 21, 27, 26⟩, ⟨27, 8, 27, 26⟩)], zl_NothingToUndo, rfl, rfl, rfl⟩, zq_NothingToUndo, (by decide +kernel), by decide +kernel, ⟨(fun z => nomatch z), by decide⟩, (by rintro fd ⟨oc, od, osl, h⟩ u us hl; have q := h.symm.trans zl_NothingToUndo; cases q; exact match us, hl with | [_], _ => rfl)⟩,
  R_NothingToUndo := ⟨zN_NothingToUndo, zga_NothingToUndo, zgg_NothingToUndo, zx_NothingToUndo, zcc_NothingToUndo, zcg_NothingToUndo, zct_NothingToUndo, zmo_NothingToUndo, zh_NothingToUndo⟩,
  u_NoName_JarError := zu_NoName_JarError,
  v_NoName_JarError := zv_NoName_JarError,
  u_NoName_StateError := zu_NoName_StateError,
  v_NoName_StateError := zv_NoName_StateError,
  u_NoName_MissingError := zu_NoName_MissingError,
  v_NoName_MissingError := zv_NoName_MissingError,
  u_NoName_NoName := zu_NoName_NoName,
  v_NoName_NoName := zv_NoName_NoName,
  u_NoName_NoEntry := zu_NoName_NoEntry,
  v_NoName_NoEntry := zv_NoName_NoEntry,
  u_NoName_NothingToUndo := zu_NoName_NothingToUndo,
  v_NoName_NothingToUndo := zv_NoName_NothingToUndo,
  u_NoName_UnknownBrand := zu_NoName_UnknownBrand,
  v_NoName_UnknownBrand := zv_NoName_UnknownBrand,
  u_NoName_LookupError := zu_NoName_LookupError,
  u_NoName_ValueError := zu_NoName_ValueError,
  rows := zz_rows,
  nums := zz_nums }
end BJL
open PySem PySem.W PyProof.Rows
local macro_rules | `(tactic| walk_at "fact") => `(tactic| first | k_is | ks_is | (first | rfl | kernel_rfl | decide +kernel))
set_option maxHeartbeats 0 in
theorem PySem.Challenge.cw_brinejar_k08_opcodes_by_table_holds : PySem.Challenge.rw_brinejar_k08_opcodes_by_table.Holds := by
  w_on; o_law; k_head; (case hw => w_witness2)
  k_fill
  refine BJ.walkGT (l := PySem.Challenge.rw_brinejar_k08_opcodes_by_table) (n := 63) (k := 30) rfl (by decide) rfl ⟨rfl, by decide, by decide⟩ (fun w h Y => PySem.W.km_in_of Y) ?F
  case F =>
    intro w mg fa h Y KX G hmg
    refine BJL.law_end ?adr ?txt ?hpar KX hmg ?hcd ?hno (PySem.W.km_tabs_of Y _ ?hmem)
    (case txt =>
    refine' BJL.all_mk KX G ?za_ROWS ?za_NUMBERS ?zb_LookupError ?zb_ValueError ?zb_bool ?zb_enumerate ?zb_int ?zb_isinstance ?zb_len ?zb_list ?zb_min ?zb_range ?zb_repr ?zb_str ?zb_tuple ?zb_super ?zc_FIRST ?za_is_integer ?zl_is_integer ?zd_is_integer ?zk_is_integer ?za_row_of ?zl_row_of ?zd_row_of ?zk_row_of ?za_is_opcode_name ?zl_is_opcode_name ?zd_is_opcode_name ?zk_is_opcode_name ?za_is_opcode_number ?zl_is_opcode_number ?zd_is_opcode_number ?zk_is_opcode_number ?za_opcode_names ?zl_opcode_names ?zd_opcode_names ?zk_opcode_names ?za_number_of ?zl_number_of ?zd_number_of ?zk_number_of ?za_name_of ?zl_name_of ?zd_name_of ?zk_name_of ?za_since ?zl_since ?zd_since ?zk_since ?za__law_begin ?zl__law_begin ?zd__law_begin ?zk__law_begin ?za__law_mixed ?zl__law_mixed ?zd__law_mixed ?zk__law_mixed ?za__law_next ?zl__law_next ?zd__law_next ?zk__law_next ?za__law_table ?zl__law_table ?zd__law_table ?zk__law_table ?za__law_missed ?zl__law_missed ?zd__law_missed ?zk__law_missed ?za__law_odd ?zl__law_odd ?zd__law_odd ?zk__law_odd ?za_law ?zl_law ?zd_law ?zk_law ?zt_lc ?zt_tab ?za_JarError ?zt_JarError ?zx_JarError ?zh_JarError ?za_StateError ?zt_StateError ?zx_StateError ?zh_StateError ?za_MissingError ?zt_MissingError ?zx_MissingError ?zh_MissingError ?za_UnknownBrand ?zt_UnknownBrand ?zx_UnknownBrand ?zh_UnknownBrand ?zi_UnknownBrand ?zo_UnknownBrand ?zI_UnknownBrand ?zf_UnknownBrand ?zl_UnknownBrand ?zq_UnknownBrand ?zs_UnknownBrand ?zB_UnknownBrand ?zST_UnknownBrand ?zA_UnknownBrand ?zT_UnknownBrand_given ?zn_UnknownBrand_given ?zC_UnknownBrand ?zD_UnknownBrand ?zE_UnknownBrand ?zM_UnknownBrand ?zN_UnknownBrand ?zP_UnknownBrand ?zk_UnknownBrand ?zga_UnknownBrand ?zgg_UnknownBrand ?zcc_UnknownBrand ?zcg_UnknownBrand ?zct_UnknownBrand ?zmo_UnknownBrand ?za_NoEntry ?zt_NoEntry ?zx_NoEntry ?zh_NoEntry ?zi_NoEntry ?zo_NoEntry ?zI_NoEntry ?zf_NoEntry ?zl_NoEntry ?zq_NoEntry ?zs_NoEntry ?zB_NoEntry ?zST_NoEntry ?zA_NoEntry ?zT_NoEntry_key ?zn_NoEntry_key ?zC_NoEntry ?zD_NoEntry ?zE_NoEntry ?zM_NoEntry ?zN_NoEntry ?zP_NoEntry ?zk_NoEntry ?zga_NoEntry ?zgg_NoEntry ?zcc_NoEntry ?zcg_NoEntry ?zct_NoEntry ?zmo_NoEntry ?za_NoName ?zt_NoName ?zx_NoName ?zh_NoName ?zi_NoName ?zo_NoName ?zI_NoName ?zf_NoName ?zl_NoName ?zq_NoName ?zs_NoName ?zB_NoName ?zST_NoName ?zA_NoName ?zT_NoName_given ?zn_NoName_given ?zC_NoName ?zD_NoName ?zE_NoName ?zM_NoName ?zN_NoName ?zP_NoName ?zk_NoName ?zga_NoName ?zgg_NoName ?zcc_NoName ?zcg_NoName ?zct_NoName ?zmo_NoName ?za_NothingToUndo ?zt_NothingToUndo ?zx_NothingToUndo ?zh_NothingToUndo ?zi_NothingToUndo ?zo_NothingToUndo ?zI_NothingToUndo ?zf_NothingToUndo ?zl_NothingToUndo ?zq_NothingToUndo ?zs_NothingToUndo ?zB_NothingToUndo ?zST_NothingToUndo ?zA_NothingToUndo ?zT_NothingToUndo_count ?zn_NothingToUndo_count ?zC_NothingToUndo ?zD_NothingToUndo ?zE_NothingToUndo ?zM_NothingToUndo ?zN_NothingToUndo ?zP_NothingToUndo ?zk_NothingToUndo ?zga_NothingToUndo ?zgg_NothingToUndo ?zcc_NothingToUndo ?zcg_NothingToUndo ?zct_NothingToUndo ?zmo_NothingToUndo ?zu_NoName_JarError ?zv_NoName_JarError ?zu_NoName_StateError ?zv_NoName_StateError ?zu_NoName_MissingError ?zv_NoName_MissingError ?zu_NoName_NoName ?zv_NoName_NoName ?zu_NoName_NoEntry ?zv_NoName_NoEntry ?zu_NoName_NothingToUndo ?zv_NoName_NothingToUndo ?zu_NoName_UnknownBrand ?zv_NoName_UnknownBrand ?zu_NoName_LookupError ?zu_NoName_ValueError ?zz_rows ?zz_nums
    (case za_ROWS => walk_at "fact")
    (case za_NUMBERS => walk_at "fact")
    (case zb_LookupError => walk_at "fact")
    (case zb_ValueError => walk_at "fact")
    (case zb_bool => walk_at "fact")
    (case zb_enumerate => walk_at "fact")
    (case zb_int => walk_at "fact")
    (case zb_isinstance => walk_at "fact")
    (case zb_len => walk_at "fact")
    (case zb_list => walk_at "fact")
    (case zb_min => walk_at "fact")
    (case zb_range => walk_at "fact")
    (case zb_repr => walk_at "fact")
    (case zb_str => walk_at "fact")
    (case zb_tuple => walk_at "fact")
    (case zb_super => walk_at "fact")
    (case zc_FIRST => walk_at "fact")
    (case za_is_integer => walk_at "fact")
    (case zl_is_integer => walk_at "fact")
    (case zd_is_integer => walk_at "fact")
    (case zk_is_integer => walk_at "fact")
    (case za_row_of => walk_at "fact")
    (case zl_row_of => walk_at "fact")
    (case zd_row_of => walk_at "fact")
    (case zk_row_of => walk_at "fact")
    (case za_is_opcode_name => walk_at "fact")
    (case zl_is_opcode_name => walk_at "fact")
    (case zd_is_opcode_name => walk_at "fact")
    (case zk_is_opcode_name => walk_at "fact")
    (case za_is_opcode_number => walk_at "fact")
    (case zl_is_opcode_number => walk_at "fact")
    (case zd_is_opcode_number => walk_at "fact")
    (case zk_is_opcode_number => walk_at "fact")
    (case za_opcode_names => walk_at "fact")
    (case zl_opcode_names => walk_at "fact")
    (case zd_opcode_names => walk_at "fact")
    (case zk_opcode_names => walk_at "fact")
    (case za_number_of => walk_at "fact")
    (case zl_number_of => walk_at "fact")
    (case zd_number_of => walk_at "fact")
    (case zk_number_of => walk_at "fact")
    (case za_name_of => walk_at "fact")
    (case zl_name_of => walk_at "fact")
    (case zd_name_of => walk_at "fact")
    (case zk_name_of => walk_at "fact")
    (case za_since => walk_at "fact")
    (case zl_since => walk_at "fact")
    (case zd_since => walk_at "fact")
    (case zk_since => walk_at "fact")
    (case za__law_begin => walk_at "fact")
    (case zl__law_begin => walk_at "fact")
    (case zd__law_begin => walk_at "fact")
    (case zk__law_begin => walk_at "fact")
    (case za__law_mixed => walk_at "fact")
    (case zl__law_mixed => walk_at "fact")
    (case zd__law_mixed => walk_at "fact")
    (case zk__law_mixed => walk_at "fact")
    (case za__law_next => walk_at "fact")
    (case zl__law_next => walk_at "fact")
    (case zd__law_next => walk_at "fact")
    (case zk__law_next => walk_at "fact")
    (case za__law_table => walk_at "fact")
    (case zl__law_table => walk_at "fact")
    (case zd__law_table => walk_at "fact")
    (case zk__law_table => walk_at "fact")
    (case za__law_missed => walk_at "fact")
    (case zl__law_missed => walk_at "fact")
    (case zd__law_missed => walk_at "fact")
    (case zk__law_missed => walk_at "fact")
    (case za__law_odd => walk_at "fact")
    (case zl__law_odd => walk_at "fact")
    (case zd__law_odd => walk_at "fact")
    (case zk__law_odd => walk_at "fact")
    (case za_law => walk_at "fact")
    (case zl_law => walk_at "fact")
    (case zd_law => walk_at "fact")
    (case zk_law => walk_at "fact")
    (case zt_lc => walk_at "fact")
    (case zt_tab => walk_at "fact")
    (case za_JarError => walk_at "fact")
    (case zt_JarError => walk_at "fact")
    (case zx_JarError => walk_at "fact")
    (case zh_JarError => walk_at "fact")
    (case za_StateError => walk_at "fact")
    (case zt_StateError => walk_at "fact")
    (case zx_StateError => walk_at "fact")
    (case zh_StateError => walk_at "fact")
    (case za_MissingError => walk_at "fact")
    (case zt_MissingError => walk_at "fact")
    (case zx_MissingError => walk_at "fact")
    (case zh_MissingError => walk_at "fact")
    (case za_UnknownBrand => walk_at "fact")
    (case zt_UnknownBrand => walk_at "fact")
    (case zx_UnknownBrand => walk_at "fact")
    (case zh_UnknownBrand => walk_at "fact")
    (case zi_UnknownBrand => walk_at "fact")
    (case zo_UnknownBrand => walk_at "fact")
    (case zI_UnknownBrand => walk_at "fact")
    (case zf_UnknownBrand => walk_at "fact")
    (case zl_UnknownBrand => walk_at "fact")
    (case zq_UnknownBrand => walk_at "fact")
    (case zs_UnknownBrand => walk_at "fact")
    (case zB_UnknownBrand => walk_at "fact")
    (case zST_UnknownBrand => walk_at "fact")
    (case zA_UnknownBrand => walk_at "fact")
    (case zT_UnknownBrand_given => walk_at "fact")
    (case zn_UnknownBrand_given => walk_at "fact")
    (case zC_UnknownBrand => walk_at "fact")
    (case zD_UnknownBrand => walk_at "fact")
    (case zE_UnknownBrand => walk_at "fact")
    (case zM_UnknownBrand => walk_at "fact")
    (case zN_UnknownBrand => walk_at "fact")
    (case zP_UnknownBrand => walk_at "fact")
    (case zk_UnknownBrand => walk_at "fact")
    (case zga_UnknownBrand => walk_at "fact")
    (case zgg_UnknownBrand => walk_at "fact")
    (case zcc_UnknownBrand => walk_at "fact")
    (case zcg_UnknownBrand => walk_at "fact")
    (case zct_UnknownBrand => walk_at "fact")
    (case zmo_UnknownBrand => walk_at "fact")
    (case za_NoEntry => walk_at "fact")
    (case zt_NoEntry => walk_at "fact")
    (case zx_NoEntry => walk_at "fact")
    (case zh_NoEntry => walk_at "fact")
    (case zi_NoEntry => walk_at "fact")
    (case zo_NoEntry => walk_at "fact")
    (case zI_NoEntry => walk_at "fact")
    (case zf_NoEntry => walk_at "fact")
    (case zl_NoEntry => walk_at "fact")
    (case zq_NoEntry => walk_at "fact")
    (case zs_NoEntry => walk_at "fact")
    (case zB_NoEntry => walk_at "fact")
    (case zST_NoEntry => walk_at "fact")
    (case zA_NoEntry => walk_at "fact")
    (case zT_NoEntry_key => walk_at "fact")
    (case zn_NoEntry_key => walk_at "fact")
    (case zC_NoEntry => walk_at "fact")
    (case zD_NoEntry => walk_at "fact")
    (case zE_NoEntry => walk_at "fact")
    (case zM_NoEntry => walk_at "fact")
    (case zN_NoEntry => walk_at "fact")
    (case zP_NoEntry => walk_at "fact")
    (case zk_NoEntry => walk_at "fact")
    (case zga_NoEntry => walk_at "fact")
    (case zgg_NoEntry => walk_at "fact")
    (case zcc_NoEntry => walk_at "fact")
    (case zcg_NoEntry => walk_at "fact")
    (case zct_NoEntry => walk_at "fact")
    (case zmo_NoEntry => walk_at "fact")
    (case za_NoName => walk_at "fact")
    (case zt_NoName => walk_at "fact")
    (case zx_NoName => walk_at "fact")
    (case zh_NoName => walk_at "fact")
    (case zi_NoName => walk_at "fact")
    (case zo_NoName => walk_at "fact")
    (case zI_NoName => walk_at "fact")
    (case zf_NoName => walk_at "fact")
    (case zl_NoName => walk_at "fact")
    (case zq_NoName => walk_at "fact")
    (case zs_NoName => walk_at "fact")
    (case zB_NoName => walk_at "fact")
    (case zST_NoName => walk_at "fact")
    (case zA_NoName => walk_at "fact")
    (case zT_NoName_given => walk_at "fact")
    (case zn_NoName_given => walk_at "fact")
    (case zC_NoName => walk_at "fact")
    (case zD_NoName => walk_at "fact")
    (case zE_NoName => walk_at "fact")
    (case zM_NoName => walk_at "fact")
    (case zN_NoName => walk_at "fact")
    (case zP_NoName => walk_at "fact")
    (case zk_NoName => walk_at "fact")
    (case zga_NoName => walk_at "fact")
    (case zgg_NoName => walk_at "fact")
    (case zcc_NoName => walk_at "fact")
    (case zcg_NoName => walk_at "fact")
    (case zct_NoName => walk_at "fact")
    (case zmo_NoName => walk_at "fact")
    (case za_NothingToUndo => walk_at "fact")
    (case zt_NothingToUndo => walk_at "fact")
    (case zx_NothingToUndo => walk_at "fact")
    (case zh_NothingToUndo => walk_at "fact")
    (case zi_NothingToUndo => walk_at "fact")
    (case zo_NothingToUndo => walk_at "fact")
    (case zI_NothingToUndo => walk_at "fact")
    (case zf_NothingToUndo => walk_at "fact")
    (case zl_NothingToUndo => walk_at "fact")
    (case zq_NothingToUndo => walk_at "fact")
    (case zs_NothingToUndo => walk_at "fact")
    (case zB_NothingToUndo => walk_at "fact")
    (case zST_NothingToUndo => walk_at "fact")
    (case zA_NothingToUndo => walk_at "fact")
    (case zT_NothingToUndo_count => walk_at "fact")
    (case zn_NothingToUndo_count => walk_at "fact")
    (case zC_NothingToUndo => walk_at "fact")
    (case zD_NothingToUndo => walk_at "fact")
    (case zE_NothingToUndo => walk_at "fact")
    (case zM_NothingToUndo => walk_at "fact")
    (case zN_NothingToUndo => walk_at "fact")
    (case zP_NothingToUndo => walk_at "fact")
    (case zk_NothingToUndo => walk_at "fact")
    (case zga_NothingToUndo => walk_at "fact")
    (case zgg_NothingToUndo => walk_at "fact")
    (case zcc_NothingToUndo => walk_at "fact")
    (case zcg_NothingToUndo => walk_at "fact")
    (case zct_NothingToUndo => walk_at "fact")
    (case zmo_NothingToUndo => walk_at "fact")
    (case zu_NoName_JarError => walk_at "fact")
    (case zv_NoName_JarError => walk_at "fact")
    (case zu_NoName_StateError => walk_at "fact")
    (case zv_NoName_StateError => walk_at "fact")
    (case zu_NoName_MissingError => walk_at "fact")
    (case zv_NoName_MissingError => walk_at "fact")
    (case zu_NoName_NoName => walk_at "fact")
    (case zv_NoName_NoName => walk_at "fact")
    (case zu_NoName_NoEntry => walk_at "fact")
    (case zv_NoName_NoEntry => walk_at "fact")
    (case zu_NoName_NothingToUndo => walk_at "fact")
    (case zv_NoName_NothingToUndo => walk_at "fact")
    (case zu_NoName_UnknownBrand => walk_at "fact")
    (case zv_NoName_UnknownBrand => walk_at "fact")
    (case zu_NoName_LookupError => walk_at "fact")
    (case zu_NoName_ValueError => walk_at "fact")
    (case zz_rows => first | rfl | kernel_rfl | decide +kernel)
    (case zz_nums => exact ⟨⟨_, _, rfl, ⟨⟨_, _, rfl, rfl⟩, ⟨⟨_, _, rfl, rfl⟩, ⟨⟨_, _, rfl, rfl⟩, ⟨⟨_, _, rfl, rfl⟩, ⟨⟨_, _, rfl, rfl⟩, ⟨⟨_, _, rfl, rfl⟩, ⟨⟨_, _, rfl, rfl⟩, ⟨⟨_, _, rfl, rfl⟩, ⟨⟨_, _, rfl, rfl⟩, ⟨⟨_, _, rfl, rfl⟩, ⟨⟨_, _, rfl, rfl⟩, ⟨⟨_, _, rfl, rfl⟩, ⟨⟨_, _, rfl, rfl⟩, ⟨⟨_, _, rfl, rfl⟩, ⟨⟨_, _, rfl, rfl⟩, ⟨⟨_, _, rfl, rfl⟩, ⟨⟨_, _, rfl, rfl⟩, ⟨⟨_, _, rfl, rfl⟩, ⟨⟨_, _, rfl, rfl⟩, ⟨⟨_, _, rfl, rfl⟩, ⟨⟨_, _, rfl, rfl⟩, ⟨⟨_, _, rfl, rfl⟩, ⟨⟨_, _, rfl, rfl⟩, ⟨⟨_, _, rfl, rfl⟩, ⟨⟨_, _, rfl, rfl⟩, ⟨⟨_, _, rfl, rfl⟩, ⟨⟨_, _, rfl, rfl⟩, ⟨⟨_, _, rfl, rfl⟩, ⟨⟨_, _, rfl, rfl⟩, ⟨⟨_, _, rfl, rfl⟩, ⟨⟨_, _, rfl, rfl⟩, ⟨⟨_, _, rfl, rfl⟩, ⟨⟨_, _, rfl, rfl⟩, ⟨⟨_, _, rfl, rfl⟩, ⟨⟨_, _, rfl, rfl⟩, ⟨⟨_, _, rfl, rfl⟩, ⟨⟨_, _, rfl, rfl⟩, ⟨⟨_, _, rfl, rfl⟩, ⟨⟨_, _, rfl, rfl⟩, ⟨⟨_, _, rfl, rfl⟩, ⟨⟨_, _, rfl, rfl⟩, ⟨⟨_, _, rfl, rfl⟩, ⟨⟨_, _, rfl, rfl⟩, trivial⟩⟩⟩⟩⟩⟩⟩⟩⟩⟩⟩⟩⟩⟩⟩⟩⟩⟩⟩⟩⟩⟩⟩⟩⟩⟩⟩⟩⟩⟩⟩⟩⟩⟩⟩⟩⟩⟩⟩⟩⟩⟩⟩, rfl, rfl⟩, by decide⟩))
    · rfl
    · first | rfl | kernel_rfl | decide +kernel
    · first | rfl | kernel_rfl | decide +kernel
    · exact List.Mem.head _

