import PyProof.Rows.All
import Wide.All
import OpenK.AllK
import Wide.FinOn
import HandS.ForMost
import HandS.Wide
import HandS.Zip
import HandS.TupAny
import HandS.IsInst
import HandS.Style
import HandS.Defaults
import HandS.EndTab
import HandS.Head0
import HandS.Head1
import HandS.Head2
import HandS.HeadHook1
import HandS.HeadHook2
import HandS.HeadHook3
import HandS.NoneIn
import OpenK.KMore
import KE.GoesMore
import KE.GoesEnumKw
import PyProof.Rows.NestShow
import PyProof.ReprLen
import HandS.Conv
import HandS.TupMul
import HandS.Deep
import HandS.More
import HandS.MakeKwOnly
import KE.DataMinKey
import KE.KMinKey
import HandS.SortKw
import PyProof.SeqI3
import KE.DatumOrd
import KE.KDictZip
import KE.KUnpackStar
import HandS.DictComp
import HandS.SortInts
import HandS.Set
import HandS.SetFor
import HandS.DictTup
import KE.KSortTupG
import HandS.Nested
import KE.KNestM
import HandS.ExcInit
import HandS.ExcField
import HandS.TryOnly
import HandS.TryMany
import KE.KExcInit
import KE.KExcIs
import PyProof.ExcBaseAll.RuntimeError
import PyProof.ExcBaseAll.IndexError
import PyProof.ExcBaseAll.OverflowError
import PyProof.ExcBaseAll.ValueError
import PyProof.ExcBaseAll.LookupError
import HandS.ExcValue
import KE.KTryMore
import HandS.ExcOwn
import HandS.ExcIs
import KE.KExcLine
import HandS.SetBool
import HandS.SetKeys
import KE.KEqDict
import PyProof.InstNe
import KE.SortData
import HandS.ListItems
import HandS.Flow
import PyProof.DictCopy
import PyProof.DictUpdate
import HandS.Text
import HandS.TupLen
import PySem.Challenge.RW_firstfigures_k35_papers_that_a_lag_is_en
set_option Elab.async false
set_option linter.all false
set_option maxRecDepth 100000
set_option maxHeartbeats 4000000
/-! Promises of defs where nothing is shown (repr) further up the stack. -/
namespace DG
open PySem PySem.Spec PyProof.Rows L2
theorem _root_.El54 {A B C D E : Sort _} {p q r s : A → B → C → D → E → Prop} {G : Prop} (h : ∃ a b c d e, p a b c d e ∧ q a b c d e ∧ r a b c d e ∧ s a b c d e) (f : ∀ a b c d e, p a b c d e → q a b c d e → r a b c d e → s a b c d e → G) : G := by
  obtain ⟨a, b, c, d, e, h1, h2, h3, h4⟩ := h
  exact f a b c d e h1 h2 h3 h4
theorem _root_.El55 {A B C D E : Sort _} {p q r s t : A → B → C → D → E → Prop} {G : Prop} (h : ∃ a b c d e, p a b c d e ∧ q a b c d e ∧ r a b c d e ∧ s a b c d e ∧ t a b c d e) (f : ∀ a b c d e, p a b c d e → q a b c d e → r a b c d e → s a b c d e → t a b c d e → G) : G := by
  obtain ⟨a, b, c, d, e, h1, h2, h3, h4, h5⟩ := h
  exact f a b c d e h1 h2 h3 h4 h5
theorem _root_.Vs1 {α : Type _} {β γ : Sort _} {sp C : List α → β → γ → Prop} (len : ∀ ds S P, sp ds S P → ds.length = 1) (vc : ∀ x0 S P, sp [x0] S P → C [x0] S P) : ∀ ds S P, sp ds S P → C ds S P := fun ds S P h => by
  have l := len ds S P h
  match ds, l, h with
  | [x0], _, h => exact vc x0 S P h
theorem _root_.Vs2 {α : Type _} {β γ : Sort _} {sp C : List α → β → γ → Prop} (len : ∀ ds S P, sp ds S P → ds.length = 2) (vc : ∀ x0 x1 S P, sp [x0, x1] S P → C [x0, x1] S P) : ∀ ds S P, sp ds S P → C ds S P := fun ds S P h => by
  have l := len ds S P h
  match ds, l, h with
  | [x0, x1], _, h => exact vc x0 x1 S P h
theorem _root_.Vs3 {α : Type _} {β γ : Sort _} {sp C : List α → β → γ → Prop} (len : ∀ ds S P, sp ds S P → ds.length = 3) (vc : ∀ x0 x1 x2 S P, sp [x0, x1, x2] S P → C [x0, x1, x2] S P) : ∀ ds S P, sp ds S P → C ds S P := fun ds S P h => by
  have l := len ds S P h
  match ds, l, h with
  | [x0, x1, x2], _, h => exact vc x0 x1 x2 S P h
theorem _root_.Vs4 {α : Type _} {β γ : Sort _} {sp C : List α → β → γ → Prop} (len : ∀ ds S P, sp ds S P → ds.length = 4) (vc : ∀ x0 x1 x2 x3 S P, sp [x0, x1, x2, x3] S P → C [x0, x1, x2, x3] S P) : ∀ ds S P, sp ds S P → C ds S P := fun ds S P h => by
  have l := len ds S P h
  match ds, l, h with
  | [x0, x1, x2, x3], _, h => exact vc x0 x1 x2 x3 S P h
theorem _root_.Vs5 {α : Type _} {β γ : Sort _} {sp C : List α → β → γ → Prop} (len : ∀ ds S P, sp ds S P → ds.length = 5) (vc : ∀ x0 x1 x2 x3 x4 S P, sp [x0, x1, x2, x3, x4] S P → C [x0, x1, x2, x3, x4] S P) : ∀ ds S P, sp ds S P → C ds S P := fun ds S P h => by
  have l := len ds S P h
  match ds, l, h with
  | [x0, x1, x2, x3, x4], _, h => exact vc x0 x1 x2 x3 x4 S P h
theorem _root_.Vs6 {α : Type _} {β γ : Sort _} {sp C : List α → β → γ → Prop} (len : ∀ ds S P, sp ds S P → ds.length = 6) (vc : ∀ x0 x1 x2 x3 x4 x5 S P, sp [x0, x1, x2, x3, x4, x5] S P → C [x0, x1, x2, x3, x4, x5] S P) : ∀ ds S P, sp ds S P → C ds S P := fun ds S P h => by
  have l := len ds S P h
  match ds, l, h with
  | [x0, x1, x2, x3, x4, x5], _, h => exact vc x0 x1 x2 x3 x4 x5 S P h
theorem _root_.Vs7 {α : Type _} {β γ : Sort _} {sp C : List α → β → γ → Prop} (len : ∀ ds S P, sp ds S P → ds.length = 7) (vc : ∀ x0 x1 x2 x3 x4 x5 x6 S P, sp [x0, x1, x2, x3, x4, x5, x6] S P → C [x0, x1, x2, x3, x4, x5, x6] S P) : ∀ ds S P, sp ds S P → C ds S P := fun ds S P h => by
  have l := len ds S P h
  match ds, l, h with
  | [x0, x1, x2, x3, x4, x5, x6], _, h => exact vc x0 x1 x2 x3 x4 x5 x6 S P h
theorem _root_.Vs8 {α : Type _} {β γ : Sort _} {sp C : List α → β → γ → Prop} (len : ∀ ds S P, sp ds S P → ds.length = 8) (vc : ∀ x0 x1 x2 x3 x4 x5 x6 x7 S P, sp [x0, x1, x2, x3, x4, x5, x6, x7] S P → C [x0, x1, x2, x3, x4, x5, x6, x7] S P) : ∀ ds S P, sp ds S P → C ds S P := fun ds S P h => by
  have l := len ds S P h
  match ds, l, h with
  | [x0, x1, x2, x3, x4, x5, x6, x7], _, h => exact vc x0 x1 x2 x3 x4 x5 x6 x7 S P h
theorem _root_.Vs9 {α : Type _} {β γ : Sort _} {sp C : List α → β → γ → Prop} (len : ∀ ds S P, sp ds S P → ds.length = 9) (vc : ∀ x0 x1 x2 x3 x4 x5 x6 x7 x8 S P, sp [x0, x1, x2, x3, x4, x5, x6, x7, x8] S P → C [x0, x1, x2, x3, x4, x5, x6, x7, x8] S P) : ∀ ds S P, sp ds S P → C ds S P := fun ds S P h => by
  have l := len ds S P h
  match ds, l, h with
  | [x0, x1, x2, x3, x4, x5, x6, x7, x8], _, h => exact vc x0 x1 x2 x3 x4 x5 x6 x7 x8 S P h
theorem _root_.Vs10 {α : Type _} {β γ : Sort _} {sp C : List α → β → γ → Prop} (len : ∀ ds S P, sp ds S P → ds.length = 10) (vc : ∀ x0 x1 x2 x3 x4 x5 x6 x7 x8 x9 S P, sp [x0, x1, x2, x3, x4, x5, x6, x7, x8, x9] S P → C [x0, x1, x2, x3, x4, x5, x6, x7, x8, x9] S P) : ∀ ds S P, sp ds S P → C ds S P := fun ds S P h => by
  have l := len ds S P h
  match ds, l, h with
  | [x0, x1, x2, x3, x4, x5, x6, x7, x8, x9], _, h => exact vc x0 x1 x2 x3 x4 x5 x6 x7 x8 x9 S P h
theorem _root_.Vs11 {α : Type _} {β γ : Sort _} {sp C : List α → β → γ → Prop} (len : ∀ ds S P, sp ds S P → ds.length = 11) (vc : ∀ x0 x1 x2 x3 x4 x5 x6 x7 x8 x9 x10 S P, sp [x0, x1, x2, x3, x4, x5, x6, x7, x8, x9, x10] S P → C [x0, x1, x2, x3, x4, x5, x6, x7, x8, x9, x10] S P) : ∀ ds S P, sp ds S P → C ds S P := fun ds S P h => by
  have l := len ds S P h
  match ds, l, h with
  | [x0, x1, x2, x3, x4, x5, x6, x7, x8, x9, x10], _, h => exact vc x0 x1 x2 x3 x4 x5 x6 x7 x8 x9 x10 S P h
/-- room, and no repr further up -/
structure RoomG (k : Nat) (A : Around) : Prop where
  r : Room k A
  g : A.guards = some []
theorem RoomG.mono {j k : Nat} {A : Around} (h : RoomG k A) (l : j ≤ k) : RoomG j A := ⟨h.r.mono l, h.g⟩
theorem RoomG.deeper {k : Nat} {A : Around} (h : RoomG (k + 1) A) (env : Env) : RoomG k (A.deeper env) := ⟨h.r.deeper env, h.g⟩
structure FnG (P : Program) (w : World) (K : PySem.W.Frag) (mg : Str → Option Value) (base : Heap) (CX : CXT) (k : Nat) (f : Addr) (fd : FuncData) (ps : List Str) (sp : Sp) : Prop where
  len : ∀ vs H Q E, sp vs H Q E → vs.length = ps.length
  run : ∀ (A : Around) (outer : List Env) (s : Shared) (H : Hp) (args : Args) (us : List Value) (vs : List V) (Q : VK) (E : XK), RoomG k A → Env0 P w K mg base A outer s H → BindsTo s fd args (ps.zip us) → Vals vs us → sp vs H Q E →
    codeAny (model P w) A (.call (.ref f) args) (CR CX outer P w H s Q E) s
theorem FnG.imp {P : Program} {w : World} {K : PySem.W.Frag} {mg : Str → Option Value} {base : Heap} {CX : CXT} {k : Nat} {f : Addr} {fd : FuncData} {ps : List Str} {sp sp' : Sp} (F : FnG P w K mg base CX k f fd ps sp)
    (h : ∀ vs H Q E, sp' vs H Q E → sp vs H Q E) : FnG P w K mg base CX k f fd ps sp' :=
  ⟨fun vs H Q E q => F.len vs H Q E (h _ _ _ _ q), fun A outer s H args us vs Q E hr he hb hv hs => F.run A outer s H args us vs Q E hr he hb hv (h _ _ _ _ hs)⟩
section
variable {X : Cx} {CX : CXT} {k n : Nat} {f C : Addr} {fd : FuncData} {ps ks : List Str} {sp : Sp} {dvs : List V} {ds : List Value} {E : XK} {x m : Str} {p pos apos : Pos} {e o : Expr} {es : List Expr} {ta : TE} {t tk : TA} {kws : List Keyword} {g : List Value → List Value → List Value} {gV : List V → List V → List V}
theorem run_fn {pins : List (Addr × Obj)} {σ : L2.St} {H : Hp} {s : Shared} {Q : VK} {us : List Value} {vs : List V} (F : FnG X.prog X.w X.K X.mg X.base CX k f fd ps sp) (hr : RoomG k X.A) (hb : Binds X.K fd ps ds) (hd : Vals dvs ds) (hx : Passes CX X E)
    (I : Inv X pins σ H s) (r : Vals vs us) (h : sp (vs ++ dvs) H Q E) : wpAny (model X.prog X.w) X.A (call (.ref f) us) (EP X pins σ Q) X.xe s := by
  have r2 : Vals (vs ++ dvs) (us ++ ds) := r.append hd
  have hl : (us ++ ds).length = ps.length := by rw [← r2.length]; exact F.len _ _ _ _ h
  refine wpAny_call (codeAny_mono (F.run X.A X.stack s H ⟨us, []⟩ (us ++ ds) (vs ++ dvs) Q E hr I.env0 (hb s us I.kIn hl) r2 h) fun r s' hq => ?_)
  cases r with
  | error e => exact hx pins σ H s e s' I hq
  | ok fl =>
    cases fl with
    | ret u => exact I.after hq
    | next => exact False.elim hq
    | brk => exact False.elim hq
    | cont => exact False.elim hq

theorem pe_call (F : FnG X.prog X.w X.K X.mg X.base CX k f fd ps sp) (hr : RoomG k X.A) (hg : Gl X x) (hm : X.mg x = some (.ref f)) (hk : PySem.W.keepIn X.K (.ref f) = true) (hb : Binds X.K fd ps ds) (hd : Vals dvs ds) (hx : Passes CX X E)
    (ha : PA X (e :: es) t) (hdb : (x == ("__debug__" : Str)) = false := by decide) (he : starEach (e :: es) X.env = (false, eval e X.env) :: starEach es X.env := by rfl) (hpl : (backTo pos (starEach es X.env)).any (·.1) = false := by rfl) :
    PE X (.Call (.Name x p) (e :: es) [] pos) (tCall sp dvs E t) := by
  refine ⟨fun pins s σ H Q I h => ?_⟩
  refine wpAny_Call_Name_kw (ld_glob I hg hm ?_ hdb)
  refine PySem.W.callWith_K (h₀ := X.base) I.ok.mod.kin hk (thn (ha.run pos pins s σ H _ I h) fun us s1 ⟨vs, H1, I1, r, q⟩ => ⟨I1.kIn, ?_⟩) he hpl
  exact run_fn F hr hb hd hx I1 r q
theorem run_fnN {pins : List (Addr × Obj)} {σ : L2.St} {H : Hp} {s : Shared} {Q : VK} {us ws : List Value} {vs zs : List V} (F : FnG X.prog X.w X.K X.mg X.base CX k f fd ps sp) (hr : RoomG k X.A) (hb : KBn X.K fd ps n ks g gV) (hx : Passes CX X E)
    (I : Inv X pins σ H s) (r : Vals vs us) (rz : Vals zs ws) (l1 : vs.length = n) (l2 : zs.length = ks.length) (h : sp (gV vs zs) H Q E) : wpAny (model X.prog X.w) X.A (call (.ref f) us (ks.zip ws)) (EP X pins σ Q) X.xe s := by
  have r2 := hb.rel r rz
  refine wpAny_call (codeAny_mono (F.run X.A X.stack s H ⟨us, ks.zip ws⟩ (g us ws) (gV vs zs) Q E hr I.env0 (hb.to s us ws I.kIn (r.length.symm.trans l1) (rz.length.symm.trans l2)) r2 h) fun r s' hq => ?_)
  cases r with
  | error e => exact hx pins σ H s e s' I hq
  | ok fl =>
    cases fl with
    | ret u => exact I.after hq
    | next => exact False.elim hq
    | brk => exact False.elim hq
    | cont => exact False.elim hq
theorem pe_callN0 {CX : CXT} {g : List Value → List Value → List Value} {gV : List V → List V → List V} {spp : Sp} {E : XK} {tk : TA} (F : FnG X.prog X.w X.K X.mg X.base CX k f fd ps spp) (hr : RoomG k X.A) (hg : Gl X x) (hm : X.mg x = some (.ref f)) (hk : PySem.W.keepIn X.K (.ref f) = true) (hb : KBn X.K fd ps 0 ks g gV) (hx : Passes CX X E)
    (hkw : PK X kws tk) (hall : (backToKw pos (keywordEach kws X.env)).all (·.1.isSome) = true := by rfl) (hks : (backToKw pos (keywordEach kws X.env)).filterMap (·.1) = ks := by rfl)
    (hdb : (x == ("__debug__" : Str)) = false := by decide)
    (hpl : ((backTo pos (starEach [] X.env)).any (·.1) || (backToKw pos (keywordEach kws X.env)).any (·.1.isNone)) = false := by rfl) :
    PE X (.Call (.Name x p) [] kws pos) (tCallN 0 ks.length spp gV E tNil tk) := by
  refine ⟨fun pins s σ H Q I h => ?_⟩
  refine wpAny_Call_Name_kw (ld_glob I hg hm ?_ hdb)
  refine PySem.W.callWith_KW0 (h₀ := X.base) I.ok.mod.kin hk hall ?_ hpl
  refine thn (hkw.run pos pins s σ H _ I h) fun ws s2 ⟨zs, H2, I2, rz, l1, l2, q2⟩ => ⟨I2.kIn, ?_⟩
  rw [hks]
  exact run_fnN F hr hb hx I2 .nil rz l1 l2 q2
end
theorem fn_of {CX : CXT} {P : Program} {w : World} {K : PySem.W.Frag} {mg : Str → Option Value} {base : Heap} {k : Nat} {f : Addr} {name qual : Str} {params : Arguments} {body : List Stmt} {scope : Scope} {dV kV doc pm cdv ct oc : Value} {an od : Option Addr}
    {osl : Array (Option Value)} {N ps : List Str} {sp : Sp} (lk : K.lookup f = some ⟨oc, od, .func (PySem.W.fnOf name qual params body scope dV kV doc pm an cdv ct), osl⟩) (hcd : PySem.W.codeIn K cdv qual = true) (S : FnScope N ps scope)
    (len : ∀ vs H Q E, sp vs H Q E → vs.length = ps.length)
    (hbody : ∀ (A : Around) (outer : List Env) (s : Shared) (H : Hp) (vs : List V) (Q : VK) (E : XK), RoomG k (A.deeper (envOfC qual scope s.heap.objs.size f cdv)) → sp vs H Q E →
      ∃ t, PSs (cxOf CX P w K mg base N qual scope f cdv A outer s H E) body t ∧ t { nx := fun _ H' => Q .non H', rt := Q } (start N vs) H) :
    FnG P w K mg base CX (k + 1) f (PySem.W.fnOf name qual params body scope dV kV doc pm an cdv ct) ps sp := by
  refine ⟨len, fun A outer s H args us vs Q E hr e0 hb r hsp => ?_⟩
  have hl := len _ _ _ _ hsp
  have KX : K.In s.heap := e0.mod.kin.keeps fun b o e => (e0.bs b o e).1
  have lim : s.heap.NoLimit := e0.mod.nolimit.keeps fun b o e => (e0.bs b o e).1
  have hkind : ∀ y ∈ ps.zip us, scope.names.lookup y.1 = some .local ∨ (scope.names.lookup y.1 = some .cell ∧ ((cellsFrom (s.heap.objs.size + 1) scope.names []).lookup y.1).isSome = true) := fun ⟨n, v⟩ hy => by
    rcases S.par n (List.of_mem_zip hy).1 with q | q
    · exact .inl q
    · exact .inr ⟨q, PySem.W.cellsFrom_some _ _ _ (.inl q)⟩
  refine codeAny_call_function hr.r.depth (KX _ _ lk) rfl S.co S.gen rfl (PySem.W.codeRec_of KX hcd) (hb _ _ _ _ ?_)
  refine wpAny_newFunctionEnv_cells S.kind hkind fun env he s1 x => ?_
  subst he
  refine ⟨lim.keeps x.toInCall.keep, codeAny_func ?_⟩
  obtain ⟨t, ht, hq⟩ := hbody A outer s H vs Q E (hr.deeper _) hsp
  have I : Inv (cxOf CX P w K mg base N qual scope f cdv A outer s H E) [] (start N vs) H s1 := inv_start S hr.r.hd e0 hl r x
  refine wpAny_mono (ht.run [] s1 (start N vs) H _ I hq) (fun fl s' hs => ?_) fun e s' hs => hs
  have fin : ∀ {σ' : L2.St} {H' : Hp} {v : V} {u : Value}, Inv (cxOf CX P w K mg base N qual scope f cdv A outer s H E) [] σ' H' s' → RelV v u → Q v H' → CE outer P w H s Q u s' :=
    fun {σ' H' v u} J rv q => ⟨v, H', J.os, J.bare, J.base, J.hok, rv, q⟩
  cases fl with
  | ret u =>
    obtain ⟨v, σ', H', J, rv, q⟩ := hs
    exact fin J rv q
  | next =>
    obtain ⟨σ', H', J, q⟩ := hs
    exact fin (v := V.non) (u := Value.none) J rfl q
  | brk =>
    obtain ⟨_, _, _, q⟩ := hs
    exact False.elim q
  | cont =>
    obtain ⟨_, _, _, q⟩ := hs
    exact False.elim q

section
variable {P : Program} {w : World} {K : PySem.W.Frag} {mg : Str → Option Value} {base : Heap}
theorem fun_ok {x qual : Str} {st : Stmt} {f : Addr} {fd : FuncData} {N ps : List Str} {k : Nat} {sp : Sp} (F : Fun K x qual st f fd) (S : FnScope N ps (defScope st)) (len : ∀ vs H Q E, sp vs H Q E → vs.length = ps.length)
    (hbody : ∀ (cdv : Value) (A : Around) (outer : List Env) (s : Shared) (H : Hp) (vs : List V) (Q : VK) (E : XK), RoomG k (A.deeper (envOfC qual (defScope st) s.heap.objs.size f cdv)) → sp vs H Q E →
      ∃ t, PSs (cxOf CX0 P w K mg base N qual (defScope st) f cdv A outer s H E).nox (defBody st) t ∧ t { nx := fun _ H' => Q .non H', rt := Q } (start N vs) H) : FnG P w K mg base CX0 (k + 1) f fd ps sp := by
  obtain ⟨oc, od, kV, doc, pm, an, cdv, ct, osl, rfl, lk, hcd⟩ := F.ex
  refine fn_of lk hcd S len fun A outer s H vs Q E hr hsp => ?_
  obtain ⟨t, h, q⟩ := hbody cdv A outer s H vs Q E hr hsp
  exact ⟨t, h.nox, q⟩
end
/-! ### the end -/
theorem law_call {P : Program} {w : World} {K : PySem.W.Frag} {mg mb : Str → Option Value} {CX : CXT} {k : Nat} {fa a : Addr} {fd : FuncData} {x : Str} {sp : Sp} {s₁ : Shared} {vs : List Value} {ns : List Int}
    (KX : K.In s₁.heap) (hns : s₁.heap.Ns mainGlobals mg) (hb : s₁.heap.Ns builtinsNs mb) (hbb : ∀ x : Str, x ≠ "__name__" → mb x = bootBuiltins x) (hlim : s₁.heap.NoLimit) (hg : s₁.gens = #[])
    (ha : s₁.heap.get? a = some { cls := .type "list", data := .seq vs.toArray }) (hi : IntsAre vs ns) (hl : ns.length ≤ sizeLine) (hr : RoomG k callerA)
    (F : ∀ base : Heap, K.In base → base.Ns mainGlobals mg → FnG P w K mg base CX k fa fd [x] sp) (hbind : ∀ (s : Shared) (u : Value), BindsTo s fd ⟨[u], []⟩ [(x, u)])
    (hsp : ∀ H : Hp, Only H → SqL K H a (ns.map V.int) → sp [.ref a] H (fun v _ => v = .bl true) fun _ _ _ => False)
    (hCX : ∀ H e s', CX [] H s₁ (fun _ _ _ => False) e s' → False) :
    codeAny (model P w) callerA (.call (.ref fa) ⟨[.ref a], []⟩) (fun r s' => r = .ok (.ret (.bool true)) ∧ OldK s₁.heap s'.heap ∧ s'.os = s₁.os ∧ AllBare s'.gens) s₁ := by
  have rv := vals_ints hi
  have lenV := hi.length
  -- from an abstract heap in which nothing but the script may be tracked
  have core : ∀ H : Hp, Only H → SqL K H a (ns.map V.int) → HOk P w H s₁.heap → (∀ b, H b ≠ none → b = a) → (H a ≠ none → K.lookup a = none) →
      codeAny (model P w) callerA (.call (.ref fa) ⟨[.ref a], []⟩) (fun r s' => r = .ok (.ret (.bool true)) ∧ OldK s₁.heap s'.heap ∧ s'.os = s₁.os ∧ AllBare s'.gens) s₁ := by
    intro H hO hS hok hA hK
    have base_of : ∀ {b : Addr} {o : Obj}, s₁.heap.get? b = some o → H b = none → (hidT s₁.heap H).get? b = some o := fun e n => hidT_get e n
    have noA : ∀ {b : Addr} {o : Obj} {es : Array DictEntry} {ep : Nat}, s₁.heap.get? b = some o → o.data = .dict es ep → H b = none := fun {b o es ep} e d => by
      cases q : H b with
      | none => rfl
      | some u =>
        have e' : b = a := hA b (by rw [q]; simp)
        subst e'
        rw [ha] at e; cases e
        have d' : Data.seq vs.toArray _ = Data.dict es ep := d
        cases d'
    have nsK : ∀ {b : Addr} {m : Str → Option Value}, s₁.heap.Ns b m → (hidT s₁.heap H).Ns b m := fun {b m} ⟨o, es, ep, e, d, r⟩ => ⟨o, es, ep, base_of e (noA e d), d, r⟩
    have hKb : K.In (hidT s₁.heap H) := fun b o e => base_of (KX b o e) (by
      cases q : H b with
      | none => rfl
      | some u =>
        have e' : b = a := hA b (by rw [q]; simp)
        subst e'
        rw [hK (by rw [q]; simp)] at e; cases e)
    have hM : Mod K mg (hidT s₁.heap H) := ⟨hKb, nsK hns, ⟨mb, nsK hb, hbb⟩, let ⟨mc, h1, h2⟩ := hlim; ⟨mc, nsK h1, h2⟩⟩
    have e0 : Env0 P w K mg (hidT s₁.heap H) callerA [] s₁ H := ⟨rfl, hM, fun b o e => of_hidT e, Nat.le_of_eq (hidT_size _ _), trivial, fun b hb => absurd (show b ∈ ([] : List Addr) from hb) (by simp), hok, .of_eq hg⟩
    refine codeAny_mono ((F _ hKb (nsK hns)).run callerA [] s₁ H ⟨[.ref a], []⟩ [.ref a] [.ref a] _ _ hr e0 (hbind s₁ (.ref a)) (.cons rfl .nil) (hsp H hO hS)) fun r s' h => ?_
    cases r with
    | error e => exact (hCX H e s' h).elim
    | ok fl =>
      cases fl with
      | next => exact False.elim h
      | brk => exact False.elim h
      | cont => exact False.elim h
      | ret u =>
        obtain ⟨v, H', os, bare, un, hok', r', q⟩ := h
        have q' : v = .bl true := q
        subst q'
        obtain rfl : u = Value.bool true := r'
        refine ⟨rfl, OldK.of_keep fun b o e => ?_, os, bare⟩
        cases q : H b with
        | none => exact un.keep b o e q (by intro z; exact absurd (show b ∈ ([] : List Addr) from z) (by simp)) (by simp)
        | some u =>
          rcases hO b with z | ⟨ob, xs, z⟩
          · rw [q] at z; cases z
          · have z2 := un.frzs b ob _ z
            obtain ⟨e1, _⟩ := hok b _ z
            obtain ⟨e2, _⟩ := hok' b _ z2
            rw [e] at e1; cases e1
            exact e2
  cases hk : K.lookup a with
  | some o =>
    -- the script is one of the module's own objects
    have e := KX a o hk
    rw [ha] at e
    cases e
    refine core (fun _ => none) (fun _ => .inl rfl) (.inr ⟨_, vs.toArray, _, hk, rfl, rfl, rfl, by rw [List.size_toArray, lenV]; exact hl, by simpa using rv⟩) (fun b u z => by have z' : (none : Option HO) = some u := z; cases z') (fun b z => absurd rfl z) fun z => absurd rfl z
  | none =>
    refine core (fun b => if b = a then some (.frz { cls := .type "list", data := .seq vs.toArray } (.lst (ns.map V.int))) else none) (fun b => ?_) (.inl (.inr ⟨{ cls := .type "list", data := .seq vs.toArray }, if_pos rfl⟩)) (fun b u z => ?_) (fun b z => ?_) fun _ => hk
    · by_cases hb : b = a
      · exact .inr ⟨_, _, if_pos hb⟩
      · exact .inl (if_neg hb)
    · by_cases hb : b = a
      · have z' := (if_pos hb).symm.trans z
        cases z'
        subst hb
        exact ⟨ha, by rw [List.length_map]; exact hl, vs, _, rv, ha⟩
      · have z' := (if_neg hb).symm.trans z
        cases z'
    · by_cases hb : b = a
      · exact hb
      · exact absurd (if_neg hb) z
theorem walk_of {l : PySem.W.OpenLaw} {n k : Nat} {q : Program} {loose : List Str} {XP : (Str → Option Value) → Heap → Prop} {YP : World → Heap → Prop} {d : DefRec} {K : Params → PySem.W.Frag} {CX : World → CXT} {sp : World → Sp} {x : Str}
    (hn : l.most = some n) (hn2 : n ≤ sizeLine) (hdf : d.params.defaults = []) (hr : RoomG k callerA)
    (hY : ∀ (w : World) (h : Heap), YP w h → (K w.params).In h)
    (F : ∀ (w : World) (mg : Str → Option Value) (fa : Addr) (h : Heap), (K w.params).In h → h.Ns mainGlobals mg → mg d.name = some (.ref fa) →
      ∃ fd : FuncData, (∀ (s : Shared) (u : Value), BindsTo s fd ⟨[u], []⟩ [(x, u)]) ∧
        ∀ base : Heap, (K w.params).In base → base.Ns mainGlobals mg → FnG l.prog w (K w.params) mg base (CX w) k fa fd [x] (sp w))
    (hsp : ∀ (w : World) (H : Hp) (a : Addr) (ns : List Int), ns.length ≤ n → Only H → SqL (K w.params) H a (ns.map V.int) → sp w [.ref a] H (fun v _ => v = .bl true) fun _ _ _ => False)
    (hCX : ∀ (w : World) (H : Hp) (s : Shared) (e : Value) (s' : Shared), CX w [] H s (fun _ _ _ => False) e s' → False) :
    PySem.W.WalkO q loose XP YP l.row.toRowW d [] (fun f vs => PySem.call f vs) := by
  refine Att.attach_call hn hdf fun w s₀ s₁ mg mb fa o pm cd doc a vs ns G Y ho hd hcd hmg hobj hints hlen hg => ?_
  have KX := hY w _ Y
  obtain ⟨fd, hb, hF⟩ := F w mg fa _ KX G.T.g hmg
  exact law_call KX G.T.g G.T.b G.T.builtins G.T.nolimit hg hobj hints (Nat.le_trans hlen hn2) hr hF hb (fun H hO hS => hsp w H a ns hlen hO hS) fun H e s' => hCX w H s₁ e s'
end DG

/-! A head that writes nothing of the top out: one kernel run, its facts read by a Hook. -/
namespace HD
open PySem PySem.Spec PyProof.Rows L2 He
abbrev Pr : Type := PySem.W.Frag → Bool
def mkD (p : Str × Option Str) (x qual : Str) (st : Stmt) (dfl : List Dv := []) (kwd : List (Str × Dv) := []) : DefD := ⟨p, x, qual, defArgs st, defBody st, defScope st, dfl, kwd⟩
abbrev AlH : Type := Bool × List (List FnW) × List (Option (List (Option (Str × Int))))
/-! the same list walked by two functions: the kernel must not compare them under a binder -/
def oF1 (K : PySem.W.Frag) : List DefD → List FnW
  | [] => []
  | d :: r => fnW K d.at_ :: oF1 K r
def oF (K : PySem.W.Frag) : List (List DefD) → List (List FnW)
  | [] => []
  | q :: r => oF1 K q :: oF K r
def vF1 : List DefD → List FnW
  | [] => []
  | d :: r => d.val :: vF1 r
def vF : List (List DefD) → List (List FnW)
  | [] => []
  | q :: r => vF1 q :: vF r
def oT (K : PySem.W.Frag) : List Tab → List (Option (List (Option (Str × Int))))
  | [] => []
  | t :: r => dicW K (t.1 K) :: oT K r
def vT (w : World) : List Tab → List (Option (List (Option (Str × Int))))
  | [] => []
  | t :: r => some (keysIn w.params t.2) :: vT w r
theorem oF1_eq (K : PySem.W.Frag) : ∀ l : List DefD, oF1 K l = l.map fun d => fnW K d.at_
  | [] => rfl
  | d :: r => congrArg (fnW K d.at_ :: ·) (oF1_eq K r)
theorem oF_eq (K : PySem.W.Frag) : ∀ l : List (List DefD), oF K l = l.map fun q => q.map fun d => fnW K d.at_
  | [] => rfl
  | q :: r => by
    show oF1 K q :: oF K r = _
    rw [oF1_eq, oF_eq K r]
    rfl
theorem vF1_eq : ∀ l : List DefD, vF1 l = l.map DefD.val
  | [] => rfl
  | d :: r => congrArg (d.val :: ·) (vF1_eq r)
theorem vF_eq : ∀ l : List (List DefD), vF l = l.map fun q => q.map DefD.val
  | [] => rfl
  | q :: r => by
    show vF1 q :: vF r = _
    rw [vF1_eq, vF_eq r]
    rfl
theorem oT_eq (K : PySem.W.Frag) : ∀ l : List Tab, oT K l = l.map fun t => dicW K (t.1 K)
  | [] => rfl
  | t :: r => congrArg (dicW K (t.1 K) :: ·) (oT_eq K r)
theorem vT_eq (w : World) : ∀ l : List Tab, vT w l = l.map fun t => some (keysIn w.params t.2)
  | [] => rfl
  | t :: r => congrArg (some (keysIn w.params t.2) :: ·) (vT_eq w r)
def obsH (ps : List (List Pr)) (fn : List (List DefD)) (ts : List Tab) (K : PySem.W.Frag) : AlH := ((ps.all fun q => q.all fun p => p K) && fn.all fun q => q.all fun d => d.ok K, oF K fn, oT K ts)
def valH (fn : List (List DefD)) (ts : List Tab) (w : World) : AlH := (true, vF fn, vT w ts)
def Says (ps : List (List Pr)) (fn : List (List DefD)) (ts : List Tab) (w : World) (K : PySem.W.Frag) : Prop := obsH ps fn ts K = valH fn ts w
def obsHG (as : List Addr) (ps : List (List Pr)) (fn : List (List DefD)) (ts : List Tab) (g : Addr → Option Obj) : AlH := obsH ps fn ts (frG g as)
def hookH (n : List Addr) (ps : List (List Pr)) (fn : List (List DefD)) (ts : List Tab) : PySem.W.Hook where
  α := AlH
  obs := fun s => obsHG n ps fn ts s.heap.get?
  val := fun w => valH fn ts w
  says := fun w h => ∃ K : PySem.W.Frag, K.In h ∧ Says ps fn ts w K
  of := fun _ _ e => ⟨_, frG_in, e⟩
  keeps := fun _ _ _ ⟨K, hK, c⟩ k => ⟨K, PySem.W.Frag.In.keeps hK k, c⟩
theorem obsHG_eq {n : List Addr} {ps : List (List Pr)} {fn : List (List DefD)} {ts : List Tab} {g : Addr → Option Obj} {s : Shared} (h : ∀ a, g a = s.heap.get? a) : obsHG n ps fn ts g = (hookH n ps fn ts).obs s := by
  have e : g = s.heap.get? := funext h
  rw [e] <;> rfl
def fdo (K : PySem.W.Frag) (a : Addr) : FuncData := match K.lookup a with
  | some ⟨_, _, .func fd, _⟩ => fd
  | _ => PySem.W.fnOf "" "" ⟨[], [], none, [], [], none, []⟩ [] ⟨.function, [], false, false, []⟩ .none .none .none .none none .none .none
theorem funD_of {K : PySem.W.Frag} {d : DefD} (e : fnW K d.at_ = d.val) (c : d.ok K = true) : FunD K d.name d.qual d.params d.body d.scope (d.dvs K) (d.kws K) (fAd K d.at_) (fdo K (fAd K d.at_)) := by
  obtain ⟨fd, F⟩ := DefD.funD e c
  obtain ⟨oc, od, dV, kV, doc, pm, an, cdv, ct, osl, q, l, r⟩ := F.ex
  have e2 : fdo K (fAd K d.at_) = fd := by
    unfold fdo
    rw [l]
  rw [e2]
  exact F
theorem fun_of {K : PySem.W.Frag} {x qual : Str} {st : Stmt} {f : Addr} {fd : FuncData} (F : FunD K x qual (defArgs st) (defBody st) (defScope st) [] [] f fd) : Fun K x qual st f fd := by
  obtain ⟨oc, od, dV, kV, doc, pm, an, cdv, ct, osl, rfl, l, hc, hd, _⟩ := F.ex
  rcases hd with ⟨_, rfl⟩ | ⟨h, _⟩
  · exact ⟨⟨oc, od, kV, doc, pm, an, cdv, ct, osl, rfl, l, hc⟩, F.kp⟩
  · exact absurd rfl h
section
variable {ps : List (List Pr)} {fn : List (List DefD)} {ts : List Tab} {w : World} {K : PySem.W.Frag}
theorem Says.p (c : Says ps fn ts w K) (j i : Nat) {p : Pr} (h : (ps[j]?.bind fun q => q[i]?) = some p) : p K = true := by
  have c1 := (ba (show ((ps.all fun q => q.all fun p => p K) && fn.all fun q => q.all fun d => d.ok K) = true from congrArg (fun z : AlH => z.1) c)).1
  obtain ⟨q, hq, hp⟩ := Option.bind_eq_some_iff.mp h
  exact List.all_eq_true.mp (List.all_eq_true.mp c1 q (List.mem_of_getElem? hq)) p (List.mem_of_getElem? hp)
theorem Says.d (c : Says ps fn ts w K) (j i : Nat) {d : DefD} (h : (fn[j]?.bind fun q => q[i]?) = some d) : FunD K d.name d.qual d.params d.body d.scope (d.dvs K) (d.kws K) (fAd K d.at_) (fdo K (fAd K d.at_)) := by
  have c1 := (ba (show ((ps.all fun q => q.all fun p => p K) && fn.all fun q => q.all fun d => d.ok K) = true from congrArg (fun z : AlH => z.1) c)).2
  have c2 : (fn.map fun q => q.map fun d => fnW K d.at_) = fn.map fun q => q.map DefD.val := by
    rw [← oF_eq, ← vF_eq]
    exact congrArg (fun z : AlH => z.2.1) c
  obtain ⟨q, hq, hd⟩ := Option.bind_eq_some_iff.mp h
  have e : (fn.map fun q => q.map fun d => fnW K d.at_)[j]? = (fn.map fun q => q.map DefD.val)[j]? := by rw [c2]
  rw [List.getElem?_map, List.getElem?_map, hq] at e
  have e1 := Option.some.inj e
  have e2 : (q.map fun d => fnW K d.at_)[i]? = (q.map DefD.val)[i]? := by rw [show (q.map fun d => fnW K d.at_) = q.map DefD.val from e1]
  rw [List.getElem?_map, List.getElem?_map, hd] at e2
  exact funD_of (Option.some.inj e2) (List.all_eq_true.mp (List.all_eq_true.mp c1 q (List.mem_of_getElem? hq)) d (List.mem_of_getElem? hd))
theorem Says.f1 (c : Says ps fn ts w K) (j i : Nat) {p : Str × Option Str} {x qual : Str} {st : Stmt} {dfl : List Dv} {kwd : List (Str × Dv)} (h : (fn[j]?.bind fun q => q[i]?) = some (mkD p x qual st dfl kwd)) :
    FunD K x qual (defArgs st) (defBody st) (defScope st) (dfl.map (Dv.v K)) (kwd.map fun q => (q.1, q.2.v K)) (fAd K p) (fdo K (fAd K p)) := c.d j i h
theorem Says.f0 (c : Says ps fn ts w K) (j i : Nat) {p : Str × Option Str} {x qual : Str} {st : Stmt} (h : (fn[j]?.bind fun q => q[i]?) = some (mkD p x qual st [] [])) :
    Fun K x qual st (fAd K p) (fdo K (fAd K p)) := fun_of (c.d j i h)
theorem Says.t (c : Says ps fn ts w K) (i : Nat) {t : Tab} (h : ts[i]? = some t) : ∃ es n, KDict K w (t.1 K) es n := by
  have e : ts.map (fun t => dicW K (t.1 K)) = ts.map fun t => some (keysIn w.params t.2) := by
    rw [← oT_eq, ← vT_eq]
    exact congrArg (fun z : AlH => z.2.2) c
  have e2 : (ts.map fun t => dicW K (t.1 K))[i]? = (ts.map fun t => some (keysIn w.params t.2))[i]? := by rw [e]
  rw [List.getElem?_map, List.getElem?_map, h] at e2
  exact dicW_ok (Option.some.inj e2)
end
section
variable {K : PySem.W.Frag}
/-- x of the table at a is this literal -/
def litB (a : PySem.W.Frag → Addr) (x : Str) (v : V) : Pr := fun K => match PySem.W.nsIn K (a K) x with
  | some (some u) => relB v u
  | _ => false
theorem lit_ok {a : PySem.W.Frag → Addr} {x : Str} {v : V} (h : litB a x v K = true) : ∃ u, PySem.W.nsIn K (a K) x = some (some u) ∧ RelV v u := by
  unfold litB at h
  cases e : PySem.W.nsIn K (a K) x with
  | none =>
    rw [e] at h
    cases h
  | some r =>
    rw [e] at h
    cases r with
    | none => cases h
    | some u => exact ⟨u, rfl, relB_ok h⟩
theorem lit_int {a : PySem.W.Frag → Addr} {x : Str} {i : Int} (h : litB a x (.int i) K = true) : ∃ q : Tok, PySem.W.nsIn K (a K) x = some (some (.int i q)) := by
  obtain ⟨u, e, t, rfl⟩ := lit_ok h
  exact ⟨t, e⟩
end
theorem law_binds {K : PySem.W.Frag} {x qual y : Str} {st : Stmt} {f : Addr} {fd : FuncData} (F : Fun K x qual st f fd)
    (h : ∀ (kV doc pm : Value) (an : Option Addr) (cdv ct : Value) (s : Shared) (v : Value), BindsTo s (PySem.W.fnOf x qual (defArgs st) (defBody st) (defScope st) .none kV doc pm an cdv ct) ⟨[v], []⟩ [(y, v)]) (s : Shared) (v : Value) : BindsTo s fd ⟨[v], []⟩ [(y, v)] := by
  obtain ⟨oc, od, kV, doc, pm, an, cdv, ct, osl, rfl, lk, hcd⟩ := F.ex
  exact h kV doc pm an cdv ct s v
theorem walk_of {l : PySem.W.OpenLaw} {n k : Nat} {q : Program} {loose : List Str} {XP : (Str → Option Value) → Heap → Prop} {YP : World → Heap → Prop} {d : DefRec} {CX : World → CXT} {sp : World → PySem.W.Frag → Sp} {x : Str}
    (hn : l.most = some n) (hn2 : n ≤ sizeLine) (hdf : d.params.defaults = []) (hr : DG.RoomG k callerA)
    (F : ∀ (w : World) (mg : Str → Option Value) (fa : Addr) (h : Heap), YP w h → h.Ns mainGlobals mg → mg d.name = some (.ref fa) →
      ∃ K : PySem.W.Frag, K.In h ∧ ∃ fd : FuncData, (∀ (s : Shared) (u : Value), BindsTo s fd ⟨[u], []⟩ [(x, u)]) ∧
        ∀ base : Heap, K.In base → base.Ns mainGlobals mg → DG.FnG l.prog w K mg base (CX w) k fa fd [x] (sp w K))
    (hsp : ∀ (w : World) (K : PySem.W.Frag) (H : Hp) (a : Addr) (ns : List Int), ns.length ≤ n → Only H → SqL K H a (ns.map V.int) → sp w K [.ref a] H (fun v _ => v = .bl true) fun _ _ _ => False)
    (hCX : ∀ (w : World) (H : Hp) (s : Shared) (e : Value) (s' : Shared), CX w [] H s (fun _ _ _ => False) e s' → False) :
    PySem.W.WalkO q loose XP YP l.row.toRowW d [] (fun f vs => PySem.call f vs) := by
  refine Att.attach_call hn hdf fun w s₀ s₁ mg mb fa o pm cd doc a vs ns G Y ho hd hcd hmg hobj hints hlen hg => ?_
  obtain ⟨K, KX, fd, hb, hF⟩ := F w mg fa _ Y G.T.g hmg
  exact DG.law_call KX G.T.g G.T.b G.T.builtins G.T.nolimit hg hobj hints (Nat.le_trans hlen hn2) hr hF hb (fun H hO hS => hsp w K H a ns hlen hO hS) fun H e s' => hCX w H s₁ e s'
end HD

namespace HDR
open PySem PySem.Spec PyProof.Rows L2
def topS (i : Nat) : Stmt := PySem.Challenge.pw_firstfigures_k35_papers_that_a_lag_is_en.main.body.getD i (.Pass ⟨0, 0, 0, 0⟩)
abbrev s_is_number : Stmt := topS 3
abbrev s_power : Stmt := topS 4
abbrev s_sums_of : Stmt := topS 7
abbrev s_Game_init : Stmt := inClass (topS 8) 0
abbrev s_Game_is_lost : Stmt := inClass (topS 8) 1
abbrev s_Game_greatest : Stmt := inClass (topS 8) 2
abbrev s_Game_rests : Stmt := inClass (topS 8) 3
abbrev s_Game_look : Stmt := inClass (topS 8) 4
abbrev s_Game_led_to : Stmt := inClass (topS 8) 5
abbrev s_Game_is_held : Stmt := inClass (topS 8) 6
abbrev s_Game_first_fatal : Stmt := inClass (topS 8) 7
abbrev s_Game_ranks : Stmt := inClass (topS 8) 8
abbrev s_enough_paper : Stmt := topS 9
abbrev s_shows_enough : Stmt := topS 10
abbrev s_Lcell_at : Stmt := topS 12
abbrev s_Lbox : Stmt := topS 13
abbrev s_Ltake : Stmt := topS 14
abbrev s_Lof : Stmt := topS 15
abbrev s_Lsame : Stmt := topS 16
abbrev s_Lsums : Stmt := topS 17
abbrev s_Ldrawn : Stmt := topS 18
abbrev s_Lrules : Stmt := topS 19
abbrev s_Lis_lost : Stmt := topS 20
abbrev s_Lrests : Stmt := topS 21
abbrev s_Lleads : Stmt := topS 22
abbrev s_Lis_safe : Stmt := topS 23
abbrev s_Llayers : Stmt := topS 24
abbrev s_Lchosen : Stmt := topS 25
abbrev s_Lis_paper : Stmt := topS 26
abbrev s_Lotherwise : Stmt := topS 27
abbrev s_Lright : Stmt := topS 28
abbrev s_law : Stmt := topS 29
def hdP0 : List HD.Pr := [
  fun K => decide (PySem.W.nsIn K mainGlobals "Game" = some (some (.ref (He.ga K "Game")))),
  fun K => PySem.W.plainGet K (He.ga K "Game") Str.empty,
  fun K => PySem.W.hasDictIn K (He.ga K "Game"),
  fun K => PySem.W.plainOver K (He.ga K "Game"),
  fun K => decide (PySem.W.findIn K (.ref (He.ga K "Game")) "__setattr__" = some (some (.builtin "object.__setattr__"))),
  fun K => PySem.W.makesIn K (He.ga K "Game"),
  fun K => PySem.W.keepIn K (.ref (He.ga K "Game")),
  fun K => decide (PySem.W.findIn K (.ref (He.ga K "Game")) "own_base" = some none),
  fun K => decide (PySem.W.findIn K (.ref (He.ga K "Game")) "own_most" = some none),
  fun K => decide (PySem.W.findIn K (.ref (He.ga K "Game")) "own_step" = some none),
  fun K => decide (PySem.W.findIn K (.ref (He.ga K "Game")) "own_sums" = some none),
  fun K => decide (PySem.W.nsIn K mainGlobals "is_number" = some (some (.ref (He.fAd K ("is_number", none))))),
  fun K => decide (PySem.W.nsIn K mainGlobals "power" = some (some (.ref (He.fAd K ("power", none))))),
  fun K => decide (PySem.W.nsIn K mainGlobals "sums_of" = some (some (.ref (He.fAd K ("sums_of", none))))),
  fun K => decide (PySem.W.findIn K (.ref (He.ga K "Game")) "__init__" = some (some (.ref (He.fAd K ("Game", some "__init__"))))),
  fun K => PySem.W.isFn K (.ref (He.fAd K ("Game", some "__init__"))),
  fun K => decide (PySem.W.findIn K (.ref (He.ga K "Game")) "is_lost" = some (some (.ref (He.fAd K ("Game", some "is_lost"))))),
  fun K => PySem.W.isFn K (.ref (He.fAd K ("Game", some "is_lost"))),
  fun K => decide (PySem.W.findIn K (.ref (He.ga K "Game")) "greatest" = some (some (.ref (He.fAd K ("Game", some "greatest"))))),
  fun K => PySem.W.isFn K (.ref (He.fAd K ("Game", some "greatest"))),
  fun K => decide (PySem.W.findIn K (.ref (He.ga K "Game")) "rests" = some (some (.ref (He.fAd K ("Game", some "rests"))))),
  fun K => PySem.W.isFn K (.ref (He.fAd K ("Game", some "rests"))),
  fun K => decide (PySem.W.findIn K (.ref (He.ga K "Game")) "look" = some (some (.ref (He.fAd K ("Game", some "look"))))),
  fun K => PySem.W.isFn K (.ref (He.fAd K ("Game", some "look"))),
  fun K => decide (PySem.W.findIn K (.ref (He.ga K "Game")) "led_to" = some (some (.ref (He.fAd K ("Game", some "led_to")))))]
def hdP1 : List HD.Pr := [
  fun K => PySem.W.isFn K (.ref (He.fAd K ("Game", some "led_to"))),
  fun K => decide (PySem.W.findIn K (.ref (He.ga K "Game")) "is_held" = some (some (.ref (He.fAd K ("Game", some "is_held"))))),
  fun K => PySem.W.isFn K (.ref (He.fAd K ("Game", some "is_held"))),
  fun K => decide (PySem.W.findIn K (.ref (He.ga K "Game")) "first_fatal" = some (some (.ref (He.fAd K ("Game", some "first_fatal"))))),
  fun K => PySem.W.isFn K (.ref (He.fAd K ("Game", some "first_fatal"))),
  fun K => decide (PySem.W.findIn K (.ref (He.ga K "Game")) "ranks" = some (some (.ref (He.fAd K ("Game", some "ranks"))))),
  fun K => PySem.W.isFn K (.ref (He.fAd K ("Game", some "ranks"))),
  fun K => decide (PySem.W.nsIn K mainGlobals "enough_paper" = some (some (.ref (He.fAd K ("enough_paper", none))))),
  fun K => decide (PySem.W.nsIn K mainGlobals "shows_enough" = some (some (.ref (He.fAd K ("shows_enough", none))))),
  fun K => decide (PySem.W.nsIn K mainGlobals "_law_cell_at" = some (some (.ref (He.fAd K ("_law_cell_at", none))))),
  fun K => decide (PySem.W.nsIn K mainGlobals "_law_box" = some (some (.ref (He.fAd K ("_law_box", none))))),
  fun K => decide (PySem.W.nsIn K mainGlobals "_law_take" = some (some (.ref (He.fAd K ("_law_take", none))))),
  fun K => decide (PySem.W.nsIn K mainGlobals "_law_of" = some (some (.ref (He.fAd K ("_law_of", none))))),
  fun K => decide (PySem.W.nsIn K mainGlobals "_law_same" = some (some (.ref (He.fAd K ("_law_same", none))))),
  fun K => decide (PySem.W.nsIn K mainGlobals "_law_sums" = some (some (.ref (He.fAd K ("_law_sums", none))))),
  fun K => decide (PySem.W.nsIn K mainGlobals "_law_drawn" = some (some (.ref (He.fAd K ("_law_drawn", none))))),
  fun K => decide (PySem.W.nsIn K mainGlobals "_law_rules" = some (some (.ref (He.fAd K ("_law_rules", none))))),
  fun K => decide (PySem.W.nsIn K mainGlobals "_law_is_lost" = some (some (.ref (He.fAd K ("_law_is_lost", none))))),
  fun K => decide (PySem.W.nsIn K mainGlobals "_law_rests" = some (some (.ref (He.fAd K ("_law_rests", none))))),
  fun K => decide (PySem.W.nsIn K mainGlobals "_law_leads" = some (some (.ref (He.fAd K ("_law_leads", none))))),
  fun K => decide (PySem.W.nsIn K mainGlobals "_law_is_safe" = some (some (.ref (He.fAd K ("_law_is_safe", none))))),
  fun K => decide (PySem.W.nsIn K mainGlobals "_law_layers" = some (some (.ref (He.fAd K ("_law_layers", none))))),
  fun K => decide (PySem.W.nsIn K mainGlobals "_law_chosen" = some (some (.ref (He.fAd K ("_law_chosen", none))))),
  fun K => decide (PySem.W.nsIn K mainGlobals "_law_is_paper" = some (some (.ref (He.fAd K ("_law_is_paper", none))))),
  fun K => decide (PySem.W.nsIn K mainGlobals "_law_otherwise" = some (some (.ref (He.fAd K ("_law_otherwise", none)))))]
def hdP2 : List HD.Pr := [
  fun K => decide (PySem.W.nsIn K mainGlobals "_law_right" = some (some (.ref (He.fAd K ("_law_right", none))))),
  fun K => decide (PySem.W.nsIn K mainGlobals "law" = some (some (.ref (He.fAd K ("law", none))))),
  fun K => decide (PySem.W.nsIn K mainGlobals "abs" = some none),
  fun K => decide (PySem.W.nsIn K mainGlobals "all" = some none),
  fun K => decide (PySem.W.nsIn K mainGlobals "any" = some none),
  fun K => decide (PySem.W.nsIn K mainGlobals "bool" = some none),
  fun K => decide (PySem.W.nsIn K mainGlobals "dict" = some none),
  fun K => decide (PySem.W.nsIn K mainGlobals "int" = some none),
  fun K => decide (PySem.W.nsIn K mainGlobals "isinstance" = some none),
  fun K => decide (PySem.W.nsIn K mainGlobals "len" = some none),
  fun K => decide (PySem.W.nsIn K mainGlobals "list" = some none),
  fun K => decide (PySem.W.nsIn K mainGlobals "max" = some none),
  fun K => decide (PySem.W.nsIn K mainGlobals "min" = some none),
  fun K => decide (PySem.W.nsIn K mainGlobals "range" = some none),
  fun K => decide (PySem.W.nsIn K mainGlobals "repr" = some none),
  fun K => decide (PySem.W.nsIn K mainGlobals "set" = some none),
  fun K => decide (PySem.W.nsIn K mainGlobals "sorted" = some none),
  fun K => decide (PySem.W.nsIn K mainGlobals "str" = some none),
  fun K => decide (PySem.W.nsIn K mainGlobals "tuple" = some none),
  fun K => decide (PySem.W.nsIn K mainGlobals "zip" = some none),
  HD.litB (fun _ => mainGlobals) "MOST_STATES" (.int 2000)]
def hdP : List (List HD.Pr) := [hdP0, hdP1, hdP2]
def hdF0 : List He.DefD := [
  HD.mkD ("is_number", none) "is_number" "is_number" s_is_number [] [],
  HD.mkD ("power", none) "power" "power" s_power [] [],
  HD.mkD ("sums_of", none) "sums_of" "sums_of" s_sums_of [] [],
  HD.mkD ("Game", some "__init__") "__init__" "Game.__init__" s_Game_init [] [],
  HD.mkD ("Game", some "is_lost") "is_lost" "Game.is_lost" s_Game_is_lost [] [],
  HD.mkD ("Game", some "greatest") "greatest" "Game.greatest" s_Game_greatest [] [],
  HD.mkD ("Game", some "rests") "rests" "Game.rests" s_Game_rests [] [],
  HD.mkD ("Game", some "look") "look" "Game.look" s_Game_look [] [],
  HD.mkD ("Game", some "led_to") "led_to" "Game.led_to" s_Game_led_to [] [],
  HD.mkD ("Game", some "is_held") "is_held" "Game.is_held" s_Game_is_held [] [],
  HD.mkD ("Game", some "first_fatal") "first_fatal" "Game.first_fatal" s_Game_first_fatal [] [],
  HD.mkD ("Game", some "ranks") "ranks" "Game.ranks" s_Game_ranks [] [],
  HD.mkD ("enough_paper", none) "enough_paper" "enough_paper" s_enough_paper [] [],
  HD.mkD ("shows_enough", none) "shows_enough" "shows_enough" s_shows_enough [] [],
  HD.mkD ("_law_cell_at", none) "_law_cell_at" "_law_cell_at" s_Lcell_at [] [],
  HD.mkD ("_law_box", none) "_law_box" "_law_box" s_Lbox [] [],
  HD.mkD ("_law_take", none) "_law_take" "_law_take" s_Ltake [] [],
  HD.mkD ("_law_of", none) "_law_of" "_law_of" s_Lof [] [],
  HD.mkD ("_law_same", none) "_law_same" "_law_same" s_Lsame [] [],
  HD.mkD ("_law_sums", none) "_law_sums" "_law_sums" s_Lsums [] [],
  HD.mkD ("_law_drawn", none) "_law_drawn" "_law_drawn" s_Ldrawn [] [],
  HD.mkD ("_law_rules", none) "_law_rules" "_law_rules" s_Lrules [] [],
  HD.mkD ("_law_is_lost", none) "_law_is_lost" "_law_is_lost" s_Lis_lost [] [],
  HD.mkD ("_law_rests", none) "_law_rests" "_law_rests" s_Lrests [] [],
  HD.mkD ("_law_leads", none) "_law_leads" "_law_leads" s_Lleads [] []]
def hdF1 : List He.DefD := [
  HD.mkD ("_law_is_safe", none) "_law_is_safe" "_law_is_safe" s_Lis_safe [] [],
  HD.mkD ("_law_layers", none) "_law_layers" "_law_layers" s_Llayers [] [],
  HD.mkD ("_law_chosen", none) "_law_chosen" "_law_chosen" s_Lchosen [] [],
  HD.mkD ("_law_is_paper", none) "_law_is_paper" "_law_is_paper" s_Lis_paper [] [],
  HD.mkD ("_law_otherwise", none) "_law_otherwise" "_law_otherwise" s_Lotherwise [] [],
  HD.mkD ("_law_right", none) "_law_right" "_law_right" s_Lright [] [],
  HD.mkD ("law", none) "law" "law" s_law [] []]
def hdF : List (List He.DefD) := [hdF0, hdF1]
def hdT : List He.Tab := []
def hdN0 : List PySem.Str := ["TooGreat", "is_number", "power", "MOST_STATES", "sums_of", "Game", "enough_paper", "shows_enough", "_law_cell_at", "_law_box", "_law_take", "_law_of", "_law_same", "_law_sums", "_law_drawn", "_law_rules", "_law_is_lost", "_law_rests", "_law_leads", "_law_is_safe", "_law_layers", "_law_chosen", "_law_is_paper", "_law_otherwise", "_law_right"]
def hdN : List PySem.Str := hdN0
abbrev hdR : PySem.W.OpenRow := PySem.W.OpenLaw.row PySem.Challenge.rw_firstfigures_k35_papers_that_a_lag_is_en
abbrev hdV : Program := PySem.W.view hdR.prog [29]
def hdA : List Addr := [3, 6, 4, 31, 41, 48, 53, 120, 131, 136, 143, 150, 157, 164, 169, 174, 179, 186, 193, 198, 203, 208, 213, 218, 223, 228, 233, 238, 30, 40, 47, 52, 119, 130, 135, 142, 149, 156, 163, 168, 173, 178, 185, 192, 197, 202, 207, 212, 217, 222, 227, 232, 237, 28, 29, 32, 67, 74, 81, 88, 95, 100, 105, 112, 117, 118, 121, 122, 27, 66, 73, 80, 87, 94, 99, 104, 111, 116]
abbrev hdK : PySem.W.Hook := HD.hookH hdA hdP hdF hdT
def hdO (s : PySem.W.SharedT) : HD.AlH := HD.obsHG hdA hdP hdF hdT (HandSHeadRun.getT s)
theorem hdO_eq (s : PySem.W.SharedT) : hdO s = hdK.obs s.abs := HD.obsHG_eq (HandSHeadRun.getT_eq s)
theorem hdEf (w : PySem.World) : HandSHeadRun.RunEq hdR hdV hdK hdO 20000 hdN (w.withFollow "special-get-raises" false) := by
  intro os
  kernel_rfl
theorem hdEt (w : PySem.World) : HandSHeadRun.RunEq hdR hdV hdK hdO 20000 hdN (w.withFollow "special-get-raises" true) := by
  intro os
  kernel_rfl
theorem hdE (w : PySem.World) : HandSHeadRun.RunEq hdR hdV hdK hdO 20000 hdN w := PySem.W.byRow2 "special-get-raises" (P := fun w => HandSHeadRun.RunEq hdR hdV hdK hdO 20000 hdN w) hdEf hdEt w
end HDR
/-! A layer over the hand layer: values as data (no addresses but of what changes), readings as predicates over data. -/
namespace DL
open PySem PySem.Spec PyProof.Rows L2

/-- data: what a value is, all through; obj: a thing that may change, by its place -/
inductive D where
  | non | bl (b : Bool) | int (i : Int) | str (s : Str) | ty (n : String) | lst (xs : List D) | ext (xs : List D) | tup (xs : List D) | obj (a : Addr)
  /-- a tuple made in the run -/
  | tq (xs : List D)

/-- a tuple as data: made in the run, or standing in the written part -/
def TupAt (K : PySem.W.Frag) (I : Hp) (a : Addr) (xs : List V) : Prop := I a = some (.tup xs) ∨
    ∃ (o : Obj) (its : Array Value) (n : Nat), K.lookup a = some o ∧ o.cls = .type "tuple" ∧ o.data = .seq its n ∧ its.size ≤ sizeLine ∧ Vals xs its.toList
mutual
def Rep (K : PySem.W.Frag) (I : Hp) : D → V → Prop
  | .non, v => v = .non
  | .bl b, v => v = .bl b
  | .int i, v => v = .int i
  | .str s, v => v = .str s
  | .ty n, v => v = .ty n
  | .lst ds, v => ∃ a xs, v = .ref a ∧ I a = some (.lst xs) ∧ RepL K I ds xs
  | .ext ds, v => ∃ a xs, v = .ref a ∧ SqL K I a xs ∧ RepL K I ds xs
  | .tup ds, v => ∃ a xs, v = .ref a ∧ TupAt K I a xs ∧ RepL K I ds xs
  | .obj a, v => v = .ref a
  | .tq ds, v => ∃ a xs, v = .ref a ∧ I a = some (.tup xs) ∧ RepL K I ds xs
def RepL (K : PySem.W.Frag) (I : Hp) : List D → List V → Prop
  | [], vs => vs = []
  | d :: ds, vs => ∃ v r, vs = v :: r ∧ Rep K I d v ∧ RepL K I ds r
end

/-- what a changing thing holds -/
inductive MO where
  | lst (xs : List D)
  | ins (C : Addr) (fs : List (Str × D))
  | dK (kvs : List (Key × D))
  | dZ (o : Obj) (vs : List (Key × V)) (kvs : List (Key × D))
  | dT (kvs : List (List Key × D))
  | dU (o : Obj) (vs : List (List Key × V)) (kvs : List (List Key × D))
  | exc (C : Addr) (d : Option Addr)
  | xdD (fs : List (Str × D))
  /-- a table of code objects: each that it tells bears the name q -/
  | tab (q : Str)
abbrev Store := Addr → Option MO
abbrev DSt := List (Option D)
def supd (S : Store) (a : Addr) (m : MO) : Store := fun b => if b = a then some m else S b
def sdel (S : Store) (a : Addr) : Store := fun b => if b = a then none else S b

def RepF {κ : Type} (K : PySem.W.Frag) (I : Hp) : List (κ × D) → List (κ × V) → Prop
  | [], vs => vs = []
  | d :: ds, vs => ∃ v r, vs = (d.1, v) :: r ∧ Rep K I d.2 v ∧ RepF K I ds r
/-- at a: an exception of the class at C, d its dict -/
def exv (a C : Addr) (d : Option Addr) : HO := .ext fun h => ∃ (oe : Obj) (xs : Array Value), h.get? a = some oe ∧ (oe.cls = .ref C ∧ oe.dict = d) ∧ oe.data = .fields xs
def RepM (K : PySem.W.Frag) (I H : Hp) (a : Addr) : MO → Prop
  | .lst ds => ∃ xs, H a = some (.lst xs) ∧ RepL K I ds xs
  | .ins C fs => ∃ dx vs, H a = some (.ins C dx vs) ∧ H dx = some (.own a) ∧ RepF K I fs vs
  | .dK kvs => ∃ vs, H a = some (.dK vs) ∧ RepF K I kvs vs
  | .dZ o vs kvs => H a = some (.frz o (.dK vs)) ∧ RepF K I kvs vs
  | .dT kvs => ∃ vs, H a = some (.dT vs) ∧ RepF K I kvs vs
  | .dU o vs kvs => H a = some (.frz o (.dT vs)) ∧ RepF K I kvs vs
  | .exc C d => H a = some (exv a C d)
  | .xdD fs => ∃ vs, H a = some (.xd vs) ∧ RepF K I fs vs
  | .tab q => ∃ ps : Array Value, H a = some (.tbl ps) ∧ TriplesOk ps.toList ∧ ∀ (pos : Pos) (cv : Value), codeAmong pos ps.toList = some cv → ∃ c, cv = .ref c ∧ I c = some (LamX.CodeO c q)
/-- what is hidden is no instance's own dict, no tuple -/
def NoHid (o : HO) : Prop := (∀ y, o ≠ .own y) ∧ ∀ ys, o ≠ .tup ys

section
variable {K : PySem.W.Frag} {I I' I'' H H' F : Hp} {S S' : Store}
theorem tupAt_same {H H' : Hp} {a : Addr} {xs : List V} (e : Same H H') (h : TupAt K H a xs) : TupAt K H' a xs := by
  rcases h with h | h
  · exact .inl (e _ _ h)
  · exact .inr h
theorem sqT_same {H H' : Hp} {a : Addr} {xs : List V} (e : Same H H') (h : TupAt K H a xs) : SqT K H' a xs := by
  rcases h with h | h
  · exact .inl (.inl (e _ _ h))
  · exact .inr h
mutual
theorem Rep.mono (e : Same I I') : ∀ (d : D) (v : V), Rep K I d v → Rep K I' d v
  | .non, _, h => by simpa only [Rep] using h
  | .bl _, _, h => by simpa only [Rep] using h
  | .int _, _, h => by simpa only [Rep] using h
  | .str _, _, h => by simpa only [Rep] using h
  | .ty _, _, h => by simpa only [Rep] using h
  | .obj _, _, h => by simpa only [Rep] using h
  | .lst ds, v, h => by
    simp only [Rep] at h ⊢
    obtain ⟨a, xs, rfl, hs, hr⟩ := h
    exact ⟨a, xs, rfl, e _ _ hs, RepL.mono e ds xs hr⟩
  | .ext ds, v, h => by
    simp only [Rep] at h ⊢
    obtain ⟨a, xs, rfl, hs, hr⟩ := h
    exact ⟨a, xs, rfl, e.seq hs, RepL.mono e ds xs hr⟩
  | .tup ds, v, h => by
    simp only [Rep] at h ⊢
    obtain ⟨a, xs, rfl, hs, hr⟩ := h
    exact ⟨a, xs, rfl, tupAt_same e hs, RepL.mono e ds xs hr⟩
  | .tq ds, v, h => by
    simp only [Rep] at h ⊢
    obtain ⟨a, xs, rfl, hs, hr⟩ := h
    exact ⟨a, xs, rfl, e _ _ hs, RepL.mono e ds xs hr⟩
theorem RepL.mono (e : Same I I') : ∀ (ds : List D) (vs : List V), RepL K I ds vs → RepL K I' ds vs
  | [], _, h => by simpa only [RepL] using h
  | d :: ds, vs, h => by
    simp only [RepL] at h ⊢
    obtain ⟨v, r, rfl, h1, h2⟩ := h
    exact ⟨v, r, rfl, Rep.mono e d v h1, RepL.mono e ds r h2⟩
end
theorem RepF.mono {κ : Type} (e : Same I I') : ∀ (ds : List (κ × D)) (vs : List (κ × V)), RepF K I ds vs → RepF K I' ds vs
  | [], _, h => by simpa only [RepF] using h
  | d :: ds, vs, h => by
    simp only [RepF] at h ⊢
    obtain ⟨v, r, rfl, h1, h2⟩ := h
    exact ⟨v, r, rfl, Rep.mono e d.2 v h1, RepF.mono e ds r h2⟩
theorem RepL.len : ∀ {ds : List D} {vs : List V}, RepL K I ds vs → vs.length = ds.length
  | [], _, h => by
    simp only [RepL] at h
    subst h; rfl
  | d :: ds, vs, h => by
    simp only [RepL] at h
    obtain ⟨v, r, rfl, h1, h2⟩ := h
    simp [RepL.len h2]
theorem RepL.get : ∀ {ds : List D} {vs : List V} {i : Nat} {d : D}, RepL K I ds vs → ds[i]? = some d → ∃ v, vs[i]? = some v ∧ Rep K I d v
  | [], _, _, _, _, e => by simp at e
  | d :: ds, vs, 0, x, h, e => by
    simp only [RepL] at h
    obtain ⟨v, r, rfl, h1, h2⟩ := h
    simp at e; subst e
    exact ⟨v, rfl, h1⟩
  | d :: ds, vs, i + 1, x, h, e => by
    simp only [RepL] at h
    obtain ⟨v, r, rfl, h1, h2⟩ := h
    obtain ⟨w, e1, e2⟩ := RepL.get (i := i) h2 (by simpa using e)
    exact ⟨w, by simpa using e1, e2⟩
theorem RepL.app : ∀ {ds es : List D} {vs ws : List V}, RepL K I ds vs → RepL K I es ws → RepL K I (ds ++ es) (vs ++ ws)
  | [], _, _, _, h, h' => by
    simp only [RepL] at h
    subst h; simpa using h'
  | d :: ds, es, vs, ws, h, h' => by
    simp only [RepL] at h
    obtain ⟨v, r, rfl, h1, h2⟩ := h
    simp only [List.cons_append, RepL]
    exact ⟨v, r ++ ws, rfl, h1, h2.app h'⟩
theorem RepL.nil : RepL K I [] [] := by simp only [RepL]
theorem RepL.cons {d : D} {v : V} {ds : List D} {vs : List V} (h : Rep K I d v) (h' : RepL K I ds vs) : RepL K I (d :: ds) (v :: vs) := by
  simp only [RepL]
  exact ⟨v, vs, rfl, h, h'⟩
theorem RepL.one {d : D} {v : V} (h : Rep K I d v) : RepL K I [d] [v] := RepL.cons h RepL.nil
theorem RepL.set : ∀ {ds : List D} {vs : List V} {d : D} {v : V} (i : Nat), RepL K I ds vs → Rep K I d v → RepL K I (ds.set i d) (vs.set i v)
  | [], _, _, _, _, h, _ => by
    simp only [RepL] at h
    subst h; simp only [List.set_nil]; exact RepL.nil
  | d :: ds, vs, x, y, 0, h, h' => by
    simp only [RepL] at h
    obtain ⟨v, r, rfl, h1, h2⟩ := h
    exact RepL.cons h' h2
  | d :: ds, vs, x, y, i + 1, h, h' => by
    simp only [RepL] at h
    obtain ⟨v, r, rfl, h1, h2⟩ := h
    exact RepL.cons h1 (h2.set i h')
theorem RepL.drop : ∀ {ds : List D} {vs : List V} (n : Nat), RepL K I ds vs → RepL K I (ds.drop n) (vs.drop n)
  | _, _, 0, h => by simpa using h
  | [], _, n + 1, h => by
    simp only [RepL] at h
    subst h; simp only [List.drop_nil]; exact RepL.nil
  | d :: ds, vs, n + 1, h => by
    simp only [RepL] at h
    obtain ⟨v, r, rfl, h1, h2⟩ := h
    simpa using h2.drop n
theorem RepL.take : ∀ {ds : List D} {vs : List V} (n : Nat), RepL K I ds vs → RepL K I (ds.take n) (vs.take n)
  | _, _, 0, h => by simp only [List.take_zero]; exact RepL.nil
  | [], _, n + 1, h => by
    simp only [RepL] at h
    subst h; simp only [List.take_nil]; exact RepL.nil
  | d :: ds, vs, n + 1, h => by
    simp only [RepL] at h
    obtain ⟨v, r, rfl, h1, h2⟩ := h
    simp only [List.take_succ_cons]
    exact RepL.cons h1 (h2.take n)
theorem RepL.rev : ∀ {ds : List D} {vs : List V}, RepL K I ds vs → RepL K I ds.reverse vs.reverse
  | [], _, h => by
    simp only [RepL] at h
    subst h; exact RepL.nil
  | d :: ds, vs, h => by
    simp only [RepL] at h
    obtain ⟨v, r, rfl, h1, h2⟩ := h
    simp only [List.reverse_cons]
    exact h2.rev.app (RepL.one h1)
theorem RepL.inv1 {d : D} {vs : List V} (h : RepL K I [d] vs) : ∃ v, vs = [v] ∧ Rep K I d v := by
  simp only [RepL] at h
  obtain ⟨v, r, rfl, h1, rfl⟩ := h
  exact ⟨v, rfl, h1⟩
theorem RepL.inv2 {d e : D} {vs : List V} (h : RepL K I [d, e] vs) : ∃ v w, vs = [v, w] ∧ Rep K I d v ∧ Rep K I e w := by
  simp only [RepL] at h
  obtain ⟨v, r, rfl, h1, w, r', rfl, h2, rfl⟩ := h
  exact ⟨v, w, rfl, h1, h2⟩
theorem rep_int {i : Int} : Rep K I (.int i) (.int i) := by simp only [Rep]
theorem rep_bl {b : Bool} : Rep K I (.bl b) (.bl b) := by simp only [Rep]
theorem rep_str {s : Str} : Rep K I (.str s) (.str s) := by simp only [Rep]
theorem rep_non : Rep K I .non .non := by simp only [Rep]
theorem Rep.int_of {i : Int} {v : V} (h : Rep K I (.int i) v) : v = .int i := by simpa only [Rep] using h
theorem Rep.bl_of {i : Bool} {v : V} (h : Rep K I (.bl i) v) : v = .bl i := by simpa only [Rep] using h
theorem Rep.str_of {i : Str} {v : V} (h : Rep K I (.str i) v) : v = .str i := by simpa only [Rep] using h
theorem Rep.non_of {v : V} (h : Rep K I .non v) : v = .non := by simpa only [Rep] using h
theorem Rep.obj_of {a : Addr} {v : V} (h : Rep K I (.obj a) v) : v = .ref a := by simpa only [Rep] using h
theorem Rep.lst_of {ds : List D} {v : V} (h : Rep K I (.lst ds) v) : ∃ a xs, v = .ref a ∧ I a = some (.lst xs) ∧ RepL K I ds xs := by simpa only [Rep] using h
theorem Rep.ext_of {ds : List D} {v : V} (h : Rep K I (.ext ds) v) : ∃ a xs, v = .ref a ∧ SqL K I a xs ∧ RepL K I ds xs := by simpa only [Rep] using h
theorem Rep.tup_of {ds : List D} {v : V} (h : Rep K I (.tup ds) v) : ∃ a xs, v = .ref a ∧ TupAt K I a xs ∧ RepL K I ds xs := by simpa only [Rep] using h
theorem Rep.tq_of {ds : List D} {v : V} (h : Rep K I (.tq ds) v) : ∃ a xs, v = .ref a ∧ I a = some (.tup xs) ∧ RepL K I ds xs := by simpa only [Rep] using h

/-! ### the heap behind the data -/
structure Ok (K : PySem.W.Frag) (I : Hp) (S : Store) (F H : Hp) : Prop where
  i : ∀ a o, I a = some o → H a = some o
  s : ∀ a m, S a = some m → I a = none ∧ RepM K I H a m
  f : ∀ a o, F a = some o → H a = some o ∧ I a = none ∧ S a = none ∧ NoHid o

theorem RepM.there {a : Addr} {m : MO} (h : RepM K I H a m) : ∃ o, H a = some o ∧ ∀ y, o ≠ .own y := by
  cases m with
  | lst ds => obtain ⟨xs, e, _⟩ := h; exact ⟨_, e, fun y z => by cases z⟩
  | ins C fs => obtain ⟨dx, vs, e, _⟩ := h; exact ⟨_, e, fun y z => by cases z⟩
  | dK kvs => obtain ⟨vs, e, _⟩ := h; exact ⟨_, e, fun y z => by cases z⟩
  | dZ o vs kvs => exact ⟨_, h.1, fun y z => by cases z⟩
  | dT kvs => obtain ⟨vs, e, _⟩ := h; exact ⟨_, e, fun y z => by cases z⟩
  | dU o vs kvs => exact ⟨_, h.1, fun y z => by cases z⟩
  | exc C d => exact ⟨_, h, fun y z => by unfold exv at z; cases z⟩
  | xdD fs => obtain ⟨vs, e, _⟩ := h; exact ⟨_, e, fun y z => by cases z⟩
  | tab q => obtain ⟨ps, e, _⟩ := h; exact ⟨_, e, fun y z => by cases z⟩
theorem RepM.mono {a : Addr} {m : MO} (h : RepM K I H a m) (e : Same I I') (ha : H' a = H a) (hd : ∀ dx, H dx = some (.own a) → H' dx = some (.own a)) : RepM K I' H' a m := by
  cases m with
  | lst ds => obtain ⟨xs, q, r⟩ := h; exact ⟨xs, ha.trans q, r.mono e⟩
  | ins C fs => obtain ⟨dx, vs, q, q2, r⟩ := h; exact ⟨dx, vs, ha.trans q, hd dx q2, r.mono e⟩
  | dK kvs => obtain ⟨vs, q, r⟩ := h; exact ⟨vs, ha.trans q, r.mono e⟩
  | dZ o vs kvs => exact ⟨ha.trans h.1, h.2.mono e⟩
  | dT kvs => obtain ⟨vs, q, r⟩ := h; exact ⟨vs, ha.trans q, r.mono e⟩
  | dU o vs kvs => exact ⟨ha.trans h.1, h.2.mono e⟩
  | exc C d => exact ha.trans h
  | xdD fs => obtain ⟨vs, q, r⟩ := h; exact ⟨vs, ha.trans q, r.mono e⟩
  | tab q => obtain ⟨ps, q, t, r⟩ := h; exact ⟨ps, ha.trans q, t, fun pos cv hc => let ⟨c, e1, e2⟩ := r pos cv hc; ⟨c, e1, e _ _ e2⟩⟩
theorem Ok.same (h : Ok K I S F H) : Same I H := h.i
theorem Ok.freshI (h : Ok K I S F H) {p : Addr} (n : H p = none) : I p = none := by
  cases e : I p with
  | none => rfl
  | some o => rw [h.i p o e] at n; cases n
theorem Ok.freshS (h : Ok K I S F H) {p : Addr} (n : H p = none) : S p = none := by
  cases e : S p with
  | none => rfl
  | some o =>
    obtain ⟨_, q, _⟩ := (h.s p o e).2.there
    rw [q] at n; cases n
theorem Ok.freshF (h : Ok K I S F H) {p : Addr} (n : H p = none) : F p = none := by
  cases e : F p with
  | none => rfl
  | some o => rw [(h.f p o e).1] at n; cases n
theorem same_new {p : Addr} {o : HO} (n : I p = none) : Same I (upd I p o) := fun b x e => by
  rw [upd_ne (ne_of_none e n)]
  exact e
/-- a new thing that never changes -/
theorem Ok.newI (h : Ok K I S F H) {p : Addr} {o : HO} (n : H p = none) : Ok K (upd I p o) S F (upd H p o) := by
  refine ⟨fun a x e => ?_, fun a m e => ?_, fun a x e => ?_⟩
  · by_cases q : a = p
    · subst q; rw [upd_same] at e ⊢; exact e
    · rw [upd_ne q] at e ⊢; exact h.i a x e
  · obtain ⟨h1, h2⟩ := h.s a m e
    obtain ⟨x, h3, _⟩ := h2.there
    have ne : a ≠ p := ne_of_none h3 n
    refine ⟨by rw [upd_ne ne]; exact h1, h2.mono (same_new (h.freshI n)) (upd_ne ne) fun dx q => ?_⟩
    rw [upd_ne (ne_of_none q n)]; exact q
  · obtain ⟨h1, h2, h3, h4⟩ := h.f a x e
    have ne : a ≠ p := ne_of_none h1 n
    exact ⟨by rw [upd_ne ne]; exact h1, by rw [upd_ne ne]; exact h2, h3, h4⟩
/-- a new list that may change -/
theorem Ok.newM (h : Ok K I S F H) {p : Addr} {xs : List V} {ds : List D} (n : H p = none) (r : RepL K I ds xs) : Ok K I (supd S p (.lst ds)) F (upd H p (.lst xs)) := by
  refine ⟨fun a x e => ?_, fun a m e => ?_, fun a x e => ?_⟩
  · rw [upd_ne (ne_of_none (h.i a x e) n)]; exact h.i a x e
  · unfold supd at e
    by_cases q : a = p
    · subst q
      rw [if_pos rfl] at e; cases e
      exact ⟨h.freshI n, xs, upd_same, r⟩
    · rw [if_neg q] at e
      obtain ⟨h1, h2⟩ := h.s a m e
      refine ⟨h1, h2.mono (Same.refl I) (upd_ne q) fun dx q => ?_⟩
      rw [upd_ne (ne_of_none q n)]; exact q
  · obtain ⟨h1, h2, h3, h4⟩ := h.f a x e
    have ne : a ≠ p := ne_of_none h1 n
    exact ⟨by rw [upd_ne ne]; exact h1, h2, by unfold supd; rw [if_neg ne]; exact h3, h4⟩
/-- a new thing that is hidden -/
theorem Ok.newF (h : Ok K I S F H) {p : Addr} {o : HO} (n : H p = none) (no : NoHid o) : Ok K I S (upd F p o) (upd H p o) := by
  refine ⟨fun a x e => ?_, fun a m e => ?_, fun a x e => ?_⟩
  · rw [upd_ne (ne_of_none (h.i a x e) n)]; exact h.i a x e
  · obtain ⟨h1, h2⟩ := h.s a m e
    obtain ⟨x, h3, _⟩ := h2.there
    have ne : a ≠ p := ne_of_none h3 n
    refine ⟨h1, h2.mono (Same.refl I) (upd_ne ne) fun dx q => ?_⟩
    rw [upd_ne (ne_of_none q n)]; exact q
  · by_cases q : a = p
    · subst q
      rw [upd_same] at e ⊢; cases e
      exact ⟨rfl, h.freshI n, h.freshS n, no⟩
    · rw [upd_ne q] at e
      obtain ⟨h1, h2, h3, h4⟩ := h.f a x e
      exact ⟨by rw [upd_ne q]; exact h1, h2, h3, h4⟩
/-- a changing list changes -/
theorem Ok.write (h : Ok K I S F H) {p : Addr} {m : MO} {o : HO} {m' : MO} (e : S p = some m) (no : ∀ y, H p ≠ some (.own y)) (r : RepM K I (upd H p o) p m') : Ok K I (supd S p m') F (upd H p o) := by
  obtain ⟨i0, m0⟩ := h.s p m e
  refine ⟨fun a x q => ?_, fun a m q => ?_, fun a x q => ?_⟩
  · rw [upd_ne (ne_of_none q i0)]; exact h.i a x q
  · unfold supd at q
    by_cases z : a = p
    · subst z
      rw [if_pos rfl] at q; cases q
      exact ⟨i0, r⟩
    · rw [if_neg z] at q
      obtain ⟨h1, h2⟩ := h.s a m q
      refine ⟨h1, h2.mono (Same.refl I) (upd_ne z) fun dx q => ?_⟩
      by_cases zz : dx = p
      · subst zz; exact absurd q (no _)
      · rw [upd_ne zz]; exact q
  · obtain ⟨h1, h2, h3, h4⟩ := h.f a x q
    have ne : a ≠ p := fun z => by subst z; rw [h3] at e; cases e
    exact ⟨by rw [upd_ne ne]; exact h1, h2, by unfold supd; rw [if_neg ne]; exact h3, h4⟩
theorem Ok.writeL (h : Ok K I S F H) {p : Addr} {m : MO} {xs : List V} {ds : List D} (e : S p = some m) (r : RepL K I ds xs) : Ok K I (supd S p (.lst ds)) F (upd H p (.lst xs)) := by
  refine h.write e (fun y z => ?_) ⟨xs, upd_same, r⟩
  obtain ⟨o, q, no⟩ := (h.s p m e).2.there
  rw [q] at z
  exact no y (Option.some.inj z)
/-- a hidden thing changes -/
theorem Ok.writeF (h : Ok K I S F H) {p : Addr} {o o' : HO} (e : F p = some o) (no : NoHid o') : Ok K I S (upd F p o') (upd H p o') := by
  obtain ⟨f1, f2, f3, f4⟩ := h.f p o e
  refine ⟨fun a x q => ?_, fun a m q => ?_, fun a x q => ?_⟩
  · rw [upd_ne (ne_of_none q f2)]; exact h.i a x q
  · obtain ⟨h1, h2⟩ := h.s a m q
    have ne : a ≠ p := fun z => by subst z; rw [f3] at q; cases q
    refine ⟨h1, h2.mono (Same.refl I) (upd_ne ne) fun dx q => ?_⟩
    by_cases zz : dx = p
    · subst zz
      rw [f1] at q
      exact absurd (Option.some.inj q) (f4.1 _)
    · rw [upd_ne zz]; exact q
  · by_cases z : a = p
    · subst z
      rw [upd_same] at q ⊢; cases q
      exact ⟨rfl, f2, f3, no⟩
    · rw [upd_ne z] at q
      obtain ⟨h1, h2, h3, h4⟩ := h.f a x q
      exact ⟨by rw [upd_ne z]; exact h1, h2, h3, h4⟩
/-- a hidden thing is laid with what never changes -/
theorem Ok.showF (h : Ok K I S F H) {p : Addr} {o : HO} (e : F p = some o) : Ok K (upd I p o) S (fun b => if b = p then none else F b) H := by
  obtain ⟨f1, f2, f3, f4⟩ := h.f p o e
  refine ⟨fun a x q => ?_, fun a m q => ?_, fun a x q => ?_⟩
  · by_cases z : a = p
    · subst z; rw [upd_same] at q; cases q; exact f1
    · rw [upd_ne z] at q; exact h.i a x q
  · obtain ⟨h1, h2⟩ := h.s a m q
    have ne : a ≠ p := fun z => by subst z; rw [f3] at q; cases q
    exact ⟨by rw [upd_ne ne]; exact h1, h2.mono (same_new f2) rfl fun _ q => q⟩
  · by_cases z : a = p
    · rw [if_pos z] at q; cases q
    · rw [if_neg z] at q
      obtain ⟨h1, h2, h3, h4⟩ := h.f a x q
      exact ⟨h1, by rw [upd_ne z]; exact h2, h3, h4⟩
/-- a list that changed is to change no more -/
theorem Ok.freeze (h : Ok K I S F H) {p : Addr} {ds : List D} (e : S p = some (.lst ds)) : ∃ xs, RepL K I ds xs ∧ I p = none ∧ Ok K (upd I p (.lst xs)) (sdel S p) F H := by
  obtain ⟨i0, xs, hp, r⟩ := h.s p _ e
  refine ⟨xs, r, i0, fun a x q => ?_, fun a m q => ?_, fun a x q => ?_⟩
  · by_cases z : a = p
    · subst z; rw [upd_same] at q; cases q; exact hp
    · rw [upd_ne z] at q; exact h.i a x q
  · unfold sdel at q
    by_cases z : a = p
    · rw [if_pos z] at q; cases q
    · rw [if_neg z] at q
      obtain ⟨h1, h2⟩ := h.s a m q
      exact ⟨by rw [upd_ne z]; exact h1, h2.mono (same_new i0) rfl fun _ q => q⟩
  · obtain ⟨h1, h2, h3, h4⟩ := h.f a x q
    have ne : a ≠ p := fun z => by subst z; rw [h3] at e; cases e
    exact ⟨h1, by rw [upd_ne ne]; exact h2, by unfold sdel; rw [if_neg ne]; exact h3, h4⟩
theorem rep_new_lst {p : Addr} {xs : List V} {ds : List D} (n : I p = none) (r : RepL K I ds xs) : Rep K (upd I p (.lst xs)) (.lst ds) (.ref p) := by
  simp only [Rep]
  exact ⟨p, xs, rfl, upd_same, r.mono (same_new n)⟩
theorem rep_new_tup {p : Addr} {xs : List V} {ds : List D} (n : I p = none) (r : RepL K I ds xs) : Rep K (upd I p (.tup xs)) (.tup ds) (.ref p) := by
  simp only [Rep]
  exact ⟨p, xs, rfl, .inl upd_same, r.mono (same_new n)⟩
end

/-! ### slots -/
def RepS (K : PySem.W.Frag) (I : Hp) (ρ : DSt) (σ : L2.St) : Prop := ρ.length = σ.length ∧ ∀ (i : Nat) (d : D), ρ[i]? = some (some d) → ∃ v, σ[i]? = some (some v) ∧ Rep K I d v
section
variable {K : PySem.W.Frag} {I I' : Hp} {ρ : DSt} {σ : L2.St}
theorem RepS.mono (h : RepS K I ρ σ) (e : Same I I') : RepS K I' ρ σ := ⟨h.1, fun i d q => let ⟨v, a, b⟩ := h.2 i d q; ⟨v, a, b.mono e⟩⟩
theorem RepS.set (h : RepS K I ρ σ) {d : D} {v : V} (i : Nat) (r : Rep K I d v) : RepS K I (ρ.set i (some d)) (σ.set i (some v)) := by
  refine ⟨by simp [h.1], fun j x q => ?_⟩
  by_cases hj : i = j
  · subst hj
    by_cases hi : i < ρ.length
    · rw [List.getElem?_set_self hi] at q
      cases q
      exact ⟨v, by rw [List.getElem?_set_self (by rw [← h.1]; exact hi)], r⟩
    · rw [List.getElem?_eq_none (by simpa using hi)] at q; cases q
  · rw [List.getElem?_set_ne hj] at q
    obtain ⟨w, a, b⟩ := h.2 j x q
    exact ⟨w, by rw [List.getElem?_set_ne hj]; exact a, b⟩
theorem RepS.unset (h : RepS K I ρ σ) (i : Nat) : RepS K I (ρ.set i none) (σ.set i none) := by
  refine ⟨by simp [h.1], fun j x q => ?_⟩
  by_cases hj : i = j
  · subst hj
    by_cases hi : i < ρ.length
    · rw [List.getElem?_set_self hi] at q; cases q
    · rw [List.getElem?_eq_none (by simpa using hi)] at q; cases q
  · rw [List.getElem?_set_ne hj] at q
    obtain ⟨w, a, b⟩ := h.2 j x q
    exact ⟨w, by rw [List.getElem?_set_ne hj]; exact a, b⟩
def dwipe (ρ : DSt) : List Nat → DSt
  | [] => ρ
  | v :: vs => (dwipe ρ vs).set v none
theorem RepS.wipe (h : RepS K I ρ σ) : ∀ vs : List Nat, RepS K I (dwipe ρ vs) (L2.wipe σ vs)
  | [] => h
  | v :: vs => (h.wipe vs).unset v
theorem repS_start {N : List Str} {ds : List D} {vs : List V} (r : RepL K I ds vs) : RepS K I (ds.map some ++ List.replicate (N.length - ds.length) none) (L2.start N vs) := by
  have l := r.len
  refine ⟨by simp [L2.start, l], fun i d q => ?_⟩
  by_cases hi : i < ds.length
  · rw [List.getElem?_append_left (by simpa using hi)] at q
    rw [List.getElem?_map] at q
    cases e : ds[i]? with
    | none => rw [e] at q; cases q
    | some x =>
      rw [e] at q
      cases q
      obtain ⟨v, e1, e2⟩ := r.get e
      refine ⟨v, ?_, e2⟩
      unfold L2.start
      rw [List.getElem?_append_left (by simpa [l] using hi), List.getElem?_map, e1]
      rfl
  · rw [List.getElem?_append_right (by simpa using hi)] at q
    rw [List.getElem?_replicate] at q
    split at q <;> cases q
end
end DL

namespace DL
open PySem PySem.Spec PyProof.Rows L2

/-! ### readings over data -/
abbrev DE := DSt → Store → (D → Store → Prop) → Prop
abbrev DT := DSt → Store → (Bool → Store → Prop) → Prop
abbrev DA := DSt → Store → (List D → Store → Prop) → Prop
/-- what is walked: its data, what must stay as it is meanwhile -/
abbrev DI := DSt → Store → (List D → Option (Store → Prop) → Store → Prop) → Prop
structure DEnds where
  nx : DSt → Store → Prop
  rt : D → Store → Prop
  bk : DSt → Store → Prop := fun _ _ => False
  ct : DSt → Store → Prop := fun _ _ => False
  /-- an exception: its class's number, the place of its dict -/
  xc : Nat → Option Addr → DSt → Store → Prop := fun _ _ _ _ => False
abbrev DS := DEnds → DSt → Store → Prop
abbrev DSp := List D → Store → (D → Store → Prop) → Prop

section
variable (K : PySem.W.Frag)
def Sees (I F : Hp) (P : D → Store → Prop) (Q : VK) : Prop := ∀ x S' v I' H', P x S' → Same I I' → Ok K I' S' F H' → Rep K I' x v → Q v H'
def SeesT (I F : Hp) (P : Bool → Store → Prop) (Q : Bool → Hp → Prop) : Prop := ∀ b S' I' H', P b S' → Same I I' → Ok K I' S' F H' → Q b H'
def SeesA (I F : Hp) (P : List D → Store → Prop) (Q : List V → Hp → Prop) : Prop := ∀ xs S' vs I' H', P xs S' → Same I I' → Ok K I' S' F H' → RepL K I' xs vs → Q vs H'
def SeesS (I F : Hp) (P : DSt → Store → Prop) (Q : L2.St → Hp → Prop) : Prop := ∀ ρ S' σ I' H', P ρ S' → Same I I' → Ok K I' S' F H' → RepS K I' ρ σ → Q σ H'
def upE (d : DE) : TE := fun σ H Q => ∃ ρ I S F P, RepS K I ρ σ ∧ Ok K I S F H ∧ d ρ S P ∧ Sees K I F P Q
def upT (d : DT) : TT := fun σ H Q => ∃ ρ I S F P, RepS K I ρ σ ∧ Ok K I S F H ∧ d ρ S P ∧ SeesT K I F P Q
def upA (d : DA) : TA := fun σ H Q => ∃ ρ I S F P, RepS K I ρ σ ∧ Ok K I S F H ∧ d ρ S P ∧ SeesA K I F P Q
structure SeesD (I F : Hp) (DD : DEnds) (E : Ends) : Prop where
  nx : SeesS K I F DD.nx E.nx
  rt : Sees K I F DD.rt E.rt
  bk : SeesS K I F DD.bk E.bk
  ct : SeesS K I F DD.ct E.ct
def upS (d : DS) : TS := fun E σ H => ∃ ρ I S F DD, RepS K I ρ σ ∧ Ok K I S F H ∧ d DD ρ S ∧ SeesD K I F DD E
/-- a def's promise -/
def upSp (d : DSp) : Sp := fun vs H Q _ => ∃ ds I S F P, RepL K I ds vs ∧ Ok K I S F H ∧ d ds S P ∧ Sees K I F P Q
end
section
variable {K : PySem.W.Frag} {I I' F : Hp}
theorem Sees.mono {P : D → Store → Prop} {Q : VK} (h : Sees K I F P Q) (e : Same I I') : Sees K I' F P Q := fun x S' v I2 H' p e2 ok r => h x S' v I2 H' p (e.trans e2) ok r
theorem SeesT.mono {P : Bool → Store → Prop} {Q : Bool → Hp → Prop} (h : SeesT K I F P Q) (e : Same I I') : SeesT K I' F P Q := fun x S' I2 H' p e2 ok => h x S' I2 H' p (e.trans e2) ok
theorem SeesA.mono {P : List D → Store → Prop} {Q : List V → Hp → Prop} (h : SeesA K I F P Q) (e : Same I I') : SeesA K I' F P Q := fun x S' v I2 H' p e2 ok r => h x S' v I2 H' p (e.trans e2) ok r
theorem SeesS.mono {P : DSt → Store → Prop} {Q : L2.St → Hp → Prop} (h : SeesS K I F P Q) (e : Same I I') : SeesS K I' F P Q := fun x S' v I2 H' p e2 ok r => h x S' v I2 H' p (e.trans e2) ok r
theorem SeesD.mono {DD : DEnds} {E : Ends} (h : SeesD K I F DD E) (e : Same I I') : SeesD K I' F DD E := ⟨h.nx.mono e, h.rt.mono e, h.bk.mono e, h.ct.mono e⟩
end

abbrev JE (X : Cx) (e : Expr) (d : DE) : Prop := PE X e (upE X.K d)
abbrev JT (X : Cx) (e : Expr) (d : DT) : Prop := PT X e (upT X.K d)
abbrev JW (X : Cx) (e : Expr) (d : DT) : Prop := PW X e (upT X.K d)
abbrev JA (X : Cx) (es : List Expr) (d : DA) : Prop := PA X es (upA X.K d)
abbrev JS (X : Cx) (st : Stmt) (d : DS) : Prop := PS X st (upS X.K d)
abbrev JSs (X : Cx) (st : List Stmt) (d : DS) : Prop := PSs X st (upS X.K d)

theorem je_of {X : Cx} {e : Expr} {t u : TE} (h : PE X e t) (i : ∀ σ H Q, u σ H Q → t σ H Q) : PE X e u := ⟨fun pins s σ H Q I q => h.run pins s σ H Q I (i _ _ _ q)⟩
theorem jt_of {X : Cx} {e : Expr} {t u : TT} (h : PT X e t) (i : ∀ σ H Q, u σ H Q → t σ H Q) : PT X e u := ⟨fun pins s σ H Q I q => h.run pins s σ H Q I (i _ _ _ q)⟩
theorem jw_of {X : Cx} {e : Expr} {t u : TT} (h : PW X e t) (i : ∀ σ H Q, u σ H Q → t σ H Q) : PW X e u := ⟨fun wh pins s σ H Q I q => h.run wh pins s σ H Q I (i _ _ _ q)⟩
theorem ja_of {X : Cx} {e : List Expr} {t u : TA} (h : PA X e t) (i : ∀ σ H Q, u σ H Q → t σ H Q) : PA X e u := ⟨fun pos pins s σ H Q I q => h.run pos pins s σ H Q I (i _ _ _ q)⟩
theorem js_of {X : Cx} {e : Stmt} {t u : TS} (h : PS X e t) (i : ∀ D σ H, u D σ H → t D σ H) : PS X e u := ⟨fun pins s σ H Q I q => h.run pins s σ H Q I (i _ _ _ q)⟩
theorem jss_of {X : Cx} {e : List Stmt} {t u : TS} (h : PSs X e t) (i : ∀ D σ H, u D σ H → t D σ H) : PSs X e u := ⟨fun pins s σ H Q I q => h.run pins s σ H Q I (i _ _ _ q)⟩

/-! ### names, constants -/
def dVar (i : Nat) : DE := fun ρ S P => match ρ[i]? with
  | some (some x) => P x S
  | _ => False
def dC (x : D) : DE := fun _ S P => P x S
section
variable {X : Cx} {pos : Pos}
theorem je_var (i : Nat) {x : Str} (hN : X.N[i]? = some x := by rfl) (hv : Vis X.env.scope x := by first | exact Or.inl rfl | exact Or.inr (Or.inl rfl) | exact Or.inr (Or.inr rfl)) (hd : (x == ("__debug__" : Str)) = false := by decide)
    (hcd : (x == ("__classdict__" : Str)) = false := by decide) : JE X (.Name x pos) (dVar i) :=
  je_of (pe_var hN hv hd hcd) fun σ H Q h0_ => El54 h0_ fun ρ I S F P rs ok h q => by
    unfold dVar at h
    split at h
    · rename_i x e
      obtain ⟨v, e1, r⟩ := rs.2 i x e
      exact ⟨v, e1, q _ _ _ _ _ h (Same.refl I) ok r⟩
    · exact h.elim
theorem je_c {e : Expr} {x : D} {v : V} (h : PE X e (tC v)) (r : ∀ I, Rep X.K I x v) : JE X e (dC x) :=
  je_of h fun σ H Q h0_ => El54 h0_ fun ρ I S F P rs ok h q => q _ _ _ _ _ h (Same.refl I) ok (r I)
theorem je_int {i : Int} {j} : JE X (.Constant (.int i) j pos) (dC (.int i)) := je_c pe_int fun _ => rep_int
theorem je_bl {b : Bool} {j} : JE X (.Constant (.bool b) j pos) (dC (.bl b)) := je_c pe_bl fun _ => rep_bl
theorem je_non {j} : JE X (.Constant .none j pos) (dC .non) := je_c pe_non fun _ => rep_non
theorem je_str {x : Str} {j} : JE X (.Constant (.str x) j pos) (dC (.str x)) := je_c pe_str fun _ => rep_str
/-- a built-in class as a value -/
theorem je_ty {x : Str} {n : String} (hg : Gl X x) (hm : X.mg x = none) (hv : bootBuiltins x = some (.type n)) (hn : x ≠ "__name__" := by decide) (hd : (x == ("__debug__" : Str)) = false := by decide) : JE X (.Name x pos) (dC (.ty n)) :=
  je_c (pe_bltn (v := .ty n) hg hm hv rfl hn hd) fun _ => by simp only [Rep]

/-! ### operators -/
abbrev D2 := D → D → Store → (D → Store → Prop) → Prop
abbrev D1 := D → Store → (D → Store → Prop) → Prop
def dOp (o : D2) (a b : DE) : DE := fun ρ S P => a ρ S fun x S1 => b ρ S1 fun y S2 => o x y S2 P
def dUn (o : D1) (a : DE) : DE := fun ρ S P => a ρ S fun x S1 => o x S1 P
def Imp2 (K : PySem.W.Frag) (r : R2) (o : D2) : Prop := ∀ x y v w I S F H P Q, Ok K I S F H → Rep K I x v → Rep K I y w → o x y S P → Sees K I F P Q → r v w H Q
def Imp1 (K : PySem.W.Frag) (r : V → Hp → VK → Prop) (o : D1) : Prop := ∀ x v I S F H P Q, Ok K I S F H → Rep K I x v → o x S P → Sees K I F P Q → r v H Q
variable {a b : Expr} {da db : DE}
theorem up_op {K : PySem.W.Frag} {r : R2} {o : D2} (i : Imp2 K r o) : ∀ σ H Q, upE K (dOp o da db) σ H Q → tOp r (upE K da) (upE K db) σ H Q := fun σ H Q h0_ => El54 h0_ fun ρ I S F P rs ok h q =>
  ⟨ρ, I, S, F, _, rs, ok, h, fun x S1 v I1 H1 h1 e1 ok1 r1 => ⟨ρ, I1, S1, F, _, rs.mono e1, ok1, h1, fun y S2 w I2 H2 h2 e2 ok2 r2 =>
    i x y v w I2 S2 F H2 P Q ok2 (r1.mono e2) r2 h2 (q.mono (e1.trans e2))⟩⟩
theorem je_op {op : Operator} {r : R2} {o : D2} (h : OpR X (binaryOp op) r) (i : Imp2 X.K r o) (ha : JE X a da) (hb : JE X b db) : JE X (.BinOp a op b pos) (dOp o da db) := je_of (pe_op h ha hb) (up_op i)
theorem je_un {op : UnaryOp} {r : V → Hp → VK → Prop} {o : D1} (h : UnR X (unaryOp op) r) (i : Imp1 X.K r o) (ha : JE X a da) : JE X (.UnaryOp op a pos) (dUn o da) :=
  je_of (pe_un h ha) fun σ H Q h0_ => El54 h0_ fun ρ I S F P rs ok h q => ⟨ρ, I, S, F, _, rs, ok, h, fun x S1 v I1 H1 h1 e1 ok1 r1 => i x v I1 S1 F H1 P Q ok1 r1 h1 (q.mono e1)⟩
theorem je_cmp {op : CmpOp} {r : R2} {o : D2} (h : OpR X (compareOp op) r) (i : Imp2 X.K r o) (ha : JE X a da) (hb : JE X b db) (hm : behindInMarks op b = false) : JE X (.Compare a [op] [b] pos) (dOp o da db) := je_of (pe_cmpR h ha hb hm) (up_op i)
def dTest (d : DE) : DT := fun ρ S P => d ρ S fun x S1 => match x with
  | .bl k => P k S1
  | _ => False
theorem up_test {K : PySem.W.Frag} {t : TE} {d : DE} (h : ∀ σ H Q, upE K d σ H Q → t σ H Q) : ∀ σ H Q, upT K (dTest d) σ H Q → tTest t σ H Q := fun σ H Q h0_ => El54 h0_ fun ρ I S F P rs ok hh q =>
  h _ _ _ ⟨ρ, I, S, F, _, rs, ok, hh, fun x S1 v I1 H1 h1 e1 ok1 r1 => by
    cases x with
    | bl k => exact ⟨k, r1.bl_of, q k S1 I1 H1 h1 e1 ok1⟩
    | _ => exact h1.elim⟩
theorem jt_cmp {op : CmpOp} {r : R2} {o : D2} (h : OpR X (compareOp op) r) (i : Imp2 X.K r o) (ha : JE X a da) (hb : JE X b db) (hm : behindInMarks op b = false) : JT X (.Compare a [op] [b] pos) (dTest (dOp o da db)) := jt_of (pt_cmpR h ha hb hm) (up_test (up_op i))

/-! ### and, or, not, if -/
def dAnd (t u : DT) : DT := fun ρ S P => t ρ S fun c S1 => if c = true then u ρ S1 P else P false S1
def dOr (t u : DT) : DT := fun ρ S P => t ρ S fun c S1 => if c = true then P true S1 else u ρ S1 P
def dNot (t : DT) : DT := fun ρ S P => t ρ S fun c S1 => P (!c) S1
/-- and, or as values, truths all but the last -/
def dAndV (a b : DE) : DE := fun ρ S P => a ρ S fun x S1 => match x with
  | .bl c => if c = true then b ρ S1 P else P (.bl false) S1
  | _ => False
def dOrV (a b : DE) : DE := fun ρ S P => a ρ S fun x S1 => match x with
  | .bl c => if c = true then P (.bl true) S1 else b ρ S1 P
  | _ => False
def dNotV (a : DE) : DE := fun ρ S P => a ρ S fun x S1 => match x with
  | .bl c => P (.bl (!c)) S1
  | _ => False
def dIf (c : DT) (a b : DE) : DE := fun ρ S P => c ρ S fun k S1 => if k = true then a ρ S1 P else b ρ S1 P
variable {dt du : DT} {rest : List Expr}
theorem jw_or1 (ha : JT X a dt) : JW X (.BoolOp .Or [a] pos) dt := pw_or1 ha
theorem jw_or (ha : JT X a dt) (hb : JW X (.BoolOp .Or (b :: rest) pos) du) : JW X (.BoolOp .Or (a :: b :: rest) pos) (dOr dt du) :=
  jw_of (pw_or ha hb) fun σ H Q h0_ => El54 h0_ fun ρ I S F P rs ok h q => ⟨ρ, I, S, F, _, rs, ok, h, fun c S1 I1 H1 h1 e1 ok1 => by
    cases c with
    | false => exact ⟨ρ, I1, S1, F, P, rs.mono e1, ok1, h1, q.mono e1⟩
    | true => exact q _ _ _ _ h1 e1 ok1⟩
theorem jt_w (h : JW X a dt) : JT X a dt := h.pt
theorem jt_not (ha : JT X a dt) : JT X (.UnaryOp .Not a pos) (dNot dt) :=
  jt_of (pt_not ha) fun σ H Q h0_ => El54 h0_ fun ρ I S F P rs ok h q => ⟨ρ, I, S, F, _, rs, ok, h, fun c S1 I1 H1 h1 e1 ok1 => q _ _ _ _ h1 e1 ok1⟩
/-- an expression that gives a truth, as a test -/
theorem jt_val (h : JE X a da) (he : ∀ whole, isTrue a X.env whole = (do let v ← whole; standAt a.pos; holding [v] (truthy v)) := by intro _; rfl) : JT X a (dTest da) :=
  jt_of (pt_val h he) fun σ H Q h0_ => El54 h0_ fun ρ I S F P rs ok hh q => ⟨ρ, I, S, F, _, rs, ok, hh, fun x S1 v I1 H1 h1 e1 ok1 r1 => by
    cases x with
    | bl k => exact ⟨k, r1.bl_of, q k S1 I1 H1 h1 e1 ok1⟩
    | _ => exact h1.elim⟩
theorem je_one {op} (h : JE X a da) : JE X (.BoolOp op [a] pos) da := pe_one h
theorem je_and (ha : JE X a da) (hb : JE X (.BoolOp .And (b :: rest) pos) db) : JE X (.BoolOp .And (a :: b :: rest) pos) (dAndV da db) :=
  je_of (pe_and ha hb) fun σ H Q h0_ => El54 h0_ fun ρ I S F P rs ok h q => ⟨ρ, I, S, F, _, rs, ok, h, fun x S1 v I1 H1 h1 e1 ok1 r1 => by
    cases x with
    | bl c =>
      refine ⟨c, r1.bl_of, ?_⟩
      cases c with
      | true => exact ⟨ρ, I1, S1, F, P, rs.mono e1, ok1, h1, q.mono e1⟩
      | false => exact q _ _ _ _ _ h1 e1 ok1 rep_bl
    | _ => exact h1.elim⟩
theorem je_not (ha : JE X a da) : JE X (.UnaryOp .Not a pos) (dNotV da) :=
  je_of (pe_not ha) fun σ H Q h0_ => El54 h0_ fun ρ I S F P rs ok h q => ⟨ρ, I, S, F, _, rs, ok, h, fun x S1 v I1 H1 h1 e1 ok1 r1 => by
    cases x with
    | bl c => exact ⟨c, r1.bl_of, q _ _ _ _ _ h1 e1 ok1 rep_bl⟩
    | _ => exact h1.elim⟩
theorem je_ifE {c : Expr} (hc : JT X c dt) (ha : JE X a da) (hb : JE X b db) : JE X (.IfExp c a b pos) (dIf dt da db) :=
  je_of (pe_ifExp hc ha hb) fun σ H Q h0_ => El54 h0_ fun ρ I S F P rs ok h q => ⟨ρ, I, S, F, _, rs, ok, h, fun c S1 I1 H1 h1 e1 ok1 => by
    cases c with
    | true => exact ⟨ρ, I1, S1, F, P, rs.mono e1, ok1, h1, q.mono e1⟩
    | false => exact ⟨ρ, I1, S1, F, P, rs.mono e1, ok1, h1, q.mono e1⟩⟩

/-! ### arguments, displays -/
def dNil : DA := fun _ S P => P [] S
def dCons (a : DE) (r : DA) : DA := fun ρ S P => a ρ S fun x S1 => r ρ S1 fun xs S2 => P (x :: xs) S2
variable {es : List Expr} {ds : DA}
theorem ja_nil : JA X [] dNil := ja_of pa_nil fun σ H Q h0_ => El54 h0_ fun ρ I S F P rs ok h q => q _ _ _ _ _ h (Same.refl I) ok RepL.nil
theorem ja_cons (ha : JE X a da) (hr : JA X es ds) (hs : starEach (a :: es) X.env = (false, eval a X.env) :: starEach es X.env := by rfl) : JA X (a :: es) (dCons da ds) :=
  ja_of (pa_cons ha hr hs) fun σ H Q h0_ => El54 h0_ fun ρ I S F P rs ok h q => ⟨ρ, I, S, F, _, rs, ok, h, fun x S1 v I1 H1 h1 e1 ok1 r1 => ⟨ρ, I1, S1, F, _, rs.mono e1, ok1, h1, fun xs S2 vs I2 H2 h2 e2 ok2 r2 =>
    q _ _ _ _ _ h2 (e1.trans e2) ok2 (RepL.cons (r1.mono e2) r2)⟩⟩
def dTup (a : DA) : DE := fun ρ S P => a ρ S fun xs S1 => xs.length ≤ 100000 ∧ P (.tup xs) S1
def dLst (a : DA) : DE := fun ρ S P => a ρ S fun xs S1 => xs.length ≤ 100000 ∧ P (.lst xs) S1
/-- a list that is to change -/
def dLstM (a : DA) : DE := fun ρ S P => a ρ S fun xs S1 => xs.length ≤ 100000 ∧ ∀ p, S1 p = none → P (.obj p) (supd S1 p (.lst xs))
theorem line5 {n : Nat} (h : n ≤ 100000) : n ≤ sizeLine := Nat.le_trans h (by decide)
theorem je_tup {x1} (h : JA X es ds) : JE X (.Tuple es x1 pos) (dTup ds) :=
  je_of (pe_tup h) fun σ H Q h0_ => El54 h0_ fun ρ I S F P rs ok hh q => ⟨ρ, I, S, F, _, rs, ok, hh, fun xs S1 vs I1 H1 ⟨hl, h1⟩ e1 ok1 r1 =>
    ⟨line5 (by rw [r1.len]; exact hl), fun p hp => q _ _ _ _ _ h1 (e1.trans (same_new (ok1.freshI hp))) (ok1.newI hp) (rep_new_tup (ok1.freshI hp) r1)⟩⟩
theorem je_lst (h : JA X es ds) : JE X (.List es pos) (dLst ds) :=
  je_of (pe_lst h) fun σ H Q h0_ => El54 h0_ fun ρ I S F P rs ok hh q => ⟨ρ, I, S, F, _, rs, ok, hh, fun xs S1 vs I1 H1 ⟨hl, h1⟩ e1 ok1 r1 =>
    ⟨line5 (by rw [r1.len]; exact hl), fun p hp => q _ _ _ _ _ h1 (e1.trans (same_new (ok1.freshI hp))) (ok1.newI hp) (rep_new_lst (ok1.freshI hp) r1)⟩⟩
theorem je_lstM (h : JA X es ds) : JE X (.List es pos) (dLstM ds) :=
  je_of (pe_lst h) fun σ H Q h0_ => El54 h0_ fun ρ I S F P rs ok hh q => ⟨ρ, I, S, F, _, rs, ok, hh, fun xs S1 vs I1 H1 ⟨hl, h1⟩ e1 ok1 r1 =>
    ⟨line5 (by rw [r1.len]; exact hl), fun p hp => q _ _ _ _ _ (h1 p (ok1.freshS hp)) e1 (ok1.newM hp r1) (by simp only [Rep])⟩⟩

/-! ### calls -/
def dCall (sp : DSp) (dv : List D) (a : DA) : DE := fun ρ S P => a ρ S fun xs S1 => sp (xs ++ dv) S1 P
abbrev FnD (P : Program) (w : World) (K : PySem.W.Frag) (mg : Str → Option Value) (base : Heap) (k : Nat) (f : Addr) (fd : FuncData) (ps : List Str) (sp : DSp) : Prop := DG.FnG P w K mg base CX0 k f fd ps (upSp K sp)
theorem je_call {k : Nat} {f : Addr} {fd : FuncData} {ps : List Str} {sp : DSp} {dv : List D} {dvs : List V} {dd : List Value} {x : Str} {p : Pos} (G : FnD X.prog X.w X.K X.mg X.base k f fd ps sp) (hr : DG.RoomG k X.A) (hg : Gl X x) (hm : X.mg x = some (.ref f)) (hk : PySem.W.keepIn X.K (.ref f) = true)
    (hb : Binds X.K fd ps dd) (hd : Vals dvs dd) (hdv : ∀ I, RepL X.K I dv dvs) (ha : JA X (a :: es) ds) (hdb : (x == ("__debug__" : Str)) = false := by decide) (he : starEach (a :: es) X.env = (false, eval a X.env) :: starEach es X.env := by rfl)
    (hpl : (backTo pos (starEach es X.env)).any (·.1) = false := by rfl) : JE X (.Call (.Name x p) (a :: es) [] pos) (dCall sp dv ds) :=
  je_of (DG.pe_call G hr hg hm hk hb hd pass0 ha hdb he hpl) fun σ H Q h0_ => El54 h0_ fun ρ I S F P rs ok h q => ⟨ρ, I, S, F, _, rs, ok, h, fun xs S1 vs I1 H1 h1 e1 ok1 r1 => ⟨_, I1, S1, F, P, r1.app (hdv I1), ok1, h1, q.mono e1⟩⟩
/-- a built-in's call, by its rule -/
abbrev DC := List D → Store → (D → Store → Prop) → Prop
def ImpC (K : PySem.W.Frag) (r : List V → Hp → VK → Prop) (o : DC) : Prop := ∀ xs vs I S F H P Q, Ok K I S F H → RepL K I xs vs → o xs S P → Sees K I F P Q → r vs H Q
def dCB (o : DC) (a : DA) : DE := fun ρ S P => a ρ S fun xs S1 => o xs S1 P
theorem up_cb {K : PySem.W.Frag} {r : List V → Hp → VK → Prop} {o : DC} (i : ImpC K r o) : ∀ σ H Q, upE K (dCB o ds) σ H Q → tCB r (upA K ds) σ H Q := fun σ H Q h0_ => El54 h0_ fun ρ I S F P rs ok h q =>
  ⟨ρ, I, S, F, _, rs, ok, h, fun xs S1 vs I1 H1 h1 e1 ok1 r1 => i xs vs I1 S1 F H1 P Q ok1 r1 h1 (q.mono e1)⟩
theorem je_callB {r : List V → Hp → VK → Prop} {o : DC} {id : String} {x : Str} {p : Pos} (hc : CallR X (.builtin id) r) (i : ImpC X.K r o) (hg : Gl X x) (hm : X.mg x = none) (hv : bootBuiltins x = some (.builtin id)) (ha : JA X (a :: es) ds) (hn : x ≠ "__name__" := by decide) (hdb : (x == ("__debug__" : Str)) = false := by decide)
    (hs : starEach (a :: es) X.env = (false, eval a X.env) :: starEach es X.env := by rfl) (hpl : (backTo pos (starEach es X.env)).any (·.1) = false := by rfl) : JE X (.Call (.Name x p) (a :: es) [] pos) (dCB o ds) := je_of (pe_callB hc hg hm hv ha hn hdb hs hpl) (up_cb i)
theorem je_callTy {r : List V → Hp → VK → Prop} {o : DC} {T : String} {x : Str} {p : Pos} (hc : CallR X (.type T) r) (i : ImpC X.K r o) (hg : Gl X x) (hm : X.mg x = none) (hv : bootBuiltins x = some (.type T)) (ha : JA X (a :: es) ds) (hn : x ≠ "__name__" := by decide) (hdb : (x == ("__debug__" : Str)) = false := by decide)
    (hs : starEach (a :: es) X.env = (false, eval a X.env) :: starEach es X.env := by rfl) (hpl : (backTo pos (starEach es X.env)).any (·.1) = false := by rfl) : JE X (.Call (.Name x p) (a :: es) [] pos) (dCB o ds) := je_of (pe_callTy hc hg hm hv ha hn hdb hs hpl) (up_cb i)
end
end DL

namespace DL
open PySem PySem.Spec PyProof.Rows L2

/-! ### statements -/
def dNext : DS := fun DD ρ S => DD.nx ρ S
def dSeq (t u : DS) : DS := fun DD ρ S => t { DD with nx := u DD } ρ S
def dDrop (d : DE) : DS := fun DD ρ S => d ρ S fun _ S1 => DD.nx ρ S1
def dRet (d : DE) : DS := fun DD ρ S => d ρ S DD.rt
/-- what is given back is to change no more -/
def dRetZ (d : DE) : DS := fun DD ρ S => d ρ S fun x S1 => match x with
  | .obj p => ∃ ds, S1 p = some (.lst ds) ∧ DD.rt (.lst ds) (sdel S1 p)
  | _ => False
def dRetN : DS := fun DD _ S => DD.rt .non S
def dIfS (c : DT) (t u : DS) : DS := fun DD ρ S => c ρ S fun b S1 => if b = true then t DD ρ S1 else u DD ρ S1
def dNever : DS := fun _ _ _ => False
section
variable {X : Cx} {pos : Pos} {st : Stmt} {sts : List Stmt} {t u : DS} {e : Expr} {de : DE} {dc : DT}
theorem jss_nil : JSs X [] dNext := jss_of pss_nil fun D σ H h0_ => El54 h0_ fun ρ I S F DD rs ok h q => q.nx _ _ _ _ _ h (Same.refl I) ok rs
theorem jss_cons (h1 : JS X st t) (h2 : JSs X sts u) : JSs X (st :: sts) (dSeq t u) :=
  jss_of (pss_cons h1 h2) fun D σ H h0_ => El54 h0_ fun ρ I S F DD rs ok h q =>
    ⟨ρ, I, S, F, _, rs, ok, h, ⟨fun ρ1 S1 σ1 I1 H1 h1 e1 ok1 rs1 => ⟨ρ1, I1, S1, F, DD, rs1, ok1, h1, q.mono e1⟩, q.rt, q.bk, q.ct⟩⟩
theorem jss_one (h1 : JS X st t) : JSs X [st] t := pss_one h1
theorem js_expr (he : JE X e de) (hs : swapsWith e none pos.line X.env = pure false := by rfl) : JS X (.Expr e pos) (dDrop de) :=
  js_of (ps_expr he hs) fun D σ H h0_ => El54 h0_ fun ρ I S F DD rs ok h q => ⟨ρ, I, S, F, _, rs, ok, h, fun x S1 v I1 H1 h1 e1 ok1 r1 => q.nx _ _ _ _ _ h1 e1 ok1 (rs.mono e1)⟩
theorem js_ret (he : JE X e de) : JS X (.Return (some e) pos) (dRet de) :=
  js_of (ps_ret he) fun D σ H h0_ => El54 h0_ fun ρ I S F DD rs ok h q => ⟨ρ, I, S, F, _, rs, ok, h, q.rt⟩
theorem js_retZ (he : JE X e de) : JS X (.Return (some e) pos) (dRetZ de) :=
  js_of (ps_ret he) fun D σ H h0_ => El54 h0_ fun ρ I S F DD rs ok h q => ⟨ρ, I, S, F, _, rs, ok, h, fun x S1 v I1 H1 h1 e1 ok1 r1 => by
    cases x with
    | obj p =>
      obtain ⟨ds, e, h2⟩ := h1
      obtain ⟨xs, rl, i0, ok2⟩ := ok1.freeze e
      cases r1.obj_of
      exact q.rt _ _ _ _ _ h2 (e1.trans (same_new i0)) ok2 (rep_new_lst i0 rl)
    | _ => exact h1.elim⟩
theorem js_if {c : Expr} {a b : List Stmt} (hc : JT X c dc) (ha : JSs X a t) (hb : JSs X b u) : JS X (.If c a b pos) (dIfS dc t u) :=
  js_of (ps_if hc ha hb) fun D σ H h0_ => El54 h0_ fun ρ I S F DD rs ok h q => ⟨ρ, I, S, F, _, rs, ok, h, fun c S1 I1 H1 h1 e1 ok1 => by
    cases c with
    | true => exact ⟨ρ, I1, S1, F, DD, rs.mono e1, ok1, h1, q.mono e1⟩
    | false => exact ⟨ρ, I1, S1, F, DD, rs.mono e1, ok1, h1, q.mono e1⟩⟩
theorem jss_never : JSs X sts dNever := jss_of pss_never fun D σ H h0_ => El54 h0_ fun ρ I S F DD rs ok h q => h

/-! ### targets -/
/-- names, and tuples of such -/
inductive Tgt where
  | nm (i : Nat)
  | tp (ts : List Tgt)
mutual
def Tgt.slots : Tgt → List Nat
  | .nm i => [i]
  | .tp ts => Tgt.slotsL ts
def Tgt.slotsL : List Tgt → List Nat
  | [] => []
  | t :: ts => t.slots ++ Tgt.slotsL ts
end
mutual
def Tgt.put : Tgt → D → DSt → Option DSt
  | .nm i, x, ρ => some (ρ.set i (some x))
  | .tp ts, .tup xs, ρ => Tgt.putL ts xs ρ
  | .tp ts, .lst xs, ρ => Tgt.putL ts xs ρ
  | .tp _, _, _ => none
def Tgt.putL : List Tgt → List D → DSt → Option DSt
  | [], [], ρ => some ρ
  | t :: ts, x :: xs, ρ => (t.put x ρ).bind fun ρ' => Tgt.putL ts xs ρ'
  | _, _, _ => none
end
/-- σ' is σ but at the slots vs -/
def But (vs : List Nat) (σ σ' : L2.St) : Prop := σ'.length = σ.length ∧ ∀ i, i ∉ vs → σ'[i]? = σ[i]?
theorem wipe_get (σ : L2.St) (i : Nat) : ∀ vs : List Nat, (L2.wipe σ vs)[i]? = if i ∈ vs then (if i < σ.length then some none else none) else σ[i]?
  | [] => by simp [L2.wipe]
  | v :: vs => by
    have ih := wipe_get σ i vs
    unfold L2.wipe
    by_cases h : v = i
    · subst h
      by_cases hl : v < σ.length
      · rw [List.getElem?_set_self (by rw [L2.wipe_length]; exact hl), if_pos (by simp), if_pos hl]
      · rw [List.getElem?_eq_none (by rw [List.length_set, L2.wipe_length]; omega), if_pos (by simp), if_neg hl]
    · rw [List.getElem?_set_ne h, ih]
      have : (i ∈ v :: vs) ↔ i ∈ vs := by simp [Ne.symm h]
      simp only [this]
theorem But.wipe {vs : List Nat} {σ σ' : L2.St} (h : But vs σ σ') : L2.wipe σ' vs = L2.wipe σ vs := by
  apply List.ext_getElem?
  intro i
  rw [wipe_get, wipe_get, h.1]
  split
  · rfl
  · rename_i hi; exact h.2 i hi
def upG (K : PySem.W.Frag) (t : Tgt) : TG := fun v σ H Q => ∃ ρ ρ' I S F x, RepS K I ρ σ ∧ Ok K I S F H ∧ Rep K I x v ∧ t.put x ρ = some ρ' ∧ ∀ σ', RepS K I ρ' σ' → But t.slots σ σ' → Q σ' H
def upGs (K : PySem.W.Frag) (ts : List Tgt) : TGs := fun vs σ H Q => ∃ ρ ρ' I S F xs, RepS K I ρ σ ∧ Ok K I S F H ∧ RepL K I xs vs ∧ Tgt.putL ts xs ρ = some ρ' ∧ ∀ σ', RepS K I ρ' σ' → But (Tgt.slotsL ts) σ σ' → Q σ' H
abbrev JG (X : Cx) (e : Expr) (t : Tgt) : Prop := PG X e (upG X.K t)
abbrev JGs (X : Cx) (es : List Expr) (ts : List Tgt) : Prop := PGs X es (upGs X.K ts)
theorem jg_of {X : Cx} {e : Expr} {t u : TG} (h : PG X e t) (i : ∀ v σ H Q, u v σ H Q → t v σ H Q) : PG X e u := ⟨by
  intro pins s σ H v x Q I r q
  exact h.run pins s σ H v x Q I r (i _ _ _ _ q)⟩
theorem jgs_of {X : Cx} {e : List Expr} {t u : TGs} (h : PGs X e t) (i : ∀ v σ H Q, u v σ H Q → t v σ H Q) : PGs X e u := ⟨by
  intro pins s σ H v x Q I r q
  exact h.run pins s σ H v x Q I r (i _ _ _ _ q)⟩
theorem jg_name (i : Nat) {x : Str} (hN : X.N.Nodup) (hi : X.N[i]? = some x) (hx : Loc X.env.scope x) (hf : X.fn x = true ∨ X.env.scope.names.lookup x = some .local := by first | exact .inl rfl | exact .inr rfl | assumption) : JG X (.Name x pos) (.nm i) :=
  jg_of (pg_name hN hi hx hf) fun v σ H Q ⟨ρ, ρ', I, S, F, x, rs, ok, r, hp, q⟩ => by
    simp only [Tgt.put, Option.some.injEq] at hp
    subst hp
    refine q _ (rs.set i r) ⟨by simp, fun j hj => ?_⟩
    rw [List.getElem?_set_ne]
    intro e
    exact hj (by simp [Tgt.slots, e])
theorem jgs_nil : JGs X [] [] := jgs_of pgs_nil fun v σ H Q ⟨ρ, ρ', I, S, F, xs, rs, ok, r, hp, q⟩ => by
  cases xs with
  | nil =>
    simp only [Tgt.putL, Option.some.injEq] at hp
    subst hp
    simp only [RepL] at r
    exact ⟨r, q σ rs ⟨rfl, fun _ _ => rfl⟩⟩
  | cons x xs => simp [Tgt.putL] at hp
theorem jgs_cons {es : List Expr} {t : Tgt} {ts : List Tgt} (h1 : JG X e t) (h2 : JGs X es ts) (hs : (assignEach (e :: es) X.env).map (·.2) = assign e X.env :: (assignEach es X.env).map (·.2) := by rfl) : JGs X (e :: es) (t :: ts) :=
  jgs_of (pgs_cons h1 h2 hs) fun v σ H Q ⟨ρ, ρ', I, S, F, xs, rs, ok, r, hp, q⟩ => by
    cases xs with
    | nil => simp [Tgt.putL] at hp
    | cons x xs =>
      simp only [Tgt.putL] at hp
      cases e1 : t.put x ρ with
      | none => rw [e1] at hp; cases hp
      | some ρ1 =>
        rw [e1] at hp
        have hp : Tgt.putL ts xs ρ1 = some ρ' := hp
        simp only [RepL] at r
        obtain ⟨w, rr, rfl, r1, r2⟩ := r
        refine ⟨w, rr, rfl, ρ, ρ1, I, S, F, x, rs, ok, r1, e1, fun σ1 rs1 b1 => ⟨ρ1, ρ', I, S, F, xs, rs1, ok, r2, hp, fun σ2 rs2 b2 => q σ2 rs2 ⟨b2.1.trans b1.1, fun i hi => ?_⟩⟩⟩
        have hi2 : i ∉ t.slots ∧ i ∉ Tgt.slotsL ts := by
          simp only [Tgt.slotsL, List.mem_append, not_or] at hi
          exact hi
        rw [b2.2 i hi2.2, b1.2 i hi2.1]
theorem pg_or {X : Cx} {e : Expr} {t u : TG} (h : PG X e t) (h' : PG X e u) : PG X e (fun v σ H Q => t v σ H Q ∨ u v σ H Q) := ⟨by
  intro pins s σ H v w Q I r hw
  rcases hw with hw | hw
  · exact h.run pins s σ H v w Q I r hw
  · exact h'.run pins s σ H v w Q I r hw⟩
theorem jg_tup {es : List Expr} {k : Nat} {ts : List Tgt} {n : Nat} (hc : X.calm = true) (h : JGs X es ts) (hl : ts.length = n := by rfl)
    (hn : (assignEach es X.env).length = n := by rfl) (hst : (assignEach es X.env).findIdx? (·.1) = none := by rfl) : JG X (.Tuple es k pos) (.tp ts) :=
  jg_of (pg_or (pg_tup hc h hn hst) (pg_unl hc h hn hst)) fun v σ H Q ⟨ρ, ρ', I, S, F, x, rs, ok, r, hp, q⟩ => by
    have key : ∀ (ts : List Tgt) (xs : List D) (ρ : DSt), Tgt.putL ts xs ρ = some ρ' → xs.length = ts.length := by
      intro ts
      induction ts with
      | nil => intro xs ρ h; cases xs with
        | nil => rfl
        | cons _ _ => simp [Tgt.putL] at h
      | cons t ts ih => intro xs ρ h; cases xs with
        | nil => simp [Tgt.putL] at h
        | cons y ys =>
          simp only [Tgt.putL] at h
          cases e1 : t.put y ρ with
          | none => rw [e1] at h; cases h
          | some ρ1 => rw [e1] at h; simp [ih ys ρ1 h]
    cases x with
    | tup xs =>
      simp only [Tgt.put] at hp
      obtain ⟨a, vs, rfl, hs, rl⟩ := r.tup_of
      have hle := key ts xs ρ hp
      refine .inl ⟨a, vs, rfl, sqT_same ok.same hs, by rw [rl.len, hle, hl], ρ, ρ', I, S, F, xs, rs, ok, rl, hp, fun σ' rs' b => q σ' rs' b⟩
    | lst xs =>
      simp only [Tgt.put] at hp
      obtain ⟨a, vs, rfl, hs, rl⟩ := r.lst_of
      have hle := key ts xs ρ hp
      refine .inr ⟨a, vs, rfl, .of (ok.i _ _ hs), by rw [rl.len, hle, hl], ρ, ρ', I, S, F, xs, rs, ok, rl, hp, fun σ' rs' b => q σ' rs' b⟩
    | _ => simp [Tgt.put] at hp

/-! ### assignments -/
def dSet (i : Nat) (d : DE) : DS := fun DD ρ S => d ρ S fun x S1 => DD.nx (ρ.set i (some x)) S1
def dAsg (t : Tgt) (d : DE) : DS := fun DD ρ S => d ρ S fun x S1 => match t.put x ρ with
  | some ρ' => DD.nx ρ' S1
  | none => False
theorem js_set (i : Nat) {x : Str} {pos' : Pos} (hN : X.N.Nodup) (hi : X.N[i]? = some x) (hx : Loc X.env.scope x) (he : JE X e de) (hs : swapsWith e (some (.Name x pos')) pos.line X.env = pure false := by rfl) (hf : X.fn x = true ∨ X.env.scope.names.lookup x = some .local := by first | exact .inl rfl | exact .inr rfl | assumption) :
    JS X (.Assign [.Name x pos'] e pos) (dSet i de) :=
  js_of (ps_set (i := i) hN hi hx he hs hf) fun D σ H h0_ => El54 h0_ fun ρ I S F DD rs ok h q => ⟨ρ, I, S, F, _, rs, ok, h, fun x S1 v I1 H1 h1 e1 ok1 r1 => q.nx _ _ _ _ _ h1 e1 ok1 ((rs.mono e1).set i r1)⟩
theorem js_asg {tg : Expr} {t : Tgt} (he : JE X e de) (hg : JG X tg t) (hs : swapsWithSole [tg] e pos.line X.env = pure false := by rfl) (hw : swappedStores [tg] e X.env = pure none := by rfl)
    (h1 : (assignEach [tg] X.env).map (·.2) = [assign tg X.env] := by rfl) : JS X (.Assign [tg] e pos) (dAsg t de) :=
  js_of (ps_asg he hg hs hw h1) fun D σ H h0_ => El54 h0_ fun ρ I S F DD rs ok h q => ⟨ρ, I, S, F, _, rs, ok, h, fun x S1 v I1 H1 h1 e1 ok1 r1 => by
    cases e2 : t.put x ρ with
    | none => rw [e2] at h1; exact h1.elim
    | some ρ' =>
      rw [e2] at h1
      exact ⟨ρ, ρ', I1, S1, F, x, rs.mono e1, ok1, r1, e2, fun σ' rs' _ => q.nx _ _ _ _ _ h1 e1 ok1 rs'⟩⟩
def dPar (i j : Nat) (a : DA) : DS := fun DD ρ S => a ρ S fun xs S1 => match xs with
  | [x, y] => DD.nx ((ρ.set i (some x)).set j (some y)) S1
  | _ => False
theorem js_par (i j : Nat) {x y : Str} {a b : Expr} {da : DA} {px py pt : Pos} {kt k2 pt2} (hc : X.calm = true) (hN : X.N.Nodup) (hi : X.N[i]? = some x) (hj : X.N[j]? = some y) (hij : i ≠ j)
    (hx : X.env.scope.names.lookup x = some .local) (hy : X.env.scope.names.lookup y = some .local) (ha : JA X [a, b] da)
    (hw : swappedStores [.Tuple [.Name x px, .Name y py] kt pt] (.Tuple [a, b] k2 pt2) X.env = pure (some [x, y]))
    (hs : swapsWithSole [.Tuple [.Name x px, .Name y py] kt pt] (.Tuple [a, b] k2 pt2) pos.line X.env = pure false := by rfl) :
    JS X (.Assign [.Tuple [.Name x px, .Name y py] kt pt] (.Tuple [a, b] k2 pt2) pos) (dPar i j da) :=
  js_of (ps_par hc hN hi hj hij hx hy ha hw hs) fun D σ H h0_ => El54 h0_ fun ρ I S F DD rs ok h q => ⟨ρ, I, S, F, _, rs, ok, h, fun xs S1 vs I1 H1 h1 e1 ok1 r1 => by
    match xs, h1 with
    | [x, y], h1 =>
      obtain ⟨v, w, rfl, ra, rb⟩ := r1.inv2
      exact ⟨v, w, rfl, q.nx _ _ _ _ _ h1 e1 ok1 (((rs.mono e1).set i ra).set j rb)⟩⟩
/-- x op= e -/
def ImpIp (K : PySem.W.Frag) (r : TIp) (o : D2) : Prop := ∀ x y v w I S F H P Q, Ok K I S F H → Rep K I x v → Rep K I y w → o x y S P → Sees K I F P Q → r v w H Q
def dAug (i : Nat) (o : D2) (d : DE) : DS := fun DD ρ S => match ρ[i]? with
  | some (some x) => d ρ S fun y S1 => o x y S1 fun z S2 => DD.nx (ρ.set i (some z)) S2
  | _ => False
theorem js_aug (i : Nat) {x : Str} {op : Operator} {ti : TIp} {o : D2} {pos' : Pos} (hN : X.N.Nodup) (hi : X.N[i]? = some x) (hx : Loc X.env.scope x) (he : JE X e de) (ho : PIp X op ti) (im : ImpIp X.K ti o) (hf : X.fn x = true ∨ X.env.scope.names.lookup x = some .local := by first | exact .inl rfl | exact .inr rfl | assumption) :
    JS X (.AugAssign (.Name x pos') op e pos) (dAug i o de) :=
  js_of (ps_aug (i := i) hN hi hx he ho hf) fun D σ H h0_ => El54 h0_ fun ρ I S F DD rs ok h q => by
    unfold dAug at h
    split at h
    · rename_i x ex
      obtain ⟨v, e1, r⟩ := rs.2 i x ex
      refine ⟨v, e1, ρ, I, S, F, _, rs, ok, h, fun y S1 w I1 H1 h1 e1 ok1 r1 => ?_⟩
      exact im x y v w I1 S1 F H1 _ _ ok1 (r.mono e1) r1 h1 fun z S2 u I2 H2 h2 e2 ok2 r2 => q.nx _ _ _ _ _ h2 (e1.trans e2) ok2 ((rs.mono (e1.trans e2)).set i r2)
    · exact h.elim

/-! ### while -/
def dWhile (c : DT) (b : DS) : DS := fun DD ρ S => ∃ W : Nat → DSt → Store → Prop, (∃ m, W m ρ S) ∧ ∀ m ρ S, W m ρ S →
  c ρ S fun k S1 => if k = true then b { DD with nx := fun ρ' S' => ∃ m', m' < m ∧ W m' ρ' S', ct := fun ρ' S' => ∃ m', m' < m ∧ W m' ρ' S', bk := DD.nx } ρ S1 else DD.nx ρ S1
theorem js_while {c : Expr} {body : List Stmt} (hp : PassesOwn (model X.prog X.w) X.A X.env X.xe) (hc : JT X c dc) (hb : JSs X body t) : JS X (.While c body [] pos) (dWhile dc t) :=
  js_of (ps_while hp hc hb) fun D σ H ⟨ρ, I, S, F, DD, rs, ok, ⟨W, ⟨m0, w0⟩, turn⟩, q⟩ => by
    refine ⟨fun m σ H => ∃ ρ I' S, Same I I' ∧ RepS X.K I' ρ σ ∧ Ok X.K I' S F H ∧ W m ρ S, ⟨m0, ρ, I, S, Same.refl I, rs, ok, w0⟩, ?_⟩
    rintro m σ1 H1 ⟨ρ1, I1, S1, e1, rs1, ok1, w1⟩
    refine ⟨ρ1, I1, S1, F, _, rs1, ok1, turn m ρ1 S1 w1, fun k S2 I2 H2 h2 e2 ok2 => ?_⟩
    cases k with
    | true =>
      rw [if_pos rfl] at h2 ⊢
      refine ⟨fun σ' H' => ∃ m', m' < m ∧ ∃ ρ I' S, Same I I' ∧ RepS X.K I' ρ σ' ∧ Ok X.K I' S F H' ∧ W m' ρ S, fun σ' H' h => h, ρ1, I2, S2, F, _, rs1.mono e2, ok2, h2, ⟨?_, ?_, ?_, ?_⟩⟩
      · intro ρ3 S3 σ3 I3 H3 ⟨m', hm, w3⟩ e3 ok3 rs3
        exact ⟨m', hm, ρ3, I3, S3, (e1.trans e2).trans e3, rs3, ok3, w3⟩
      · exact q.rt.mono (e1.trans e2)
      · exact q.nx.mono (e1.trans e2)
      · intro ρ3 S3 σ3 I3 H3 ⟨m', hm, w3⟩ e3 ok3 rs3
        exact ⟨m', hm, ρ3, I3, S3, (e1.trans e2).trans e3, rs3, ok3, w3⟩
    | false =>
      rw [if_neg Bool.false_ne_true] at h2 ⊢
      exact q.nx _ _ _ _ _ h2 (e1.trans e2) ok2 (rs1.mono e2)

/-! ### what is walked -/
/-- a list that may change is walked: it stays meanwhile -/
def PinOk : Option (Store → Prop) → Store → Prop
  | none, _ => True
  | some p, S => p S
/-- J walks the data ds -/
structure ItOk (K : PySem.W.Frag) (I : Hp) (J : It) (ds : List D) (pin : Option (Store → Prop)) : Prop where
  go : ∀ I2 S F H, Same I I2 → Ok K I2 S F H → PinOk pin S → ∀ i d, ds[i]? = some d → J.go i H ∧ ∀ x H', J.yld i H x H' → ∃ I3, Same I2 I3 ∧ Ok K I3 S F H' ∧ Rep K I3 d x
  stop : ∀ I2 S F H, Same I I2 → Ok K I2 S F H → PinOk pin S → ∀ i, i = ds.length → J.stop i H
theorem ItOk.mono {K : PySem.W.Frag} {I I' : Hp} {J : It} {ds : List D} {pin : Option (Store → Prop)} (h : ItOk K I J ds pin) (e : Same I I') : ItOk K I' J ds pin :=
  ⟨fun I2 S F H e2 => h.go I2 S F H (e.trans e2), fun I2 S F H e2 => h.stop I2 S F H (e.trans e2)⟩
def SeesI (K : PySem.W.Frag) (I F : Hp) (P : List D → Option (Store → Prop) → Store → Prop) (R : It → Hp → Prop) : Prop := ∀ ds pin S' I' H' J, P ds pin S' → Same I I' → Ok K I' S' F H' → ItOk K I' J ds pin → R J H'
theorem SeesI.mono {K : PySem.W.Frag} {I I' F : Hp} {P : List D → Option (Store → Prop) → Store → Prop} {R : It → Hp → Prop} (h : SeesI K I F P R) (e : Same I I') : SeesI K I' F P R := fun ds pin S' I2 H' J p e2 => h ds pin S' I2 H' J p (e.trans e2)
def upI (K : PySem.W.Frag) (d : DI) : TI := fun σ H R => ∃ ρ I S F P, RepS K I ρ σ ∧ Ok K I S F H ∧ d ρ S P ∧ SeesI K I F P R
abbrev JI (X : Cx) (tg iter : Expr) (d : DI) : Prop := PI X tg iter (upI X.K d)
theorem ji_of {X : Cx} {tg e : Expr} {t u : TI} (h : PI X tg e t) (i : ∀ σ H R, u σ H R → t σ H R) : PI X tg e u := ⟨fun pins s σ H R I q => h.run pins s σ H R I (i _ _ _ q)⟩

/-! ### for -/
/-- a loop over the data ds: W by the turn -/
def ForB (t : Tgt) (b : DS) (DD : DEnds) (ds : List D) (ρ : DSt) (S1 : Store) : Prop := ∃ W : Nat → DSt → Store → Prop, W 0 ρ S1 ∧
  (∀ i d ρ S, ds[i]? = some d → W i ρ S → ∃ ρ', t.put d ρ = some ρ' ∧ b { DD with nx := W (i + 1), ct := W (i + 1), bk := DD.nx } ρ' S) ∧ ∀ ρ S, W ds.length ρ S → DD.nx ρ S
/-- the same, of a list that may change: p, that it stays -/
def ForP (t : Tgt) (b : DS) (DD : DEnds) (ds : List D) (p : Store → Prop) (ρ : DSt) (S1 : Store) : Prop := ∃ W : Nat → DSt → Store → Prop, W 0 ρ S1 ∧ (∀ i ρ S, W i ρ S → p S) ∧
  (∀ i d ρ S, ds[i]? = some d → W i ρ S → ∃ ρ', t.put d ρ = some ρ' ∧ b { DD with nx := W (i + 1), ct := W (i + 1), bk := DD.nx } ρ' S) ∧ ∀ ρ S, W ds.length ρ S → DD.nx ρ S
def ForN (t : Tgt) (b : DS) (DD : DEnds) (ds : List D) (pin : Option (Store → Prop)) (ρ : DSt) (S1 : Store) : Prop := match pin with
  | none => ForB t b DD ds ρ S1
  | some p => ForP t b DD ds p ρ S1
theorem ForN.all {t : Tgt} {b : DS} {DD : DEnds} {ds : List D} {pin : Option (Store → Prop)} {ρ : DSt} {S1 : Store} (h : ForN t b DD ds pin ρ S1) : ∃ W : Nat → DSt → Store → Prop, W 0 ρ S1 ∧ (∀ i ρ S, W i ρ S → PinOk pin S) ∧
    (∀ i d ρ S, ds[i]? = some d → W i ρ S → ∃ ρ', t.put d ρ = some ρ' ∧ b { DD with nx := W (i + 1), ct := W (i + 1), bk := DD.nx } ρ' S) ∧ ∀ ρ S, W ds.length ρ S → DD.nx ρ S := by
  cases pin with
  | none => obtain ⟨W, w0, w1, w2⟩ := h; exact ⟨W, w0, fun _ _ _ _ => trivial, w1, w2⟩
  | some p => exact h
def dFor (di : DI) (t : Tgt) (b : DS) : DS := fun DD ρ S => di ρ S fun ds pin S1 => ForN t b DD ds pin ρ S1
theorem js_for {tg iter : Expr} {body : List Stmt} {di : DI} {tt : Tgt} (hp : PassesOwn (model X.prog X.w) X.A X.env X.xe) (hc : X.calm = true) (hi : JI X tg iter di) (hg : JG X tg tt) (hb : JSs X body t)
    (hs : ∀ x, foldedSetIterable iter X.env x = pure x := by intro _; rfl) : JS X (.For tg iter body [] pos) (dFor di tt t) :=
  js_of (ps_for hp hc hi hg hb hs) fun D σ H h0_ => El54 h0_ fun ρ I S F DD rs ok h q => by
    refine ⟨ρ, I, S, F, _, rs, ok, h, fun ds pin S1 I1 H1 J hB e1 ok1 it => ?_⟩
    obtain ⟨W, w0, hpin, turn, fin⟩ := ForN.all hB
    refine ⟨fun i m σ H => m + i = ds.length ∧ ∃ ρ I' S, Same I1 I' ∧ RepS X.K I' ρ σ ∧ Ok X.K I' S F H ∧ W i ρ S, ⟨ds.length, by simp, ρ, I1, S1, Same.refl I1, rs.mono e1, ok1, w0⟩, ?_⟩
    rintro i m σ2 H2 ⟨em, ρ2, I2, S2, e2, rs2, ok2, w2⟩
    by_cases hi : i < ds.length
    · refine .inr ?_
      obtain ⟨g1, g2⟩ := it.go I2 S2 F H2 e2 ok2 (hpin _ _ _ w2) i ds[i] (List.getElem?_eq_getElem hi)
      obtain ⟨ρ3, hput, hbody⟩ := turn i ds[i] ρ2 S2 (List.getElem?_eq_getElem hi) w2
      refine ⟨g1, fun σ' H' => ∃ ρ I' S, Same I1 I' ∧ RepS X.K I' ρ σ' ∧ Ok X.K I' S F H' ∧ W (i + 1) ρ S, fun σ' H' h => ⟨m - 1, by omega, by omega, h⟩, fun x H3 hy => ?_⟩
      obtain ⟨I3, e3, ok3, r3⟩ := g2 x H3 hy
      refine ⟨ρ2, ρ3, I3, S2, F, ds[i], rs2.mono e3, ok3, r3, hput, fun σ3 rs3 _ => ?_⟩
      refine ⟨ρ3, I3, S2, F, _, rs3, ok3, hbody, ⟨?_, ?_, ?_, ?_⟩⟩
      · intro ρ4 S4 σ4 I4 H4 w4 e4 ok4 rs4
        exact ⟨ρ4, I4, S4, (e2.trans e3).trans e4, rs4, ok4, w4⟩
      · exact q.rt.mono (((e1.trans e2)).trans e3)
      · exact q.nx.mono (((e1.trans e2)).trans e3)
      · intro ρ4 S4 σ4 I4 H4 w4 e4 ok4 rs4
        exact ⟨ρ4, I4, S4, (e2.trans e3).trans e4, rs4, ok4, w4⟩
    · have e : i = ds.length := by omega
      subst e
      exact .inl ⟨it.stop I2 S2 F H2 e2 ok2 (hpin _ _ _ w2) _ rfl, q.nx _ _ _ _ _ (fin ρ2 S2 w2) (e1.trans e2) ok2 rs2⟩

/-! ### comprehensions -/
def dYes : DT := fun _ S P => P true S
abbrev JTs (X : Cx) (ifs : List Expr) (d : DT) : Prop := PTs X ifs (upT X.K d)
theorem jts_of {X : Cx} {e : List Expr} {t u : TT} (h : PTs X e t) (i : ∀ σ H Q, u σ H Q → t σ H Q) : PTs X e u := ⟨fun pins s σ H Q I q => h.run pins s σ H Q I (i _ _ _ q)⟩
theorem jts_nil : JTs X [] dYes := jts_of pts_nil fun σ H Q h0_ => El54 h0_ fun ρ I S F P rs ok h q => q _ _ _ _ h (Same.refl I) ok
theorem jts_one {c : Expr} (h : JT X c dc) : JTs X [c] dc := pts_one h
/-- the new list is one that changes no more -/
def LcB (t : Tgt) (tt : DT) (de : DE) (P : D → Store → Prop) (ds : List D) (ρ : DSt) (S1 : Store) : Prop := ds.length ≤ 100000 ∧ ∃ W : Nat → List D → Store → Prop, W 0 [] S1 ∧
  (∀ i d acc S, ds[i]? = some d → W i acc S → ∃ ρ', t.put d (dwipe ρ t.slots) = some ρ' ∧ tt ρ' S fun b S2 => if b = true then de ρ' S2 fun y S3 => W (i + 1) (acc ++ [y]) S3 else W (i + 1) acc S2) ∧ ∀ acc S, W ds.length acc S → P (.lst acc) S
def LcP (t : Tgt) (tt : DT) (de : DE) (P : D → Store → Prop) (ds : List D) (p : Store → Prop) (ρ : DSt) (S1 : Store) : Prop := ds.length ≤ 100000 ∧ ∃ W : Nat → List D → Store → Prop, W 0 [] S1 ∧ (∀ i acc S, W i acc S → p S) ∧
  (∀ i d acc S, ds[i]? = some d → W i acc S → ∃ ρ', t.put d (dwipe ρ t.slots) = some ρ' ∧ tt ρ' S fun b S2 => if b = true then de ρ' S2 fun y S3 => W (i + 1) (acc ++ [y]) S3 else W (i + 1) acc S2) ∧ ∀ acc S, W ds.length acc S → P (.lst acc) S
def LcN (t : Tgt) (tt : DT) (de : DE) (P : D → Store → Prop) (ds : List D) (pin : Option (Store → Prop)) (ρ : DSt) (S1 : Store) : Prop := match pin with
  | none => LcB t tt de P ds ρ S1
  | some p => LcP t tt de P ds p ρ S1
theorem LcN.all {t : Tgt} {tt : DT} {de : DE} {P : D → Store → Prop} {ds : List D} {pin : Option (Store → Prop)} {ρ : DSt} {S1 : Store} (h : LcN t tt de P ds pin ρ S1) : ds.length ≤ 100000 ∧ ∃ W : Nat → List D → Store → Prop, W 0 [] S1 ∧ (∀ i acc S, W i acc S → PinOk pin S) ∧
    (∀ i d acc S, ds[i]? = some d → W i acc S → ∃ ρ', t.put d (dwipe ρ t.slots) = some ρ' ∧ tt ρ' S fun b S2 => if b = true then de ρ' S2 fun y S3 => W (i + 1) (acc ++ [y]) S3 else W (i + 1) acc S2) ∧ ∀ acc S, W ds.length acc S → P (.lst acc) S := by
  cases pin with
  | none => obtain ⟨hl, W, w0, w1, w2⟩ := h; exact ⟨hl, W, w0, fun _ _ _ _ => trivial, w1, w2⟩
  | some p => exact h
def dLc (di : DI) (t : Tgt) (tt : DT) (de : DE) : DE := fun ρ S P => di ρ S fun ds pin S1 => LcN t tt de P ds pin ρ S1
theorem up_lc {X : Cx} {di : DI} {t : Tgt} {tt : DT} {de : DE} : ∀ σ H Q, upE X.K (dLc di t tt de) σ H Q → tLc (upI X.K di) (upG X.K t) (upT X.K tt) (upE X.K de) t.slots σ H Q := fun σ H Q h0_ => El54 h0_ fun ρ I S F P rs ok h q => by
  refine ⟨ρ, I, S, F, _, rs, ok, h, fun ds pin S1 I1 H1 J hB e1 ok1 it => fun Dd hD => ?_⟩
  obtain ⟨hlen, W, w0, hpin, turn, fin⟩ := LcN.all hB
  have fI : I1 Dd = none := ok1.freshI hD
  refine ⟨fun i m H => m + i = ds.length ∧ ∃ I' S' acc vs, Same I1 I' ∧ Ok X.K I' S' (upd F Dd (.lst vs)) H ∧ RepL X.K I' acc vs ∧ acc.length ≤ i ∧ W i acc S', ⟨ds.length, by simp, I1, S1, [], [], Same.refl I1, ok1.newF hD ⟨fun y z => (by cases z), fun y z => (by cases z)⟩, RepL.nil, Nat.le_refl _, w0⟩, ?_⟩
  rintro i m H2 ⟨em, I2, S2, acc, vs, e2, ok2, rl, hacc, w2⟩
  by_cases hi : i < ds.length
  · refine .inr ?_
    obtain ⟨g1, g2⟩ := it.go I2 S2 _ H2 e2 ok2 (hpin _ _ _ w2) i ds[i] (List.getElem?_eq_getElem hi)
    obtain ⟨ρ3, hput, hbody⟩ := turn i ds[i] acc S2 (List.getElem?_eq_getElem hi) w2
    refine ⟨g1, fun H' => ∃ I' S' acc vs, Same I1 I' ∧ Ok X.K I' S' (upd F Dd (.lst vs)) H' ∧ RepL X.K I' acc vs ∧ acc.length ≤ i + 1 ∧ W (i + 1) acc S', fun H' h => ⟨m - 1, by omega, by omega, h⟩, fun x H3 hy => ?_⟩
    obtain ⟨I3, e3, ok3, r3⟩ := g2 x H3 hy
    refine ⟨dwipe ρ t.slots, ρ3, I3, S2, _, ds[i], ((rs.mono e1).mono (e2.trans e3)).wipe _, ok3, r3, hput, fun σ3 rs3 b3 => ⟨by
      rw [b3.wipe]
      apply List.ext_getElem?
      intro j
      rw [wipe_get, wipe_get, L2.wipe_length]
      split <;> simp_all, ?_⟩⟩
    refine ⟨ρ3, I3, S2, _, _, rs3, ok3, hbody, fun b S4 I4 H4 h4 e4 ok4 => ?_⟩
    cases b with
    | true =>
      rw [if_pos rfl] at h4 ⊢
      refine ⟨ρ3, I4, S4, _, _, rs3.mono e4, ok4, h4, fun y S5 v I5 H5 h5 e5 ok5 r5 => ?_⟩
      have hF : (upd F Dd (.lst vs)) Dd = some (.lst vs) := upd_same
      refine ⟨vs, (ok5.f Dd _ hF).1, ?_, I5, S5, acc ++ [y], vs ++ [v], (((e2.trans e3).trans e4).trans e5), ?_, (rl.mono ((e3.trans e4).trans e5)).app (RepL.one r5), by simp; omega, h5⟩
      · rw [rl.len]
        have : (100000 : Nat) < sizeLine := by decide
        omega
      · have := ok5.writeF (o' := .lst (vs ++ [v])) hF ⟨fun y z => (by cases z), fun y z => (by cases z)⟩
        rwa [upd_upd] at this
    | false =>
      rw [if_neg Bool.false_ne_true] at h4 ⊢
      exact ⟨I4, S4, acc, vs, ((e2.trans e3).trans e4), ok4, rl.mono (e3.trans e4), by omega, h4⟩
  · have e : i = ds.length := by omega
    subst e
    refine .inl ⟨it.stop I2 S2 _ H2 e2 ok2 (hpin _ _ _ w2) _ rfl, ?_⟩
    have hF : (upd F Dd (.lst vs)) Dd = some (.lst vs) := upd_same
    have i2 : I2 Dd = none := (ok2.f Dd _ hF).2.1
    have ok3 := ok2.showF hF
    have ok4 : Ok X.K (upd I2 Dd (.lst vs)) S2 F H2 := by
      refine ⟨ok3.i, ok3.s, fun a x q => ?_⟩
      have ne : a ≠ Dd := fun z => by
        subst z
        rw [(ok1.freshF hD)] at q; cases q
      exact ok3.f a x (by show (if a = Dd then none else upd F Dd (.lst vs) a) = some x; rw [if_neg ne, upd_ne ne]; exact q)
    exact q _ _ _ _ _ (fin acc S2 w2) ((e1.trans e2).trans (same_new i2)) ok4 (rep_new_lst i2 rl)
theorem je_lc {elt tg iter : Expr} {ifs : List Expr} {scope : Scope} (own : List (Str × Nat)) {di : DI} {t : Tgt} {tt : DT} {de : DE} (hc : X.calm = true) (hN : X.N.Nodup) (hi : JI X tg iter di) (ok : BlkOk X.N X.env.scope scope own) (ho : own.map (·.2) = t.slots)
    (hg : ∀ (s : Shared) (H : Hp) (C : Addr) (cl : List (Str × Addr)) (fp : List Addr), JG (X.blk s H scope (compEnvC scope cl C X.env) fp) tg t) (ht : ∀ (s : Shared) (H : Hp) (C : Addr) (cl : List (Str × Addr)) (fp : List Addr), JTs (X.blk s H scope (compEnvC scope cl C X.env) fp) ifs tt)
    (he : ∀ (s : Shared) (H : Hp) (C : Addr) (cl : List (Str × Addr)) (fp : List Addr), JE (X.blk s H scope (compEnvC scope cl C X.env) fp) elt de) (hs : ∀ x, foldedSetIterable iter X.env x = pure x := by intro _; rfl) :
    JE X (.ListComp elt [⟨tg, iter, ifs, 0⟩] scope pos) (dLc di t tt de) :=
  je_of (pe_lc hc hN hi ok hg ht he hs) fun σ H Q h => by
    rw [ho]
    exact up_lc σ H Q h
theorem js_setLc (i : Nat) {y : Str} {py : Pos} {elt tg iter : Expr} {ifs : List Expr} {scope : Scope} (own : List (Str × Nat)) {spos : Pos} {di : DI} {t : Tgt} {tt : DT} {de : DE} (hc : X.calm = true) (hN : X.N.Nodup) (hy : X.N[i]? = some y) (hyl : X.env.scope.names.lookup y = some .local)
    (hsw : swapsWith (.ListComp elt [⟨tg, iter, ifs, 0⟩] scope pos) (some (.Name y py)) spos.line X.env = pure true) (hi : JI X tg iter di) (ok : BlkOk X.N X.env.scope scope own) (ho : own.map (·.2) = t.slots)
    (hg : ∀ (s : Shared) (H : Hp) (C : Addr) (cl : List (Str × Addr)) (fp : List Addr), JG (X.blk s H scope (compEnvC scope cl C X.env) fp) tg t) (ht : ∀ (s : Shared) (H : Hp) (C : Addr) (cl : List (Str × Addr)) (fp : List Addr), JTs (X.blk s H scope (compEnvC scope cl C X.env) fp) ifs tt)
    (he : ∀ (s : Shared) (H : Hp) (C : Addr) (cl : List (Str × Addr)) (fp : List Addr), JE (X.blk s H scope (compEnvC scope cl C X.env) fp) elt de) (hs : ∀ x, foldedSetIterable iter X.env x = pure x := by intro _; rfl) :
    JS X (.Assign [.Name y py] (.ListComp elt [⟨tg, iter, ifs, 0⟩] scope pos) spos) (dSet i (dLc di t tt de)) :=
  js_of (ps_setLc hc hN hy hyl hsw hi ok hg ht he hs) fun D σ H h0_ => El54 h0_ fun ρ I S F DD rs ok h q => by
    rw [ho]
    exact up_lc (X := X) σ H _ ⟨ρ, I, S, F, _, rs, ok, h, fun x S1 v I1 H1 h1 e1 ok1 r1 => q.nx _ _ _ _ _ h1 e1 ok1 ((rs.mono e1).set i r1)⟩
end

/-! ### a def keeps its promise -/
section
variable {P : Program} {w : World} {K : PySem.W.Frag} {mg : Str → Option Value} {base : Heap}
def dEnd (Q : D → Store → Prop) : DEnds := { nx := fun _ S => Q .non S, rt := Q }
theorem fn_d {x qual : Str} {st : Stmt} {f : Addr} {fd : FuncData} {N ps : List Str} {k : Nat} {sp : DSp} (F : Fun K x qual st f fd) (S : FnScope N ps (defScope st)) (len : ∀ ds S P, sp ds S P → ds.length = ps.length)
    (hbody : ∀ (cdv : Value) (A : Around) (outer : List Env) (s : Shared) (H : Hp) (E : XK), DG.RoomG k (A.deeper (envOfC qual (defScope st) s.heap.objs.size f cdv)) →
      ∃ d : DS, JSs (cxOf CX0 P w K mg base N qual (defScope st) f cdv A outer s H E).nox (defBody st) d ∧ ∀ ds S P, sp ds S P → d (dEnd P) (ds.map some ++ List.replicate (N.length - ds.length) none) S) : FnD P w K mg base (k + 1) f fd ps sp := by
  refine DG.fun_ok F S (fun vs H Q E h => ?_) (fun cdv A outer s H vs Q E hr h => ?_)
  · obtain ⟨ds, I, S, F, P, r, ok, h, q⟩ := h
    rw [r.len]
    exact len _ _ _ h
  · obtain ⟨ds, I, S', F', P', r, ok, h, q⟩ := h
    obtain ⟨d, h1, h2⟩ := hbody cdv A outer s H E hr
    refine ⟨_, h1, _, I, S', F', _, repS_start r, ok, h2 ds S' P' h, ⟨?_, q, ?_, ?_⟩⟩
    · intro ρ S2 σ I2 H2 p e2 ok2 _
      exact q _ _ _ _ _ p e2 ok2 rep_non
    · intro ρ S2 σ I2 H2 p e2 ok2 _
      exact p.elim
    · intro ρ S2 σ I2 H2 p e2 ok2 _
      exact p.elim
end
end DL

namespace DL
open PySem PySem.Spec PyProof.Rows L2

/-! ### lists and tuples as data -/
def lstOf (S : Store) : D → Option (List D)
  | .lst ds => some ds
  | .ext ds => some ds
  | .obj a => match S a with
    | some (.lst ds) => some ds
    | _ => none
  | _ => none
def seqOf (S : Store) : D → Option (List D)
  | .tup ds => some ds
  | x => lstOf S x
section
variable {K : PySem.W.Frag} {I F H : Hp} {S : Store}
theorem lst_sq (ok : Ok K I S F H) {x : D} {v : V} {ds : List D} (r : Rep K I x v) (h : lstOf S x = some ds) : ∃ a xs, v = .ref a ∧ SqL K H a xs ∧ RepL K I ds xs := by
  cases x with
  | lst es =>
    simp only [lstOf, Option.some.injEq] at h; subst h
    obtain ⟨a, xs, rfl, e, rl⟩ := r.lst_of
    exact ⟨a, xs, rfl, .of (ok.i _ _ e), rl⟩
  | ext es =>
    simp only [lstOf, Option.some.injEq] at h; subst h
    obtain ⟨a, xs, rfl, e, rl⟩ := r.ext_of
    exact ⟨a, xs, rfl, ok.same.seq e, rl⟩
  | obj a =>
    unfold lstOf at h
    cases e : S a with
    | none => simp [e] at h
    | some m =>
      cases m with
      | lst es =>
        simp [e] at h; subst h
        obtain ⟨_, xs, q, rl⟩ := ok.s a _ e
        exact ⟨a, xs, r.obj_of, .of q, rl⟩
      | _ => simp [e] at h
  | _ => simp [lstOf] at h
/-- one that can be added to, repeated: tracked by itself -/
theorem lst_hp (ok : Ok K I S F H) {x : D} {v : V} {ds : List D} (r : Rep K I x v) (h : lstOf S x = some ds) (ne : ∀ es, x ≠ .ext es) : ∃ a xs, v = .ref a ∧ H a = some (.lst xs) ∧ RepL K I ds xs := by
  cases x with
  | lst es =>
    simp only [lstOf, Option.some.injEq] at h; subst h
    obtain ⟨a, xs, rfl, e, rl⟩ := r.lst_of
    exact ⟨a, xs, rfl, ok.i _ _ e, rl⟩
  | ext es => exact absurd rfl (ne es)
  | obj a =>
    unfold lstOf at h
    cases e : S a with
    | none => simp [e] at h
    | some m =>
      cases m with
      | lst es =>
        simp [e] at h; subst h
        obtain ⟨_, xs, q, rl⟩ := ok.s a _ e
        exact ⟨a, xs, r.obj_of, q, rl⟩
      | _ => simp [e] at h
  | _ => simp [lstOf] at h
theorem tup_sq (ok : Ok K I S F H) {v : V} {ds : List D} (r : Rep K I (.tup ds) v) : ∃ a xs, v = .ref a ∧ SqT K H a xs ∧ RepL K I ds xs := by
  obtain ⟨a, xs, rfl, e, rl⟩ := r.tup_of
  exact ⟨a, xs, rfl, sqT_same ok.same e, rl⟩
end

/-! ### arithmetic -/
def MulB (i j : Int) : Prop := CMul i j ∨ CMulW i j
def DivB (j : Int) : Prop := j ≠ 0 ∧ j.natAbs.log2 < 9000
def dAdd : D2 := fun x y S P => match x, y with
  | .int i, .int j => P (.int (i + j)) S
  | .str a, .str b => a.length + b.length ≤ 100000 ∧ P (.str (a ++ b)) S
  | .tup xs, .tup ys => xs.length + ys.length ≤ 100000 ∧ P (.tup (xs ++ ys)) S
  | .ext _, _ => False
  | _, .ext _ => False
  | x, y => match lstOf S x, lstOf S y with
    | some xs, some ys => xs.length + ys.length ≤ 100000 ∧ P (.lst (xs ++ ys)) S
    | _, _ => False
def dSub : D2 := fun x y S P => match x, y with
  | .int i, .int j => P (.int (i - j)) S
  | _, _ => False
def dMul : D2 := fun x y S P => match x, y with
  | .int i, .int j => MulB i j ∧ P (.int (i * j)) S
  | .lst xs, .int k => -(2 ^ 63) ≤ k ∧ k < 2 ^ 63 ∧ xs.length * k.toNat ≤ 100000 ∧ P (.lst (List.replicate k.toNat xs).flatten) S
  | _, _ => False
def dFdiv : D2 := fun x y S P => match x, y with
  | .int i, .int j => DivB j ∧ P (.int (i.fdiv j)) S
  | _, _ => False
def dMod : D2 := fun x y S P => match x, y with
  | .int i, .int j => 0 < j ∧ P (.int (i % j)) S
  | _, _ => False
def dPow : D2 := fun x y S P => match x, y with
  | .int i, .int j => CPow i j ∧ P (.int (i ^ j.toNat)) S
  | _, _ => False
def dNeg : D1 := fun x S P => match x with
  | .int i => P (.int (-i)) S
  | _ => False
def dLt : D2 := fun x y S P => match x, y with
  | .int i, .int j => P (.bl (decide (i < j))) S
  | _, _ => False
def dLe : D2 := fun x y S P => match x, y with
  | .int i, .int j => P (.bl (decide (i ≤ j))) S
  | _, _ => False
def dGt : D2 := fun x y S P => match x, y with
  | .int i, .int j => P (.bl (decide (j < i))) S
  | _, _ => False
def dGe : D2 := fun x y S P => match x, y with
  | .int i, .int j => P (.bl (decide (j ≤ i))) S
  | _, _ => False
section
variable {X : Cx} {pos : Pos} {a b : Expr} {da db : DE}
theorem op_mulA : OpR X (binaryOp .Mult) (rI MulB fun i j => .int (i * j)) := opI fun i j _ _ _ _ _ hc q => by
  rcases hc with h | h
  · exact mul_int q h.ok
  · exact mul_int q h.ok
theorem op_fdivA : OpR X (binaryOp .FloorDiv) (rI (fun _ j => DivB j) fun i j => .int (i.fdiv j)) := opI fun i j _ _ _ _ _ hc q => floordiv_int hc.1 q (.inl (PyProof.noPylong_of_log2 hc.2))
theorem i_add {K : PySem.W.Frag} : Imp2 K (fun x y H Q => (rI0 fun i j => .int (i + j)) x y H Q ∨ (∃ i j, x = .str i ∧ y = .str j ∧ i.length + j.length ≤ sizeLine ∧ Q (.str (i ++ j)) H) ∨ rCatA K x y H Q ∨ rCat x y H Q) dAdd := by
  intro x y v w I S F H P Q ok rx ry h q
  have lists : ∀ xs ys, lstOf S x = some xs → lstOf S y = some ys → (∀ es, x ≠ .ext es) → (∀ es, y ≠ .ext es) → xs.length + ys.length ≤ 100000 → P (.lst (xs ++ ys)) S → rCat v w H Q := fun xs ys ex ey nx ny hl p => by
    obtain ⟨l, xs', rfl, h1, r1⟩ := lst_hp ok rx ex nx
    obtain ⟨l', ys', rfl, h2, r2⟩ := lst_hp ok ry ey ny
    exact ⟨l, l', xs', ys', rfl, rfl, h1, h2, line5 (by rw [r1.len, r2.len]; exact hl), fun p' hp => q _ _ _ _ _ p (same_new (ok.freshI hp)) (ok.newI hp) (rep_new_lst (ok.freshI hp) (r1.app r2))⟩
  unfold dAdd at h
  split at h
  · cases rx.int_of; cases ry.int_of
    exact .inl ⟨_, _, rfl, rfl, q _ _ _ _ _ h (Same.refl I) ok rep_int⟩
  · cases rx.str_of; cases ry.str_of
    exact .inr (.inl ⟨_, _, rfl, rfl, line5 h.1, q _ _ _ _ _ h.2 (Same.refl I) ok rep_str⟩)
  · rename_i xs ys
    obtain ⟨l, xs', rfl, h1, r1⟩ := tup_sq ok rx
    obtain ⟨l', ys', rfl, h2, r2⟩ := tup_sq ok ry
    refine .inr (.inr (.inl ⟨l, l', xs', ys', rfl, rfl, h1, h2, line5 (by rw [r1.len, r2.len]; exact h.1), fun e => ?_, fun _ e => ?_, fun _ _ p hp => ?_⟩))
    · have : xs = [] := by
        have := r1.len; rw [e] at this
        exact List.eq_nil_of_length_eq_zero this.symm
      subst this
      exact q _ _ _ _ _ h.2 (Same.refl I) ok (by simpa using ry)
    · have : ys = [] := by
        have := r2.len; rw [e] at this
        exact List.eq_nil_of_length_eq_zero this.symm
      subst this
      exact q _ _ _ _ _ h.2 (Same.refl I) ok (by simpa using rx)
    · exact q _ _ _ _ _ h.2 (same_new (ok.freshI hp)) (ok.newI hp) (rep_new_tup (ok.freshI hp) (r1.app r2))
  · exact h.elim
  · exact h.elim
  · split at h
    · rename_i xs ys e1 e2
      refine .inr (.inr (.inr (lists xs ys e1 e2 (fun es z => ?_) (fun es z => ?_) h.1 h.2)))
      · simp_all
      · simp_all
    · exact h.elim
theorem je_add (ha : JE X a da) (hb : JE X b db) : JE X (.BinOp a .Add b pos) (dOp dAdd da db) := je_op (op_add.or (op_add_str.or (op_catA.or op_cat))) i_add ha hb
theorem i_sub {K : PySem.W.Frag} : Imp2 K (rI0 fun i j => .int (i - j)) dSub := by
  intro x y v w I S F H P Q ok rx ry h q
  unfold dSub at h
  split at h
  · cases rx.int_of; cases ry.int_of
    exact ⟨_, _, rfl, rfl, q _ _ _ _ _ h (Same.refl I) ok rep_int⟩
  · exact h.elim
theorem je_sub (ha : JE X a da) (hb : JE X b db) : JE X (.BinOp a .Sub b pos) (dOp dSub da db) := je_op op_sub i_sub ha hb
theorem repL_rep {K : PySem.W.Frag} {I : Hp} {ds : List D} {vs : List V} (h : RepL K I ds vs) : ∀ k : Nat, RepL K I (List.replicate k ds).flatten (List.replicate k vs).flatten
  | 0 => by simpa using RepL.nil
  | k + 1 => by
    simp only [List.replicate_succ, List.flatten_cons]
    exact h.app (repL_rep h k)
theorem i_mul {K : PySem.W.Frag} : Imp2 K (fun x y H Q => (rI MulB fun i j => .int (i * j)) x y H Q ∨ rRep x y H Q) dMul := by
  intro x y v w I S F H P Q ok rx ry h q
  unfold dMul at h
  split at h
  · cases rx.int_of; cases ry.int_of
    exact .inl ⟨_, _, rfl, rfl, h.1, q _ _ _ _ _ h.2 (Same.refl I) ok rep_int⟩
  · rename_i xs k
    obtain ⟨l, xs', rfl, h1, r1⟩ := rx.lst_of
    cases ry.int_of
    exact .inr ⟨l, k, xs', rfl, rfl, ok.i _ _ h1, h.1, h.2.1, line5 (by rw [r1.len]; exact h.2.2.1), fun p hp => q _ _ _ _ _ h.2.2.2 (same_new (ok.freshI hp)) (ok.newI hp) (rep_new_lst (ok.freshI hp) (repL_rep r1 _))⟩
  · exact h.elim
theorem je_mul (ha : JE X a da) (hb : JE X b db) : JE X (.BinOp a .Mult b pos) (dOp dMul da db) := je_op (op_mulA.or op_rep) i_mul ha hb
theorem i_fdiv {K : PySem.W.Frag} : Imp2 K (rI (fun _ j => DivB j) fun i j => .int (i.fdiv j)) dFdiv := by
  intro x y v w I S F H P Q ok rx ry h q
  unfold dFdiv at h
  split at h
  · cases rx.int_of; cases ry.int_of
    exact ⟨_, _, rfl, rfl, h.1, q _ _ _ _ _ h.2 (Same.refl I) ok rep_int⟩
  · exact h.elim
theorem je_fdiv (ha : JE X a da) (hb : JE X b db) : JE X (.BinOp a .FloorDiv b pos) (dOp dFdiv da db) := je_op op_fdivA i_fdiv ha hb
theorem i_mod {K : PySem.W.Frag} : Imp2 K (rI (fun _ j => 0 < j) fun i j => .int (i % j)) dMod := by
  intro x y v w I S F H P Q ok rx ry h q
  unfold dMod at h
  split at h
  · cases rx.int_of; cases ry.int_of
    exact ⟨_, _, rfl, rfl, h.1, q _ _ _ _ _ h.2 (Same.refl I) ok rep_int⟩
  · exact h.elim
theorem je_mod (ha : JE X a da) (hb : JE X b db) : JE X (.BinOp a .Mod b pos) (dOp dMod da db) := je_op op_mod i_mod ha hb
theorem i_pow {K : PySem.W.Frag} : Imp2 K (rI CPow fun i j => .int (i ^ j.toNat)) dPow := by
  intro x y v w I S F H P Q ok rx ry h q
  unfold dPow at h
  split at h
  · cases rx.int_of; cases ry.int_of
    exact ⟨_, _, rfl, rfl, h.1, q _ _ _ _ _ h.2 (Same.refl I) ok rep_int⟩
  · exact h.elim
theorem je_pow (ha : JE X a da) (hb : JE X b db) : JE X (.BinOp a .Pow b pos) (dOp dPow da db) := je_op op_pow i_pow ha hb
theorem i_neg {K : PySem.W.Frag} : Imp1 K (rU fun i => .int (-i)) dNeg := by
  intro x v I S F H P Q ok rx h q
  unfold dNeg at h
  split at h
  · cases rx.int_of
    exact ⟨_, rfl, q _ _ _ _ _ h (Same.refl I) ok rep_int⟩
  · exact h.elim
theorem je_neg (ha : JE X a da) : JE X (.UnaryOp .USub a pos) (dUn dNeg da) := je_un un_neg i_neg ha
theorem i_lt {K : PySem.W.Frag} : Imp2 K (rI0 fun i j => .bl (decide (i < j))) dLt := by
  intro x y v w I S F H P Q ok rx ry h q
  unfold dLt at h
  split at h
  · cases rx.int_of; cases ry.int_of
    exact ⟨_, _, rfl, rfl, q _ _ _ _ _ h (Same.refl I) ok rep_bl⟩
  · exact h.elim
theorem i_gt {K : PySem.W.Frag} : Imp2 K (rI0 fun i j => .bl (decide (j < i))) dGt := by
  intro x y v w I S F H P Q ok rx ry h q
  unfold dGt at h
  split at h
  · cases rx.int_of; cases ry.int_of
    exact ⟨_, _, rfl, rfl, q _ _ _ _ _ h (Same.refl I) ok rep_bl⟩
  · exact h.elim
theorem i_ge {K : PySem.W.Frag} : Imp2 K (rI0 fun i j => .bl (decide (j ≤ i))) dGe := by
  intro x y v w I S F H P Q ok rx ry h q
  unfold dGe at h
  split at h
  · cases rx.int_of; cases ry.int_of
    exact ⟨_, _, rfl, rfl, q _ _ _ _ _ h (Same.refl I) ok rep_bl⟩
  · exact h.elim
theorem je_gt (ha : JE X a da) (hb : JE X b db) : JE X (.Compare a [.Gt] [b] pos) (dOp dGt da db) := je_cmp op_gt i_gt ha hb (nomark _)
theorem je_ge (ha : JE X a da) (hb : JE X b db) : JE X (.Compare a [.GtE] [b] pos) (dOp dGe da db) := je_cmp op_ge i_ge ha hb (nomark _)
theorem jt_lt (ha : JE X a da) (hb : JE X b db) : JT X (.Compare a [.Lt] [b] pos) (dTest (dOp dLt da db)) := jt_cmp op_lt i_lt ha hb (nomark _)
theorem jt_gt (ha : JE X a da) (hb : JE X b db) : JT X (.Compare a [.Gt] [b] pos) (dTest (dOp dGt da db)) := jt_cmp op_gt i_gt ha hb (nomark _)
theorem jt_ge (ha : JE X a da) (hb : JE X b db) : JT X (.Compare a [.GtE] [b] pos) (dTest (dOp dGe da db)) := jt_cmp op_ge i_ge ha hb (nomark _)

end

/-! ### == and != -/
mutual
def D.py : D → Option PyData
  | .non => some .none
  | .bl b => some (.bool b)
  | .int i => some (.int i)
  | .str s => some (.str s)
  | .lst ds => (D.pyL ds).map .list
  | .ext ds => (D.pyL ds).map .list
  | .tup ds => (D.pyL ds).map .tuple
  | .tq ds => (D.pyL ds).map .tuple
  | .ty _ => none
  | .obj _ => none
def D.pyL : List D → Option (List PyData)
  | [] => some []
  | d :: ds => match d.py, D.pyL ds with
    | some p, some ps => some (p :: ps)
    | _, _ => none
end
section
variable {K : PySem.W.Frag} {I H : Hp}
mutual
theorem rep_dp (e : Same I H) : ∀ (d : D) (v : V) (p : PyData), Rep K I d v → d.py = some p → Dp K H v p
  | .non, v, p, h, q => by cases h.non_of; simp only [D.py, Option.some.injEq] at q; subst q; exact .non
  | .bl b, v, p, h, q => by cases h.bl_of; simp only [D.py, Option.some.injEq] at q; subst q; exact .bl b
  | .int b, v, p, h, q => by cases h.int_of; simp only [D.py, Option.some.injEq] at q; subst q; exact .int b
  | .str b, v, p, h, q => by cases h.str_of; simp only [D.py, Option.some.injEq] at q; subst q; exact .str b
  | .lst ds, v, p, h, q => by
    obtain ⟨a, xs, rfl, h1, r⟩ := h.lst_of
    simp only [D.py] at q
    cases z : D.pyL ds with
    | none => rw [z] at q; cases q
    | some ps =>
      rw [z] at q; simp only [Option.map_some, Option.some.injEq] at q; subst q
      exact .lst (.of (e _ _ h1)) (rep_dpL e ds xs ps r z)
  | .ext ds, v, p, h, q => by
    obtain ⟨a, xs, rfl, h1, r⟩ := h.ext_of
    simp only [D.py] at q
    cases z : D.pyL ds with
    | none => rw [z] at q; cases q
    | some ps =>
      rw [z] at q; simp only [Option.map_some, Option.some.injEq] at q; subst q
      exact .lst (e.seq h1) (rep_dpL e ds xs ps r z)
  | .tup ds, v, p, h, q => by
    obtain ⟨a, xs, rfl, h1, r⟩ := h.tup_of
    simp only [D.py] at q
    cases z : D.pyL ds with
    | none => rw [z] at q; cases q
    | some ps =>
      rw [z] at q; simp only [Option.map_some, Option.some.injEq] at q; subst q
      exact .tup (sqT_same e h1) (rep_dpL e ds xs ps r z)
  | .tq ds, v, p, h, q => by
    obtain ⟨a, xs, rfl, h1, r⟩ := h.tq_of
    simp only [D.py] at q
    cases z : D.pyL ds with
    | none => rw [z] at q; cases q
    | some ps =>
      rw [z] at q; simp only [Option.map_some, Option.some.injEq] at q; subst q
      exact .tup (sqT_same e (.inl h1)) (rep_dpL e ds xs ps r z)
  | .ty _, v, p, h, q => by simp [D.py] at q
  | .obj _, v, p, h, q => by simp [D.py] at q
theorem rep_dpL (e : Same I H) : ∀ (ds : List D) (vs : List V) (ps : List PyData), RepL K I ds vs → D.pyL ds = some ps → DpAll K H vs ps
  | [], vs, ps, h, q => by
    simp only [RepL] at h
    simp only [D.pyL, Option.some.injEq] at q
    subst h q; exact .nil
  | d :: ds, vs, ps, h, q => by
    simp only [RepL] at h
    obtain ⟨v, r, rfl, h1, h2⟩ := h
    simp only [D.pyL] at q
    cases e1 : d.py with
    | none => rw [e1] at q; cases q
    | some p =>
      cases e2 : D.pyL ds with
      | none => rw [e1, e2] at q; cases q
      | some ps' =>
        rw [e1, e2] at q; simp only [Option.some.injEq] at q; subst q
        exact .cons (rep_dp e d v p h1 e1) (rep_dpL e ds r ps' h2 e2)
end
end
/-- what == gives of two data -/
def dEqB : D → D → Option Bool
  | .int i, .int j => some (decide (i = j))
  | .bl i, .bl j => some (decide (i = j))
  | .str i, .str j => some (decide (i = j))
  | .non, .non => some true
  | .non, .int _ => some false
  | .int _, .non => some false
  | .non, .str _ => some false
  | .str _, .non => some false
  | .non, .bl _ => some false
  | .bl _, .non => some false
  | .int _, .str _ => some false
  | .str _, .int _ => some false
  | .bl _, .str _ => some false
  | .str _, .bl _ => some false
  | x, y => match x.py, y.py with
    | some p, some q => if SeqAt.shaped p = true ∧ SeqAt.shaped q = true then some (PyData.eqv p q) else none
    | _, _ => none
def dEq : D2 := fun x y S P => match dEqB x y with
  | some k => P (.bl k) S
  | none => False
def dNe : D2 := fun x y S P => match dEqB x y with
  | some k => P (.bl (!k)) S
  | none => False
section
variable {K : PySem.W.Frag}
theorem eqB_of {I H : Hp} {x y : D} {v w : V} {k : Bool} (e : Same I H) (rx : Rep K I x v) (ry : Rep K I y w) (h : dEqB x y = some k) :
    (scal v w = true ∧ decide (v = w) = k) ∨ ∃ p q, Dp K H v p ∧ Dp K H w q ∧ SeqAt.shaped p = true ∧ SeqAt.shaped q = true ∧ PyData.eqv p q = k := by
  unfold dEqB at h
  split at h
  case h_1 => cases rx.int_of; cases ry.int_of; cases h; exact .inl ⟨rfl, by simp⟩
  case h_2 => cases rx.bl_of; cases ry.bl_of; cases h; exact .inl ⟨rfl, by simp⟩
  case h_3 => cases rx.str_of; cases ry.str_of; cases h; exact .inl ⟨rfl, by simp⟩
  case h_4 => cases rx.non_of; cases ry.non_of; cases h; exact .inl ⟨rfl, by simp⟩
  case h_5 => cases rx.non_of; cases ry.int_of; cases h; exact .inl ⟨rfl, by simp⟩
  case h_6 => cases rx.int_of; cases ry.non_of; cases h; exact .inl ⟨rfl, by simp⟩
  case h_7 => cases rx.non_of; cases ry.str_of; cases h; exact .inl ⟨rfl, by simp⟩
  case h_8 => cases rx.str_of; cases ry.non_of; cases h; exact .inl ⟨rfl, by simp⟩
  case h_9 => cases rx.non_of; cases ry.bl_of; cases h; exact .inl ⟨rfl, by simp⟩
  case h_10 => cases rx.bl_of; cases ry.non_of; cases h; exact .inl ⟨rfl, by simp⟩
  case h_11 => cases rx.int_of; cases ry.str_of; cases h; exact .inl ⟨rfl, by simp⟩
  case h_12 => cases rx.str_of; cases ry.int_of; cases h; exact .inl ⟨rfl, by simp⟩
  case h_13 => cases rx.bl_of; cases ry.str_of; cases h; exact .inl ⟨rfl, by simp⟩
  case h_14 => cases rx.str_of; cases ry.bl_of; cases h; exact .inl ⟨rfl, by simp⟩
  case h_15 =>
    split at h
    · rename_i p q e1 e2
      split at h
      · rename_i hs
        cases h
        exact .inr ⟨p, q, rep_dp e _ _ _ rx e1, rep_dp e _ _ _ ry e2, hs.1, hs.2, rfl⟩
      · cases h
    · cases h
theorem i_eq : Imp2 K (fun x y H Q => rEq x y H Q ∨ rEqD K x y H Q) dEq := by
  intro x y v w I S F H P Q ok rx ry h q
  unfold dEq at h
  split at h
  · rename_i k e
    rcases eqB_of ok.same rx ry e with ⟨h1, h2⟩ | ⟨p, p', h1, h2, h3, h4, h5⟩
    · exact .inl ⟨h1, by rw [h2]; exact q _ _ _ _ _ h (Same.refl I) ok rep_bl⟩
    · exact .inr ⟨p, p', h1, h2, h3, h4, by rw [h5]; exact q _ _ _ _ _ h (Same.refl I) ok rep_bl⟩
  · exact h.elim
theorem i_ne : Imp2 K (fun x y H Q => rNe x y H Q ∨ rNeD K x y H Q) dNe := by
  intro x y v w I S F H P Q ok rx ry h q
  unfold dNe at h
  split at h
  · rename_i k e
    rcases eqB_of ok.same rx ry e with ⟨h1, h2⟩ | ⟨p, p', h1, h2, h3, h4, h5⟩
    · exact .inl ⟨h1, by rw [h2]; exact q _ _ _ _ _ h (Same.refl I) ok rep_bl⟩
    · exact .inr ⟨p, p', h1, h2, h3, h4, by rw [h5]; exact q _ _ _ _ _ h (Same.refl I) ok rep_bl⟩
  · exact h.elim
variable {X : Cx} {pos : Pos} {a b : Expr} {da db : DE}
theorem je_eq {k : Nat} (hr : DG.RoomG k X.A) (ha : JE X a da) (hb : JE X b db) : JE X (.Compare a [.Eq] [b] pos) (dOp dEq da db) := je_cmp (op_eq.or (op_eqD hr.r.units)) i_eq ha hb (nomark _)
theorem jt_eq {k : Nat} (hr : DG.RoomG k X.A) (ha : JE X a da) (hb : JE X b db) : JT X (.Compare a [.Eq] [b] pos) (dTest (dOp dEq da db)) := jt_cmp (op_eq.or (op_eqD hr.r.units)) i_eq ha hb (nomark _)
theorem jt_ne {k : Nat} (hr : DG.RoomG k X.A) (ha : JE X a da) (hb : JE X b db) : JT X (.Compare a [.NotEq] [b] pos) (dTest (dOp dNe da db)) := jt_cmp (op_ne.or (op_neD hr.r.units)) i_ne ha hb (nomark _)
end

/-! ### is None, in -/
def isNon : D → Bool
  | .non => true
  | _ => false
def dIsN : D2 := fun x y S P => match y with
  | .non => P (.bl (isNon x)) S
  | _ => False
def dNotN : D2 := fun x y S P => match y with
  | .non => P (.bl (!isNon x)) S
  | _ => False
def isFlat : D → Bool
  | .non | .bl _ | .int _ | .str _ => true
  | _ => false
/-- y is in the list, as == has it, of flat things -/
def eqFlat : D → D → Bool
  | .non, .non => true
  | .bl a, .bl b => a == b
  | .bl a, .int j => (if a then 1 else 0) == j
  | .int i, .bl b => i == (if b then 1 else 0)
  | .int i, .int j => decide (i = j)
  | .str x, .str y => decide (x = y)
  | _, _ => false
def dIn (neg : Bool) : D2 := fun x y S P => match seqOf S y with
  | some ys => isFlat x = true ∧ ys.all isFlat = true ∧ P (.bl (if neg then !(ys.any fun z => eqFlat z x) else ys.any fun z => eqFlat z x)) S
  | none => False
section
variable {K : PySem.W.Frag} {I F H : Hp}
theorem flat_rep {x : D} {v : V} (r : Rep K I x v) (h : isFlat x = true) : flatV v = true := by
  cases x with
  | non => cases r.non_of; rfl
  | bl b => cases r.bl_of; rfl
  | int i => cases r.int_of; rfl
  | str s => cases r.str_of; rfl
  | _ => simp [isFlat] at h
theorem eqFlat_rep {x y : D} {v w : V} (rx : Rep K I x v) (ry : Rep K I y w) (hx : isFlat x = true) (hy : isFlat y = true) : eqV v w = eqFlat x y := by
  cases x <;> simp only [isFlat, Bool.false_eq_true] at hx <;> cases y <;> simp only [isFlat, Bool.false_eq_true] at hy <;>
    simp only [Rep] at rx ry <;> subst rx <;> subst ry <;> first | rfl | simp [eqV, eqFlat] | (simp [eqV, eqFlat]; done)
theorem flats_rep : ∀ {xs : List D} {vs : List V}, RepL K I xs vs → xs.all isFlat = true → vs.all flatV = true
  | [], vs, r, _ => by
    simp only [RepL] at r
    subst r; rfl
  | x :: xs, vs, r, h => by
    simp only [RepL] at r
    obtain ⟨v, r', rfl, h1, h2⟩ := r
    simp only [List.all_cons, Bool.and_eq_true] at h ⊢
    exact ⟨flat_rep h1 h.1, flats_rep h2 h.2⟩
theorem anys_rep {x : D} {v : V} (rx : Rep K I x v) (fx : isFlat x = true) : ∀ {xs : List D} {vs : List V}, RepL K I xs vs → xs.all isFlat = true → inV v vs = xs.any fun z => eqFlat z x
  | [], vs, r, _ => by
    simp only [RepL] at r
    subst r; rfl
  | y :: xs, vs, r, h => by
    simp only [RepL] at r
    obtain ⟨w, r', rfl, h1, h2⟩ := r
    simp only [List.all_cons, Bool.and_eq_true] at h
    show (eqV w v || inV v r') = _
    rw [eqFlat_rep h1 rx h.1 fx, anys_rep rx fx h2 h.2]
    rfl
theorem seq_sq (ok : Ok K I S F H) {x : D} {v : V} {ds : List D} (r : Rep K I x v) (h : seqOf S x = some ds) : ∃ a xs, v = .ref a ∧ (SqL K H a xs ∨ SqT K H a xs) ∧ RepL K I ds xs := by
  cases x with
  | tup es =>
    simp only [seqOf, Option.some.injEq] at h; subst h
    obtain ⟨a, xs, e, q, rl⟩ := tup_sq ok r
    exact ⟨a, xs, e, .inr q, rl⟩
  | _ =>
    simp only [seqOf] at h
    obtain ⟨a, xs, e, q, rl⟩ := lst_sq ok r h
    exact ⟨a, xs, e, .inl q, rl⟩
theorem i_in (neg : Bool) : Imp2 K (rIn K neg) (dIn neg) := by
  intro x y v w I S F H P Q ok rx ry h q
  unfold dIn at h
  split at h
  · rename_i ys e
    obtain ⟨a, vs, rfl, hs, rl⟩ := seq_sq ok ry e
    refine ⟨a, vs, rfl, hs, flat_rep rx h.1, flats_rep rl h.2.1, ?_⟩
    rw [anys_rep rx h.1 rl h.2.1]
    exact q _ _ _ _ _ h.2.2 (Same.refl I) ok rep_bl
  · exact h.elim
theorem isNon_rep {I : Hp} {x : D} {v : V} (r : Rep K I x v) : decide (v = .non) = isNon x := by
  cases x with
  | non => cases r.non_of; rfl
  | bl b => cases r.bl_of; rfl
  | int i => cases r.int_of; rfl
  | str s => cases r.str_of; rfl
  | ty n => simp only [Rep] at r; subst r; rfl
  | obj a => cases r.obj_of; rfl
  | lst ds => obtain ⟨a, xs, rfl, _⟩ := r.lst_of; rfl
  | ext ds => obtain ⟨a, xs, rfl, _⟩ := r.ext_of; rfl
  | tup ds => obtain ⟨a, xs, rfl, _⟩ := r.tup_of; rfl
  | tq ds => obtain ⟨a, xs, rfl, _⟩ := r.tq_of; rfl
theorem i_isN : Imp2 K (fun x y H Q => y = .non ∧ Q (.bl (decide (x = .non))) H) dIsN := by
  intro x y v w I S F H P Q ok rx ry h q
  unfold dIsN at h
  split at h
  · refine ⟨ry.non_of, ?_⟩
    rw [isNon_rep rx]
    exact q _ _ _ _ _ h (Same.refl I) ok rep_bl
  · exact h.elim
theorem i_notN : Imp2 K (fun x y H Q => y = .non ∧ Q (.bl (!decide (x = .non))) H) dNotN := by
  intro x y v w I S F H P Q ok rx ry h q
  unfold dNotN at h
  split at h
  · refine ⟨ry.non_of, ?_⟩
    rw [isNon_rep rx]
    exact q _ _ _ _ _ h (Same.refl I) ok rep_bl
  · exact h.elim
variable {X : Cx} {pos : Pos} {a b : Expr} {da db : DE}
theorem jt_in (ha : JE X a da) (hb : JE X b db) (hm : behindInMarks .In b = false := by rfl) : JT X (.Compare a [.In] [b] pos) (dTest (dOp (dIn false) da db)) := jt_cmp op_in_seq (i_in false) ha hb hm
theorem jt_notin (ha : JE X a da) (hb : JE X b db) (hm : behindInMarks .NotIn b = false := by rfl) : JT X (.Compare a [.NotIn] [b] pos) (dTest (dOp (dIn true) da db)) := jt_cmp op_notIn_seq (i_in true) ha hb hm
theorem je_isN (ha : JE X a da) (hb : JE X b db) : JE X (.Compare a [.Is] [b] pos) (dOp dIsN da db) := je_cmp op_isN i_isN ha hb (nomark _)
theorem jt_isN (ha : JE X a da) (hb : JE X b db) : JT X (.Compare a [.Is] [b] pos) (dTest (dOp dIsN da db)) := jt_cmp op_isN i_isN ha hb (nomark _)
theorem jt_notN (ha : JE X a da) (hb : JE X b db) : JT X (.Compare a [.IsNot] [b] pos) (dTest (dOp dNotN da db)) := jt_cmp op_notN i_notN ha hb (nomark _)
end

/-! ### subscripts -/
def dIx : D2 := fun x y S P => match y with
  | .int i => match x with
    | .str z => z.length ≤ 100000 ∧ (match atI z.cps.toList i with
      | some c => P (.str ⟨#[c]⟩) S
      | none => False)
    | x => match seqOf S x with
      | some ds => match atI ds i with
        | some d => P d S
        | none => False
      | none => False
  | _ => False
def dcut (xs : List D) (lo hi : Option Int) : List D := (xs.drop (HT.sIx xs.length 0 lo)).take (HT.sIx xs.length xs.length hi - HT.sIx xs.length 0 lo)
abbrev DO := DSt → Store → (Option Int → Store → Prop) → Prop
def dNoPart : DO := fun _ S P => P none S
def dPart (d : DE) : DO := fun ρ S P => d ρ S fun x S1 => match x with
  | .int i => P (some i) S1
  | _ => False
def dSl (d : DE) (lo hi : DO) : DE := fun ρ S P => d ρ S fun x S1 => lo ρ S1 fun l S2 => hi ρ S2 fun u S3 => match x with
  | .tup ds => P (.tup (dcut ds l u)) S3
  | x => match lstOf S3 x with
    | some ds => P (.lst (dcut ds l u)) S3
    | none => False
section
variable {K : PySem.W.Frag} {I F H : Hp} {S : Store}
theorem atI_rep {ds : List D} {vs : List V} {i : Int} {d : D} (r : RepL K I ds vs) (h : atI ds i = some d) : ∃ v, atI vs i = some v ∧ Rep K I d v := by
  unfold atI at h ⊢
  rw [r.len]
  cases e : ixN ds.length i with
  | none => rw [e] at h; cases h
  | some j =>
    rw [e] at h
    exact r.get (i := j) h
theorem i_ix : Imp2 K (rIx K) dIx := by
  intro x y v w I S F H P Q ok rx ry h q
  unfold dIx at h
  split at h
  · rename_i i
    cases ry.int_of
    split at h
    · rename_i z
      cases rx.str_of
      obtain ⟨hl, h⟩ := h
      split at h
      · rename_i c e
        exact .inr (.inr ⟨_, _, c, rfl, rfl, line5 hl, e, q _ _ _ _ _ h (Same.refl I) ok rep_str⟩)
      · exact h.elim
    · split at h
      · rename_i ds e
        split at h
        · rename_i d e2
          obtain ⟨a, xs, rfl, hs, rl⟩ := seq_sq ok rx e
          obtain ⟨u, e3, r3⟩ := atI_rep rl e2
          rcases hs with hs | hs
          · exact .inl ⟨a, xs, i, u, rfl, rfl, hs, e3, q _ _ _ _ _ h (Same.refl I) ok r3⟩
          · exact .inr (.inl ⟨a, xs, i, u, rfl, rfl, hs, e3, q _ _ _ _ _ h (Same.refl I) ok r3⟩)
        · exact h.elim
      · exact h.elim
  · exact h.elim
theorem cut_rep {ds : List D} {vs : List V} (lo hi : Option Int) (r : RepL K I ds vs) : RepL K I (dcut ds lo hi) (cutV vs lo hi) := by
  unfold dcut cutV
  rw [r.len]
  exact (r.drop _).take _
variable {X : Cx} {pos : Pos} {a b : Expr} {da db : DE}
theorem je_ix (ha : JE X a da) (hb : JE X b db) (hs : PlainIx b := by exact fun _ _ => rfl) : JE X (.Subscript a b pos) (dOp dIx da db) := je_of (pe_ix ix_seq ha hb hs) (up_op i_ix)
def upO (K : PySem.W.Frag) (d : DO) : TO := fun σ H Q => ∃ ρ I S F P, RepS K I ρ σ ∧ Ok K I S F H ∧ d ρ S P ∧ ∀ o S' I' H', P o S' → Same I I' → Ok K I' S' F H' → Q o H'
abbrev JO (X : Cx) (e : Option Expr) (d : DO) : Prop := PO X e (upO X.K d)
theorem jo_of {X : Cx} {e : Option Expr} {t u : TO} (h : PO X e t) (i : ∀ σ H Q, u σ H Q → t σ H Q) : PO X e u := ⟨by
  intro pins s σ H Q I q
  exact h.run pins s σ H Q I (i _ _ _ q)⟩
theorem jo_none : JO X none dNoPart := jo_of po_none fun σ H Q h0_ => El54 h0_ fun ρ I S F P rs ok h q => q _ _ _ _ h (Same.refl I) ok
theorem jo_some (h : JE X a da) : JO X (some a) (dPart da) := jo_of (po_some h) fun σ H Q h0_ => El54 h0_ fun ρ I S F P rs ok hh q => ⟨ρ, I, S, F, _, rs, ok, hh, fun x S1 v I1 H1 h1 e1 ok1 r1 => by
  cases x with
  | int i => exact ⟨i, r1.int_of, q _ _ _ _ h1 e1 ok1⟩
  | _ => exact h1.elim⟩
theorem je_sl {lo hi : Option Expr} {dl dh : DO} {p2 : Pos} (he : JE X a da) (hl : JO X lo dl) (hu : JO X hi dh) : JE X (.Subscript a (.Slice lo hi none p2) pos) (dSl da dl dh) :=
  je_of (pe_slice (sl_list.or sl_tupA) he hl hu) fun σ H Q h0_ => El54 h0_ fun ρ I S F P rs ok h q =>
    ⟨ρ, I, S, F, _, rs, ok, h, fun x S1 v I1 H1 h1 e1 ok1 r1 => ⟨ρ, I1, S1, F, _, rs.mono e1, ok1, h1, fun l S2 I2 H2 h2 e2 ok2 => ⟨ρ, I2, S2, F, _, rs.mono (e1.trans e2), ok2, h2, fun u S3 I3 H3 h3 e3 ok3 => by
      have r3 : Rep X.K I3 x v := r1.mono (e2.trans e3)
      have e13 := (e1.trans e2).trans e3
      split at h3
      · rename_i ds
        obtain ⟨a, xs, rfl, hs, rl⟩ := tup_sq ok3 r3
        refine .inr ⟨a, xs, rfl, hs, fun ew => ?_, fun _ p hp => q _ _ _ _ _ h3 (e13.trans (same_new (ok3.freshI hp))) (ok3.newI hp) (rep_new_tup (ok3.freshI hp) (cut_rep _ _ rl))⟩
        have hw : dcut ds l u = ds := by
          unfold dcut
          rw [← rl.len, ew.1, ew.2, rl.len]
          simp
        rw [hw] at h3
        exact q _ _ _ _ _ h3 e13 ok3 r3
      · split at h3
        · rename_i ds e
          obtain ⟨a, xs, rfl, hs, rl⟩ := lst_sq ok3 r3 e
          exact .inl ⟨a, xs, rfl, hs, fun p hp => q _ _ _ _ _ h3 (e13.trans (same_new (ok3.freshI hp))) (ok3.newI hp) (rep_new_lst (ok3.freshI hp) (cut_rep _ _ rl))⟩
        · exact h3.elim⟩⟩⟩
/-- xs[::-1] -/
def dRevL (d : DE) : DE := fun ρ S P => d ρ S fun x S1 => match lstOf S1 x with
  | some ds => P (.lst ds.reverse) S1
  | none => False
theorem je_revL {k : Nat} {p1 p2 p3 : Pos} (he : JE X a da) : JE X (.Subscript a (.Slice none none (some (.UnaryOp .USub (.Constant (.int 1) k p1) p2)) p3) pos) (dRevL da) :=
  je_of (pe_revL he) fun σ H Q h0_ => El54 h0_ fun ρ I S F P rs ok h q => ⟨ρ, I, S, F, _, rs, ok, h, fun x S1 v I1 H1 h1 e1 ok1 r1 => by
    split at h1
    · rename_i ds e
      obtain ⟨a, xs, rfl, hs, rl⟩ := lst_sq ok1 r1 e
      exact ⟨a, xs, rfl, hs, fun p hp => q _ _ _ _ _ h1 (e1.trans (same_new (ok1.freshI hp))) (ok1.newI hp) (rep_new_lst (ok1.freshI hp) rl.rev)⟩
    · exact h1.elim⟩
end
end DL

namespace DL
open PySem PySem.Spec PyProof.Rows L2

/-! ### keywords -/
def pick {α : Type} (perm : List Nat) (us ws : List α) : List α := perm.filterMap fun i => (us ++ ws)[i]?
theorem pick_rep {K : PySem.W.Frag} {I : Hp} {ds : List D} {vs : List V} (r : RepL K I ds vs) : ∀ perm : List Nat, RepL K I (perm.filterMap fun i => ds[i]?) (perm.filterMap fun i => vs[i]?)
  | [] => RepL.nil
  | i :: p => by
    cases e : ds[i]? with
    | none =>
      have e2 : vs[i]? = none := by
        rw [List.getElem?_eq_none_iff] at e ⊢
        rw [r.len]; exact e
      simp only [List.filterMap_cons, e, e2]
      exact pick_rep r p
    | some d =>
      obtain ⟨v, e2, r2⟩ := r.get e
      simp only [List.filterMap_cons, e, e2]
      exact RepL.cons r2 (pick_rep r p)
theorem pick_vals {vs : List V} {us : List Value} (r : Vals vs us) : ∀ perm : List Nat, Vals (perm.filterMap fun i => vs[i]?) (perm.filterMap fun i => us[i]?)
  | [] => .nil
  | i :: p => by
    cases e : vs[i]? with
    | none =>
      have e2 := r.none_of e
      simp only [List.filterMap_cons, e, e2]
      exact pick_vals r p
    | some v =>
      obtain ⟨u, e2, r2⟩ := r.get e
      simp only [List.filterMap_cons, e, e2]
      exact .cons r2 (pick_vals r p)
/-- a def without defaults called with n values and keywords ks, put in order by perm -/
theorem kbn_mk {K : PySem.W.Frag} {x qual : Str} {st : Stmt} {f : Addr} {fd : FuncData} {ps ks : List Str} {n : Nat} {perm : List Nat} (F : Fun K x qual st f fd)
    (h : ∀ (kV doc pm : Value) (an : Option Addr) (cdv ct : Value) (us ws : List Value), us.length = n → ws.length = ks.length → bindArgs (PySem.W.fnOf x qual (defArgs st) (defBody st) (defScope st) .none kV doc pm an cdv ct) ⟨us, ks.zip ws⟩ = pure (ps.zip (pick perm us ws))) :
    KBn K fd ps n ks (pick perm) (pick perm) := by
  obtain ⟨oc, od, kV, doc, pm, an, cdv, ct, osl, rfl, lk, hcd⟩ := F.ex
  exact ⟨fun s us ws _ h1 h2 => .of_eq (h kV doc pm an cdv ct us ws h1 h2), fun r1 r2 => pick_vals (r1.append r2) perm⟩
abbrev JK (X : Cx) (kws : List Keyword) (d : DA) : Prop := PK X kws (upA X.K d)
theorem jk_of {X : Cx} {e : List Keyword} {t u : TA} (h : PK X e t) (i : ∀ σ H Q, u σ H Q → t σ H Q) : PK X e u := ⟨fun pos pins s σ H Q I q => h.run pos pins s σ H Q I (i _ _ _ q)⟩
def dCallK (sp : DSp) (n m : Nat) (perm : List Nat) (a kw : DA) : DE := fun ρ S P => a ρ S fun xs S1 => kw ρ S1 fun ys S2 => xs.length = n ∧ ys.length = m ∧ sp (pick perm xs ys) S2 P
section
variable {X : Cx} {pos kpos : Pos} {a b : Expr} {da db : DE} {es : List Expr} {ds dk : DA} {kws : List Keyword} {nm : Option Str}
theorem jk_nil : JK X [] dNil := jk_of pk_nil fun σ H Q h0_ => El54 h0_ fun ρ I S F P rs ok h q => q _ _ _ _ _ h (Same.refl I) ok RepL.nil
theorem jk_cons (ha : JE X a da) (hr : JK X kws ds) : JK X (⟨nm, a, kpos⟩ :: kws) (dCons da ds) :=
  jk_of (pk_cons ha hr) fun σ H Q h0_ => El54 h0_ fun ρ I S F P rs ok h q => ⟨ρ, I, S, F, _, rs, ok, h, fun x S1 v I1 H1 h1 e1 ok1 r1 => ⟨ρ, I1, S1, F, _, rs.mono e1, ok1, h1, fun xs S2 vs I2 H2 h2 e2 ok2 r2 =>
    q _ _ _ _ _ h2 (e1.trans e2) ok2 (RepL.cons (r1.mono e2) r2)⟩⟩
variable {k n : Nat} {f : Addr} {fd : FuncData} {ps ks : List Str} {sp : DSp} {x : Str} {p : Pos} {perm : List Nat}
theorem je_callK0 (G : FnD X.prog X.w X.K X.mg X.base k f fd ps sp) (hr : DG.RoomG k X.A) (hg : Gl X x) (hm : X.mg x = some (.ref f)) (hk : PySem.W.keepIn X.K (.ref f) = true) (hb : KBn X.K fd ps 0 ks (pick perm) (pick perm))
    (hkw : JK X kws dk) (hall : (backToKw pos (keywordEach kws X.env)).all (·.1.isSome) = true := by rfl) (hks : (backToKw pos (keywordEach kws X.env)).filterMap (·.1) = ks := by rfl)
    (hdb : (x == ("__debug__" : Str)) = false := by decide)
    (hpl : ((backTo pos (starEach [] X.env)).any (·.1) || (backToKw pos (keywordEach kws X.env)).any (·.1.isNone)) = false := by rfl) :
    JE X (.Call (.Name x p) [] kws pos) (dCallK sp 0 ks.length perm dNil dk) :=
  je_of (DG.pe_callN0 G hr hg hm hk hb pass0 hkw hall hks hdb hpl) fun σ H Q h0_ => El54 h0_ fun ρ I S F P rs ok h q =>
    ⟨ρ, I, S, F, _, rs, ok, h, fun ys S2 ws I2 H2 ⟨l1, l2, h2⟩ e2 ok2 r2 => ⟨rfl, by rw [r2.len]; exact l2, _, I2, S2, F, P, pick_rep (RepL.nil.app r2) perm, ok2, h2, q.mono e2⟩⟩
end

/-! ### built-ins -/
def dInts : List D → Option (List Int)
  | [] => some []
  | .int i :: r => (dInts r).map (i :: ·)
  | _ => none
def dBools : List D → Option (List Bool)
  | [] => some []
  | .bl i :: r => (dBools r).map (i :: ·)
  | _ => none
theorem dInts_map : ∀ ns : List Int, dInts (ns.map .int) = some ns
  | [] => rfl
  | n :: ns => by simp [dInts, dInts_map ns]
theorem dBools_map : ∀ ns : List Bool, dBools (ns.map .bl) = some ns
  | [] => rfl
  | n :: ns => by simp [dBools, dBools_map ns]
theorem dInts_rep {K : PySem.W.Frag} {I : Hp} : ∀ {ds : List D} {vs : List V} {ns : List Int}, RepL K I ds vs → dInts ds = some ns → vs = ns.map V.int
  | [], vs, ns, r, h => by
    simp only [RepL] at r
    simp only [dInts, Option.some.injEq] at h
    subst r h; rfl
  | d :: ds, vs, ns, r, h => by
    simp only [RepL] at r
    obtain ⟨v, r', rfl, h1, h2⟩ := r
    cases d with
    | int i =>
      simp only [dInts] at h
      cases e : dInts ds with
      | none => rw [e] at h; cases h
      | some ms =>
        rw [e] at h
        simp only [Option.map_some, Option.some.injEq] at h
        subst h
        rw [dInts_rep h2 e, h1.int_of]; rfl
    | _ => simp [dInts] at h
theorem dBools_rep {K : PySem.W.Frag} {I : Hp} : ∀ {ds : List D} {vs : List V} {ns : List Bool}, RepL K I ds vs → dBools ds = some ns → vs = ns.map V.bl
  | [], vs, ns, r, h => by
    simp only [RepL] at r
    simp only [dBools, Option.some.injEq] at h
    subst r h; rfl
  | d :: ds, vs, ns, r, h => by
    simp only [RepL] at r
    obtain ⟨v, r', rfl, h1, h2⟩ := r
    cases d with
    | bl i =>
      simp only [dBools] at h
      cases e : dBools ds with
      | none => rw [e] at h; cases h
      | some ms =>
        rw [e] at h
        simp only [Option.map_some, Option.some.injEq] at h
        subst h
        rw [dBools_rep h2 e, h1.bl_of]; rfl
    | _ => simp [dBools] at h
def cAbs : DC := fun xs S P => match xs with
  | [.int i] => P (.int (if i < 0 then -i else i)) S
  | _ => False
def cMax2 : DC := fun xs S P => match xs with
  | [.int i, .int j] => P (.int (if j > i then j else i)) S
  | _ => False
def cMin2 : DC := fun xs S P => match xs with
  | [.int i, .int j] => P (.int (if j < i then j else i)) S
  | _ => False
def cAny : DC := fun xs S P => match xs with
  | [x] => match (lstOf S x).bind dBools with
    | some ns => P (.bl (ns.any id)) S
    | none => False
  | _ => False
def cAll : DC := fun xs S P => match xs with
  | [x] => match (lstOf S x).bind dBools with
    | some ns => P (.bl (ns.all id)) S
    | none => False
  | _ => False
def cInt : DC := fun xs S P => match xs with
  | [.int i] => P (.int i) S
  | [.bl k] => P (.int (if k then 1 else 0)) S
  | _ => False
def cLen : DC := fun xs S P => match xs with
  | [.str z] => z.length ≤ 100000 ∧ P (.int z.length) S
  | [x] => match seqOf S x with
    | some ds => P (.int ds.length) S
    | none => False
  | _ => False
def cList : DC := fun xs S P => match xs with
  | [x] => match seqOf S x with
    | some ds => P (.lst ds) S
    | none => False
  | _ => False
/-- list(..), to be changed -/
def cListM : DC := fun xs S P => match xs with
  | [x] => match seqOf S x with
    | some ds => ∀ p, S p = none → P (.obj p) (supd S p (.lst ds))
    | none => False
  | _ => False
def cTuple : DC := fun xs S P => match xs with
  | [x] => match seqOf S x with
    | some ds => P (.tup ds) S
    | none => False
  | _ => False
section
variable {K : PySem.W.Frag}
theorem i_abs : ImpC K (fun xs H Q => ∃ i, xs = [.int i] ∧ Q (.int (if i < 0 then -i else i)) H) cAbs := by
  intro xs vs I S F H P Q ok r h q
  unfold cAbs at h
  split at h
  · obtain ⟨v, rfl, rv⟩ := r.inv1
    cases rv.int_of
    exact ⟨_, rfl, q _ _ _ _ _ h (Same.refl I) ok rep_int⟩
  · exact h.elim
theorem i_max2 : ImpC K (fun xs H Q => ∃ i j, xs = [.int i, .int j] ∧ Q (.int (if j > i then j else i)) H) cMax2 := by
  intro xs vs I S F H P Q ok r h q
  unfold cMax2 at h
  split at h
  · obtain ⟨v, w, rfl, rv, rw⟩ := r.inv2
    cases rv.int_of; cases rw.int_of
    exact ⟨_, _, rfl, q _ _ _ _ _ h (Same.refl I) ok rep_int⟩
  · exact h.elim
theorem i_min2 : ImpC K (fun xs H Q => ∃ i j, xs = [.int i, .int j] ∧ Q (.int (if j < i then j else i)) H) cMin2 := by
  intro xs vs I S F H P Q ok r h q
  unfold cMin2 at h
  split at h
  · obtain ⟨v, w, rfl, rv, rw⟩ := r.inv2
    cases rv.int_of; cases rw.int_of
    exact ⟨_, _, rfl, q _ _ _ _ _ h (Same.refl I) ok rep_int⟩
  · exact h.elim
theorem lstInts {I F H : Hp} {S : Store} (ok : Ok K I S F H) {x : D} {v : V} {ns : List Int} (r : Rep K I x v) (h : (lstOf S x).bind dInts = some ns) : ∃ a, v = .ref a ∧ SqL K H a (ns.map V.int) := by
  cases e : lstOf S x with
  | none => rw [e] at h; cases h
  | some ds =>
    rw [e] at h
    obtain ⟨a, xs, rfl, hs, rl⟩ := lst_sq ok r e
    exact ⟨a, rfl, by rw [← dInts_rep rl h]; exact hs⟩
theorem lstBools {I F H : Hp} {S : Store} (ok : Ok K I S F H) {x : D} {v : V} {ns : List Bool} (r : Rep K I x v) (h : (lstOf S x).bind dBools = some ns) : ∃ a, v = .ref a ∧ SqL K H a (ns.map V.bl) := by
  cases e : lstOf S x with
  | none => rw [e] at h; cases h
  | some ds =>
    rw [e] at h
    obtain ⟨a, xs, rfl, hs, rl⟩ := lst_sq ok r e
    exact ⟨a, rfl, by rw [← dBools_rep rl h]; exact hs⟩
theorem i_any : ImpC K (rAny K) cAny := by
  intro xs vs I S F H P Q ok r h q
  unfold cAny at h
  split at h
  · split at h
    · rename_i ns e
      obtain ⟨v, rfl, rv⟩ := r.inv1
      obtain ⟨a, rfl, hs⟩ := lstBools ok rv e
      exact ⟨a, ns, rfl, hs, q _ _ _ _ _ h (Same.refl I) ok rep_bl⟩
    · exact h.elim
  · exact h.elim
theorem i_all : ImpC K (rAll K) cAll := by
  intro xs vs I S F H P Q ok r h q
  unfold cAll at h
  split at h
  · split at h
    · rename_i ns e
      obtain ⟨v, rfl, rv⟩ := r.inv1
      obtain ⟨a, rfl, hs⟩ := lstBools ok rv e
      exact ⟨a, ns, rfl, hs, q _ _ _ _ _ h (Same.refl I) ok rep_bl⟩
    · exact h.elim
  · exact h.elim
theorem i_int : ImpC K (fun xs H Q => (∃ i, xs = [.int i] ∧ Q (.int i) H) ∨ ∃ k, xs = [.bl k] ∧ Q (.int (if k then 1 else 0)) H) cInt := by
  intro xs vs I S F H P Q ok r h q
  unfold cInt at h
  split at h
  · obtain ⟨v, rfl, rv⟩ := r.inv1
    cases rv.int_of
    exact .inl ⟨_, rfl, q _ _ _ _ _ h (Same.refl I) ok rep_int⟩
  · obtain ⟨v, rfl, rv⟩ := r.inv1
    cases rv.bl_of
    exact .inr ⟨_, rfl, q _ _ _ _ _ h (Same.refl I) ok rep_int⟩
  · exact h.elim
theorem i_len : ImpC K (fun xs H Q => (∃ p ys, xs = [.ref p] ∧ (SqL K H p ys ∨ SqT K H p ys) ∧ Q (.int ys.length) H) ∨ ∃ z, xs = [.str z] ∧ z.length ≤ sizeLine ∧ Q (.int z.length) H) cLen := by
  intro xs vs I S F H P Q ok r h q
  unfold cLen at h
  split at h
  · obtain ⟨v, rfl, rv⟩ := r.inv1
    cases rv.str_of
    exact .inr ⟨_, rfl, line5 h.1, q _ _ _ _ _ h.2 (Same.refl I) ok rep_int⟩
  · split at h
    · rename_i ds e
      obtain ⟨v, rfl, rv⟩ := r.inv1
      obtain ⟨a, xs, rfl, hs, rl⟩ := seq_sq ok rv e
      exact .inl ⟨a, xs, rfl, hs, by rw [rl.len]; exact q _ _ _ _ _ h (Same.refl I) ok rep_int⟩
    · exact h.elim
  · exact h.elim
theorem i_listM : ImpC K (fun xs H Q => ∃ p ys, xs = [.ref p] ∧ (SqL K H p ys ∨ SqT K H p ys) ∧ ∀ l, H l = none → Q (.ref l) (upd H l (.lst ys))) cListM := by
  intro xs vs I S F H P Q ok r h q
  unfold cListM at h
  split at h
  · split at h
    · rename_i ds e
      obtain ⟨v, rfl, rv⟩ := r.inv1
      obtain ⟨a, xs, rfl, hs, rl⟩ := seq_sq ok rv e
      exact ⟨a, xs, rfl, hs, fun l hl => q _ _ _ _ _ (h l (ok.freshS hl)) (Same.refl I) (ok.newM hl rl) (by simp only [Rep])⟩
    · exact h.elim
  · exact h.elim
theorem i_tuple : ImpC K (fun xs H Q => ∃ p ys, xs = [.ref p] ∧ ((SqL K H p ys ∧ ∀ l, H l = none → Q (.ref l) (upd H l (.tup ys))) ∨ (SqT K H p ys ∧ Q (.ref p) H))) cTuple := by
  intro xs vs I S F H P Q ok r h q
  unfold cTuple at h
  split at h
  · rename_i x
    split at h
    · rename_i ds e
      obtain ⟨v, rfl, rv⟩ := r.inv1
      cases x with
      | tup es =>
        simp only [seqOf, Option.some.injEq] at e; subst e
        obtain ⟨a, xs, rfl, hs, rl⟩ := tup_sq ok rv
        exact ⟨a, xs, rfl, .inr ⟨hs, q _ _ _ _ _ h (Same.refl I) ok rv⟩⟩
      | _ =>
        simp only [seqOf] at e
        obtain ⟨a, xs, rfl, hs, rl⟩ := lst_sq ok rv e
        exact ⟨a, xs, rfl, .inl ⟨hs, fun l hl => q _ _ _ _ _ h (same_new (ok.freshI hl)) (ok.newI hl) (rep_new_tup (ok.freshI hl) rl)⟩⟩
    · exact h.elim
  · exact h.elim
/-! isinstance -/
def tyName (S : Store) : D → Option String
  | .non => some "NoneType"
  | .bl _ => some "bool"
  | .int _ => some "int"
  | .str _ => some "str"
  | .lst _ => some "list"
  | .tup _ => some "tuple"
  | .obj a => match S a with
    | some (.lst _) => some "list"
    | some (.dK _) => some "dict"
    | _ => none
  | _ => none
def isTy (m n : String) : Bool := m == n || (m == "bool" && n == "int")
def knownTy (n : String) : Bool := n == "bool" || n == "int" || n == "str" || n == "list" || n == "tuple" || n == "dict"
theorem kit_isTy : ∀ m ∈ ["NoneType", "bool", "int", "str", "list", "tuple", "dict"], ∀ n ∈ ["bool", "int", "str", "list", "tuple", "dict"], kitB m n = some (isTy m n) := by decide +kernel
theorem tyName_in {S : Store} {x : D} {m : String} (h : tyName S x = some m) : m ∈ ["NoneType", "bool", "int", "str", "list", "tuple", "dict"] := by
  unfold tyName at h
  split at h <;> first | (cases h; done) | skip
  all_goals try (simp only [Option.some.injEq] at h; subst h; decide)
  split at h <;> first | (cases h; done) | skip
  all_goals (simp only [Option.some.injEq] at h; subst h; decide)
theorem known_in {n : String} (h : knownTy n = true) : n ∈ ["bool", "int", "str", "list", "tuple", "dict"] := by
  unfold knownTy at h
  simp only [Bool.or_eq_true, beq_iff_eq] at h
  rcases h with ((((h | h) | h) | h) | h) | h <;> simp [h]
theorem ty_x {I F H : Hp} {S : Store} (ok : Ok K I S F H) {x : D} {v : V} {m : String} (r : Rep K I x v) (h : tyName S x = some m) : TyX K H v (.type m) := by
  cases x with
  | non => cases r.non_of; simp only [tyName, Option.some.injEq] at h; subst h; exact .base .non
  | bl b => cases r.bl_of; simp only [tyName, Option.some.injEq] at h; subst h; exact .base (.bl b)
  | int b => cases r.int_of; simp only [tyName, Option.some.injEq] at h; subst h; exact .base (.int b)
  | str b => cases r.str_of; simp only [tyName, Option.some.injEq] at h; subst h; exact .base (.str b)
  | lst ds =>
    obtain ⟨a, xs, rfl, e, _⟩ := r.lst_of
    simp only [tyName, Option.some.injEq] at h; subst h; exact .base (.lst (ok.i _ _ e))
  | ext ds => simp [tyName] at h
  | ty n => simp [tyName] at h
  | tup ds =>
    obtain ⟨a, xs, rfl, e, _⟩ := tup_sq ok r
    simp only [tyName, Option.some.injEq] at h; subst h
    rcases e with (e | ⟨o, e⟩) | ⟨o, its, n, e, c, _⟩
    · exact .base (.tup e)
    · exact .fTuple e
    · exact .kTuple e c
  | tq ds => simp [tyName] at h
  | obj a =>
    cases r.obj_of
    simp only [tyName] at h
    split at h
    · rename_i ds e
      simp only [Option.some.injEq] at h; subst h
      obtain ⟨_, xs, q, _⟩ := ok.s a _ e
      exact .base (.lst q)
    · rename_i ds e
      simp only [Option.some.injEq] at h; subst h
      obtain ⟨_, xs, q, _⟩ := ok.s a _ e
      exact .base (.dK q)
    · cases h
def tys : List D → Option (List String)
  | [] => some []
  | .ty n :: r => if knownTy n = true then (tys r).map (n :: ·) else none
  | _ => none
def cIsi : DC := fun xs S P => match xs with
  | [x, .ty n] => match tyName S x with
    | some m => knownTy n = true ∧ P (.bl (isTy m n)) S
    | none => False
  | [x, .tup cs] => match tyName S x, tys cs with
    | some m, some ns => P (.bl (ns.any fun n => isTy m n)) S
    | _, _ => False
  | _ => False
theorem tys_rep {I : Hp} {m : String} (hm : m ∈ ["NoneType", "bool", "int", "str", "list", "tuple", "dict"]) : ∀ {cs : List D} {vs : List V} {ns : List String}, RepL K I cs vs → tys cs = some ns →
    ∃ us : List Value, Paired ClsV vs us ∧ PySem.W.kitAny K (.type m) us = some (ns.any fun n => isTy m n)
  | [], vs, ns, r, h => by
    simp only [RepL] at r
    simp only [tys, Option.some.injEq] at h
    subst r h
    exact ⟨[], .nil, kitAny_nil⟩
  | d :: cs, vs, ns, r, h => by
    simp only [RepL] at r
    obtain ⟨v, r', rfl, h1, h2⟩ := r
    cases d with
    | ty n =>
      simp only [tys] at h
      split at h
      · rename_i hk
        cases e : tys cs with
        | none => rw [e] at h; cases h
        | some ms =>
          rw [e] at h
          simp only [Option.map_some, Option.some.injEq] at h
          subst h
          obtain ⟨us, p, q⟩ := tys_rep hm h2 e
          simp only [Rep] at h1
          subst h1
          refine ⟨.type n :: us, .cons (.ty n) p, kitAny_cons (b := isTy m n) (kit_ty (kit_isTy m hm n (known_in hk))) (fun e => ?_) (fun e => ?_)⟩
          · simp [e, q]
          · simp [e]
      · cases h
    | _ => simp [tys] at h
theorem i_isi : ImpC K (fun xs H Q => rIsi K xs H Q ∨ rIsiT K xs H Q ∨ rIsiK K xs H Q) cIsi := by
  intro xs vs I S F H P Q ok r h q
  unfold cIsi at h
  split at h
  · rename_i x n
    split at h
    · rename_i m e
      obtain ⟨v, w, rfl, rv, rw⟩ := r.inv2
      simp only [Rep] at rw
      subst rw
      exact .inl ⟨v, .ty n, .type m, .type n, isTy m n, rfl, .ty n, ty_x ok rv e, kit_ty (kit_isTy m (tyName_in e) n (known_in h.1)), q _ _ _ _ _ h.2 (Same.refl I) ok rep_bl⟩
    · exact h.elim
  · rename_i x cs
    split at h
    · rename_i m ns e1 e2
      obtain ⟨v, w, rfl, rv, rw⟩ := r.inv2
      obtain ⟨a, ys, rfl, hs, rl⟩ := rw.tup_of
      obtain ⟨us, p, hk⟩ := tys_rep (tyName_in e1) rl e2
      rcases hs with hs | ⟨o, its, n, lk, oc, od, _, vl⟩
      · exact .inr (.inl ⟨v, a, ys, .type m, us, _, rfl, ok.i _ _ hs, p, ty_x ok rv e1, hk, q _ _ _ _ _ h (Same.refl I) ok rep_bl⟩)
      · have eu := ClsV.all p vl
        obtain ⟨c1, d1, t1, sl1⟩ := o
        simp only at oc od
        subst oc od
        refine .inr (.inr ⟨v, a, d1, us, n, sl1, .type m, _, rfl, ?_, ty_x ok rv e1, hk, q _ _ _ _ _ h (Same.refl I) ok rep_bl⟩)
        rw [lk, ← eu]
    · exact h.elim
  · exact h.elim
end
end DL

namespace DL
open PySem PySem.Spec PyProof.Rows L2

/-! ### built-ins by name -/
theorem b_abs : bootBuiltins "abs" = some (.builtin "abs") := by decide +kernel
theorem b_max : bootBuiltins "max" = some (.builtin "max") := by decide +kernel
theorem b_min : bootBuiltins "min" = some (.builtin "min") := by decide +kernel
theorem b_len : bootBuiltins "len" = some (.builtin "len") := by decide +kernel
theorem b_any : bootBuiltins "any" = some (.builtin "any") := by decide +kernel
theorem b_all : bootBuiltins "all" = some (.builtin "all") := by decide +kernel
theorem b_isi : bootBuiltins "isinstance" = some (.builtin "isinstance") := by decide +kernel
theorem b_int : bootBuiltins "int" = some (.type "int") := by decide +kernel
theorem b_bool : bootBuiltins "bool" = some (.type "bool") := by decide +kernel
theorem b_str : bootBuiltins "str" = some (.type "str") := by decide +kernel
theorem b_list : bootBuiltins "list" = some (.type "list") := by decide +kernel
theorem b_tuple : bootBuiltins "tuple" = some (.type "tuple") := by decide +kernel
theorem b_dict : bootBuiltins "dict" = some (.type "dict") := by decide +kernel
section
variable {X : Cx} {pos p : Pos} {a b : Expr} {da db : DE} {es : List Expr} {ds : DA}
theorem je_abs (hm : X.mg "abs" = none) (ha : JA X [a] ds) (hg : Gl X "abs" := by rfl) (hs : starEach [a] X.env = [(false, eval a X.env)] := by rfl) : JE X (.Call (.Name "abs" p) [a] [] pos) (dCB cAbs ds) := je_callB call_abs i_abs hg hm b_abs ha (hs := hs) (hpl := by rfl)
theorem je_max2 (hm : X.mg "max" = none) (ha : JA X [a, b] ds) (hc : X.calm = true := by rfl) (hg : Gl X "max" := by rfl) (hs : starEach [a, b] X.env = (false, eval a X.env) :: starEach [b] X.env := by rfl) (hpl : (backTo pos (starEach [b] X.env)).any (·.1) = false := by rfl) : JE X (.Call (.Name "max" p) [a, b] [] pos) (dCB cMax2 ds) := je_callB (call_max2 hc) i_max2 hg hm b_max ha (hs := hs) (hpl := hpl)
theorem je_min2 (hm : X.mg "min" = none) (ha : JA X [a, b] ds) (hc : X.calm = true := by rfl) (hg : Gl X "min" := by rfl) (hs : starEach [a, b] X.env = (false, eval a X.env) :: starEach [b] X.env := by rfl) (hpl : (backTo pos (starEach [b] X.env)).any (·.1) = false := by rfl) : JE X (.Call (.Name "min" p) [a, b] [] pos) (dCB cMin2 ds) := je_callB (call_min2 hc) i_min2 hg hm b_min ha (hs := hs) (hpl := hpl)
theorem je_any (hm : X.mg "any" = none) (ha : JA X [a] ds) (hc : X.calm = true := by rfl) (hg : Gl X "any" := by rfl) (hs : starEach [a] X.env = [(false, eval a X.env)] := by rfl) : JE X (.Call (.Name "any" p) [a] [] pos) (dCB cAny ds) := je_callB (cr_any hc) i_any hg hm b_any ha (hs := hs) (hpl := by rfl)
theorem je_all (hm : X.mg "all" = none) (ha : JA X [a] ds) (hc : X.calm = true := by rfl) (hg : Gl X "all" := by rfl) (hs : starEach [a] X.env = [(false, eval a X.env)] := by rfl) : JE X (.Call (.Name "all" p) [a] [] pos) (dCB cAll ds) := je_callB (cr_all hc) i_all hg hm b_all ha (hs := hs) (hpl := by rfl)
theorem je_len (hm : X.mg "len" = none) (ha : JA X [a] ds) (hg : Gl X "len" := by rfl) (hs : starEach [a] X.env = [(false, eval a X.env)] := by rfl) : JE X (.Call (.Name "len" p) [a] [] pos) (dCB cLen ds) := je_callB (call_len_seq.or call_len_str) i_len hg hm b_len ha (hs := hs) (hpl := by rfl)
theorem je_isi (hm : X.mg "isinstance" = none) (ha : JA X [a, b] ds) (hg : Gl X "isinstance" := by rfl) (hs : starEach [a, b] X.env = (false, eval a X.env) :: starEach [b] X.env := by rfl) (hpl : (backTo pos (starEach [b] X.env)).any (·.1) = false := by rfl) : JE X (.Call (.Name "isinstance" p) [a, b] [] pos) (dCB cIsi ds) := je_callB (call_isi.or (call_isiT.or call_isiK)) i_isi hg hm b_isi ha (hs := hs) (hpl := hpl)
theorem je_intC (hm : X.mg "int" = none) (ha : JA X [a] ds) (hg : Gl X "int" := by rfl) (hs : starEach [a] X.env = [(false, eval a X.env)] := by rfl) : JE X (.Call (.Name "int" p) [a] [] pos) (dCB cInt ds) := je_callTy call_int1 i_int hg hm b_int ha (hs := hs) (hpl := by rfl)
theorem je_listCM (hm : X.mg "list" = none) (ha : JA X [a] ds) (hg : Gl X "list" := by rfl) (hs : starEach [a] X.env = [(false, eval a X.env)] := by rfl) : JE X (.Call (.Name "list" p) [a] [] pos) (dCB cListM ds) := je_callTy call_list_of i_listM hg hm b_list ha (hs := hs) (hpl := by rfl)
theorem je_tupC (hm : X.mg "tuple" = none) (ha : JA X [a] ds) (hg : Gl X "tuple" := by rfl) (hs : starEach [a] X.env = [(false, eval a X.env)] := by rfl) : JE X (.Call (.Name "tuple" p) [a] [] pos) (dCB cTuple ds) := je_callTy call_tuple_of i_tuple hg hm b_tuple ha (hs := hs) (hpl := by rfl)
theorem je_tyInt (hm : X.mg "int" = none) (hg : Gl X "int" := by rfl) : JE X (.Name "int" p) (dC (.ty "int")) := je_ty hg hm b_int
theorem je_tyBool (hm : X.mg "bool" = none) (hg : Gl X "bool" := by rfl) : JE X (.Name "bool" p) (dC (.ty "bool")) := je_ty hg hm b_bool
theorem je_tyStr (hm : X.mg "str" = none) (hg : Gl X "str" := by rfl) : JE X (.Name "str" p) (dC (.ty "str")) := je_ty hg hm b_str
theorem je_tyList (hm : X.mg "list" = none) (hg : Gl X "list" := by rfl) : JE X (.Name "list" p) (dC (.ty "list")) := je_ty hg hm b_list
theorem je_tyTuple (hm : X.mg "tuple" = none) (hg : Gl X "tuple" := by rfl) : JE X (.Name "tuple" p) (dC (.ty "tuple")) := je_ty hg hm b_tuple
theorem je_tyDict (hm : X.mg "dict" = none) (hg : Gl X "dict" := by rfl) : JE X (.Name "dict" p) (dC (.ty "dict")) := je_ty hg hm b_dict
end

/-! ### what is walked -/
/-- a list that may change, walked, is to stay -/
def pinOf (S : Store) : D → Option (Store → Prop)
  | .obj l => some fun S' => S' l = S l
  | _ => none
def dItSeq (d : DE) : DI := fun ρ S P => d ρ S fun x S1 => match seqOf S1 x with
  | some ds => P ds (pinOf S1 x) S1
  | none => False
def rng (lo : Int) (n : Nat) : List D := (List.range n).map fun (i : Nat) => .int (lo + (i : Int))
theorem rng_len (lo : Int) (n : Nat) : (rng lo n).length = n := by simp [rng]
theorem rng_get {lo : Int} {n i : Nat} {d : D} (h : (rng lo n)[i]? = some d) : i < n ∧ d = .int (lo + (i : Int)) := by
  unfold rng at h
  rw [List.getElem?_map] at h
  by_cases hi : i < n
  · rw [List.getElem?_range hi] at h
    cases h
    exact ⟨hi, rfl⟩
  · rw [List.getElem?_eq_none (by simpa using hi)] at h; cases h
def dRng1 (a : DA) : DI := fun ρ S P => a ρ S fun xs S1 => match xs with
  | [.int j] => -(2 ^ 62) ≤ j ∧ j < 2 ^ 62 ∧ P (rng 0 j.toNat) none S1
  | _ => False
def dRng2 (a : DA) : DI := fun ρ S P => a ρ S fun xs S1 => match xs with
  | [.int i, .int j] => (-(2 ^ 62) ≤ i ∧ i < 2 ^ 62 ∧ -(2 ^ 62) ≤ j ∧ j < 2 ^ 62) ∧ P (rng i (j - i).toNat) none S1
  | _ => False
def zipD (as bs : List D) : List D := List.zipWith (fun a b => .tup [a, b]) as bs
section
variable {X : Cx} {pos p : Pos} {tg a b c : Expr} {da db : DE} {es : List Expr} {ds : DA}
/-- a list or a tuple -/
theorem pi_seq {l : Expr} {tl : TE} (hl : PE X l tl) : PI X tg l (fun σ H R => tl σ H fun x H1 => ∃ a, x = .ref a ∧ (((∃ xs, SqL X.K H1 a xs) ∧ R (Itl X.K a) H1) ∨ ((∃ xs, SqT X.K H1 a xs) ∧ R (Itt X.K a) H1))) := by
  refine ⟨fun pins s σ H R I h => ?_⟩
  refine thn (hl.run pins s σ H _ I h) fun v s1 ⟨x, H1, I1, r1, q1⟩ => ?_
  obtain ⟨a, e, q1⟩ := q1
  subst e
  cases r1
  rcases q1 with ⟨⟨xs, hq⟩, q⟩ | ⟨⟨xs, hq⟩, q⟩
  · obtain ⟨its, rv, p, hz⟩ := I1.list hq
    refine wpAny_pyIter_list p.isList ?_
    refine ⟨s1.heap.objs.size, [s1.heap.objs.size], _, _, H1, rfl, I1.kept (t' := s1.toks) fun b o e => Heap.get?_push_of_some _ e, turn_list a _, ⟨_, Heap.get?_push_size _ rfl, rfl, rfl⟩, fun b hb => ?_, q⟩
    have e : b = s1.heap.objs.size := by simpa using hb
    subst e
    exact I1.fpOk (Nat.le_refl _) (I1.hok.fresh (Nat.le_refl _))
  · obtain ⟨its, rv, p, hz⟩ := I1.tuple hq
    refine wpAny_pyIter_tuple (show s1.heap.IsTuple a its.toArray from p) ?_
    refine ⟨s1.heap.objs.size, [s1.heap.objs.size], _, _, H1, rfl, I1.kept (t' := s1.toks) fun b o e => Heap.get?_push_of_some _ e, turn_tuple a _, ⟨_, Heap.get?_push_size _ rfl, rfl, rfl⟩, fun b hb => ?_, q⟩
    have e : b = s1.heap.objs.size := by simpa using hb
    subst e
    exact I1.fpOk (Nat.le_refl _) (I1.hok.fresh (Nat.le_refl _))
theorem itl_ok {K : PySem.W.Frag} {I : Hp} {a : Addr} {ds : List D} {pin : Option (Store → Prop)} (hs : ∀ I2 S F H, Same I I2 → Ok K I2 S F H → PinOk pin S → ∃ xs, SqL K H a xs ∧ RepL K I2 ds xs) : ItOk K I (Itl K a) ds pin where
  go I2 S F H e ok pk i d hd := by
    obtain ⟨xs, h2, rl⟩ := hs I2 S F H e ok pk
    obtain ⟨v, e1, r1⟩ := rl.get hd
    refine ⟨⟨xs, v, h2, e1⟩, fun x H' hy => ?_⟩
    obtain ⟨rfl, hy⟩ := hy
    have := hy xs h2
    rw [e1] at this
    cases this
    exact ⟨I2, Same.refl _, ok, r1⟩
  stop I2 S F H e ok pk i hi := by
    obtain ⟨xs, h2, rl⟩ := hs I2 S F H e ok pk
    exact ⟨xs, h2, by rw [rl.len]; exact Nat.le_of_eq hi.symm⟩
theorem itt_ok {K : PySem.W.Frag} {I : Hp} {a : Addr} {ds : List D} {pin : Option (Store → Prop)} (hs : ∀ I2 S F H, Same I I2 → Ok K I2 S F H → PinOk pin S → ∃ xs, SqT K H a xs ∧ RepL K I2 ds xs) : ItOk K I (Itt K a) ds pin where
  go I2 S F H e ok pk i d hd := by
    obtain ⟨xs, h2, rl⟩ := hs I2 S F H e ok pk
    obtain ⟨v, e1, r1⟩ := rl.get hd
    refine ⟨⟨xs, v, h2, e1⟩, fun x H' hy => ?_⟩
    obtain ⟨rfl, hy⟩ := hy
    have := hy xs h2
    rw [e1] at this
    cases this
    exact ⟨I2, Same.refl _, ok, r1⟩
  stop I2 S F H e ok pk i hi := by
    obtain ⟨xs, h2, rl⟩ := hs I2 S F H e ok pk
    exact ⟨xs, h2, by rw [rl.len]; exact Nat.le_of_eq hi.symm⟩
/-- a list (b false) or a tuple (b true) -/
def Sq (b : Bool) (K : PySem.W.Frag) (H : Hp) (a : Addr) (xs : List V) : Prop := match b with | true => SqT K H a xs | false => SqL K H a xs
theorem src_sq {K : PySem.W.Frag} {I F H : Hp} {S : Store} {x : D} {v : V} {ds : List D} (ok : Ok K I S F H) (r : Rep K I x v) (h : seqOf S x = some ds) :
    ∃ b a, v = .ref a ∧ ∀ I2 S2 F2 H2, Same I I2 → Ok K I2 S2 F2 H2 → PinOk (pinOf S x) S2 → ∃ xs, Sq b K H2 a xs ∧ RepL K I2 ds xs := by
  cases x with
  | tup es =>
    simp only [seqOf, Option.some.injEq] at h; subst h
    obtain ⟨a, xs, rfl, hs, rl⟩ := r.tup_of
    exact ⟨true, a, rfl, fun I2 S2 F2 H2 e ok2 _ => ⟨xs, sqT_same ok2.same (tupAt_same e hs), rl.mono e⟩⟩
  | lst es =>
    simp only [seqOf, lstOf, Option.some.injEq] at h; subst h
    obtain ⟨a, xs, rfl, hs, rl⟩ := r.lst_of
    exact ⟨false, a, rfl, fun I2 S2 F2 H2 e ok2 _ => ⟨xs, ok2.same.seq (e.seq (.of hs)), rl.mono e⟩⟩
  | ext es =>
    simp only [seqOf, lstOf, Option.some.injEq] at h; subst h
    obtain ⟨a, xs, rfl, hs, rl⟩ := r.ext_of
    exact ⟨false, a, rfl, fun I2 S2 F2 H2 e ok2 _ => ⟨xs, ok2.same.seq (e.seq hs), rl.mono e⟩⟩
  | obj l =>
    simp only [seqOf, lstOf] at h
    cases e : S l with
    | none => simp [e] at h
    | some m =>
      cases m with
      | lst es =>
        simp [e] at h; subst h
        refine ⟨false, l, r.obj_of, fun I2 S2 F2 H2 e2 ok2 pk => ?_⟩
        have pk' : S2 l = S l := pk
        rw [e] at pk'
        obtain ⟨_, ys, q2, rl⟩ := ok2.s l _ pk'
        exact ⟨ys, .of q2, rl⟩
      | _ => simp [e] at h
  | _ => simp [seqOf, lstOf] at h
theorem pin_self (S : Store) (x : D) : PinOk (pinOf S x) S := by
  cases x <;> first | trivial | rfl
theorem ji_seq (h : JE X a da) : JI X tg a (dItSeq da) :=
  ji_of (pi_seq h) fun σ H R h0_ => El54 h0_ fun ρ I S F P rs ok hh q => ⟨ρ, I, S, F, _, rs, ok, hh, fun x S1 v I1 H1 h1 e1 ok1 r1 => by
    split at h1
    · rename_i ds hds
      obtain ⟨b, a, rfl, hs⟩ := src_sq ok1 r1 hds
      obtain ⟨xs, q1, _⟩ := hs _ _ _ _ (Same.refl _) ok1 (pin_self _ _)
      cases b
      · exact ⟨a, rfl, .inl ⟨⟨xs, q1⟩, q _ _ _ _ _ _ h1 e1 ok1 (itl_ok hs)⟩⟩
      · exact ⟨a, rfl, .inr ⟨⟨xs, q1⟩, q _ _ _ _ _ _ h1 e1 ok1 (itt_ok hs)⟩⟩
    · exact h1.elim⟩
theorem itr_ok {K : PySem.W.Frag} {I : Hp} (lo : Int) (n : Nat) : ItOk K I (Itr lo n) (rng lo n) none where
  go I2 S F H e ok _ i d hd := by
    obtain ⟨hi, rfl⟩ := rng_get hd
    exact ⟨hi, fun x H' ⟨e1, e2⟩ => ⟨I2, Same.refl _, by rw [e1]; exact ok, by rw [e2]; exact rep_int⟩⟩
  stop I2 S F H e ok _ i hi := by rw [rng_len] at hi; exact Nat.le_of_eq hi.symm
theorem ji_range1 (hm : X.mg "range" = none) (ha : JA X [a] ds) (hg : Gl X "range" := by rfl) (hs : starEach [a] X.env = [(false, eval a X.env)] := by rfl) : JI X tg (.Call (.Name "range" p) [a] [] pos) (dRng1 ds) :=
  ji_of (pi_range1 hg hm ha hs) fun σ H R h0_ => El54 h0_ fun ρ I S F P rs ok hh q => ⟨ρ, I, S, F, _, rs, ok, hh, fun xs S1 v I1 H1 h1 e1 ok1 r1 => by
    split at h1
    · obtain ⟨v, rfl, rv⟩ := r1.inv1
      cases rv.int_of
      exact ⟨_, rfl, h1.1, h1.2.1, q _ _ _ _ _ _ h1.2.2 e1 ok1 (itr_ok _ _)⟩
    · exact h1.elim⟩
theorem ji_range2 (hm : X.mg "range" = none) (ha : JA X [a, b] ds) (hg : Gl X "range" := by rfl) (hs : starEach [a, b] X.env = [(false, eval a X.env), (false, eval b X.env)] := by rfl) (hs2 : starEach [b] X.env = [(false, eval b X.env)] := by rfl) : JI X tg (.Call (.Name "range" p) [a, b] [] pos) (dRng2 ds) :=
  ji_of (pi_range2 hg hm ha hs hs2) fun σ H R h0_ => El54 h0_ fun ρ I S F P rs ok hh q => ⟨ρ, I, S, F, _, rs, ok, hh, fun xs S1 v I1 H1 h1 e1 ok1 r1 => by
    split at h1
    · obtain ⟨v, w, rfl, rv, rw⟩ := r1.inv2
      cases rv.int_of; cases rw.int_of
      exact ⟨_, _, rfl, h1.1, q _ _ _ _ _ _ h1.2 e1 ok1 (itr_ok _ _)⟩
    · exact h1.elim⟩
theorem rep_tup2 {K : PySem.W.Frag} {I : Hp} {T : Addr} {x y : V} {d e : D} (n : I T = none) (h1 : Rep K I d x) (h2 : Rep K I e y) : Rep K (upd I T (.tup [x, y])) (.tup [d, e]) (.ref T) := rep_new_tup n (RepL.cons h1 (RepL.one h2))
end

/-! ### changes -/
section
variable {X : Cx} {pos p apos : Pos} {tg a b c o i : Expr} {da db d1 d2 : DE} {es : List Expr} {ds : DA}
def dAppend (a b : DE) : DE := fun ρ S P => a ρ S fun x S1 => match x with
  | .obj l => ∃ es, S1 l = some (.lst es) ∧ b ρ S1 fun y S2 => ∃ ds, S2 l = some (.lst ds) ∧ ds.length < 100000 ∧ P .non (supd S2 l (.lst (ds ++ [y])))
  | _ => False
theorem je_append (ha : JE X o da) (hb : JE X a db) (hbase : attributeBase o "append" X.env (eval o X.env) = eval o X.env := by rfl) (hs0 : starEach [a] X.env = [(false, eval a X.env)] := by rfl)
    (hfew : ((backTo pos (starEach [a] X.env)).all (fun x => !x.1) && (backToKw pos (keywordEach [] X.env)).all (fun x => x.1.isSome)
      && decide ([a].length + ([] : List Keyword).length + (if ([] : List Keyword).isEmpty then 0 else 1) < 30)) = true := by rfl)
    (hline : (apos.endLine == pos.line) = true := by rfl) : JE X (.Call (.Attribute o "append" apos) [a] [] pos) (dAppend da db) :=
  je_of (pe_bm PySem.F.plainAttrs_list PySem.F.slot_list_append PySem.F.type_list_append mt_append ha (pa_cons hb pa_nil hs0) hbase hfew hline (hs := hs0) (hplain := by rfl)) fun σ H Q h0_ => El54 h0_ fun ρ I S F P rs ok hh q =>
    ⟨ρ, I, S, F, _, rs, ok, hh, fun x S1 v I1 H1 h1 e1 ok1 r1 => by
      cases x with
      | obj l =>
        obtain ⟨es, e2, h2⟩ := h1
        obtain ⟨_, ys, q2, _⟩ := ok1.s l _ e2
        cases r1.obj_of
        refine ⟨.inl ⟨rfl, ys, .of q2⟩, ρ, I1, S1, F, _, rs.mono e1, ok1, h2, fun y S2 w I2 H2 h3 e3 ok2 r2 => ?_⟩
        obtain ⟨ds, e4, hl, h4⟩ := h3
        obtain ⟨_, zs, q4, rl⟩ := ok2.s l _ e4
        refine ⟨l, zs, w, rfl, rfl, q4, ?_, q _ _ _ _ _ h4 (e1.trans e3) (ok2.writeL e4 (rl.app (RepL.one r2))) rep_non⟩
        rw [rl.len]
        exact Nat.lt_of_lt_of_le hl (by decide)
      | _ => exact h1.elim⟩
/-- o[i] = e -/
def dSetIx (de d1 d2 : DE) : DS := fun DD ρ S => de ρ S fun x S1 => d1 ρ S1 fun o S2 => d2 ρ S2 fun i S3 => match o, i with
  | .obj l, .int k => match S3 l with
    | some (.lst ds) => match ixN ds.length k with
      | some j => DD.nx ρ (supd S3 l (.lst (ds.set j x)))
      | none => False
    | _ => False
  | _, _ => False
theorem js_setIx {e : Expr} {de : DE} (he : JE X e de) (ho : JE X o d1) (hi : JE X i d2)
    (ha : ∀ v, assign (.Subscript o i p) X.env v = (do
      let ov ← holding [v] (eval o X.env)
      let iv ← holding [v, ov] (eval i X.env)
      standAt p
      holding [v, ov, iv] (setItem ov iv v)
      release [v, ov, iv] []) := by intro _; rfl)
    (hs : swapsWithSole [.Subscript o i p] e pos.line X.env = pure false := by rfl) (hw : swappedStores [.Subscript o i p] e X.env = pure none := by rfl)
    (h1 : (assignEach [.Subscript o i p] X.env).map (·.2) = [assign (.Subscript o i p) X.env] := by rfl) : JS X (.Assign [.Subscript o i p] e pos) (dSetIx de d1 d2) :=
  js_of (ps_asg he (pg_sub ho hi set_list ha) hs hw h1) fun D σ H h0_ => El54 h0_ fun ρ I S F DD rs ok h q => ⟨ρ, I, S, F, _, rs, ok, h, fun x S1 v I1 H1 h1 e1 ok1 r1 =>
    ⟨ρ, I1, S1, F, _, rs.mono e1, ok1, h1, fun o S2 w I2 H2 h2 e2 ok2 r2 => ⟨ρ, I2, S2, F, _, rs.mono (e1.trans e2), ok2, h2, fun i S3 u I3 H3 h3 e3 ok3 r3 => by
      have rx := r1.mono (e2.trans e3)
      have ro := r2.mono e3
      split at h3
      · rename_i l k
        split at h3
        · rename_i ds eS
          split at h3
          · rename_i j ej
            obtain ⟨_, zs, q4, rl⟩ := ok3.s l _ eS
            cases ro.obj_of
            cases r3.int_of
            refine ⟨l, zs, k, j, rfl, rfl, q4, by rw [rl.len]; exact ej, q.nx _ _ _ _ _ h3 ((e1.trans e2).trans e3) (ok3.writeL eS (rl.set j rx)) (rs.mono ((e1.trans e2).trans e3))⟩
          · exact h3.elim
        · exact h3.elim
      · exact h3.elim⟩⟩⟩
/-! in-place operators on a name -/
theorem i_iadd {K : PySem.W.Frag} : ImpIp K (rI0 fun i j => .int (i + j)) (fun x y S P => match x, y with
  | .int i, .int j => P (.int (i + j)) S
  | _, _ => False) := by
  intro x y v w I S F H P Q ok rx ry h q
  split at h
  · cases rx.int_of; cases ry.int_of
    exact ⟨_, _, rfl, rfl, q _ _ _ _ _ h (Same.refl I) ok rep_int⟩
  · exact h.elim
theorem iop_mulA : OpR X (inplaceOp .Mult) (rI MulB fun i j => .int (i * j)) := opI fun i j _ _ _ _ _ hc q => by
  rcases hc with h | h
  · exact imul_int q h.ok
  · exact imul_int q h.ok
def dIAdd : D2 := fun x y S P => match x, y with
  | .int i, .int j => P (.int (i + j)) S
  | _, _ => False
def dIMul : D2 := fun x y S P => match x, y with
  | .int i, .int j => MulB i j ∧ P (.int (i * j)) S
  | _, _ => False
theorem i_imul {K : PySem.W.Frag} : ImpIp K (rI MulB fun i j => .int (i * j)) dIMul := by
  intro x y v w I S F H P Q ok rx ry h q
  unfold dIMul at h
  split at h
  · cases rx.int_of; cases ry.int_of
    exact ⟨_, _, rfl, rfl, h.1, q _ _ _ _ _ h.2 (Same.refl I) ok rep_int⟩
  · exact h.elim
variable {e : Expr} {de : DE} {x : Str} {pos' : Pos}
theorem js_iadd (i : Nat) (hN : X.N.Nodup) (hi : X.N[i]? = some x) (hx : Loc X.env.scope x) (he : JE X e de) (hf : X.fn x = true ∨ X.env.scope.names.lookup x = some .local := by first | exact .inl rfl | exact .inr rfl | assumption) : JS X (.AugAssign (.Name x pos') .Add e pos) (dAug i dIAdd de) := js_aug i hN hi hx he (ti := rI0 fun i j => .int (i + j)) iop_add i_iadd hf
theorem js_imul (i : Nat) (hN : X.N.Nodup) (hi : X.N[i]? = some x) (hx : Loc X.env.scope x) (he : JE X e de) (hf : X.fn x = true ∨ X.env.scope.names.lookup x = some .local := by first | exact .inl rfl | exact .inr rfl | assumption) : JS X (.AugAssign (.Name x pos') .Mult e pos) (dAug i dIMul de) := js_aug i hN hi hx he (ti := rI MulB fun i j => .int (i * j)) iop_mulA i_imul hf
end
end DL

namespace DL
open PySem PySem.Spec PyProof.Rows L2

/-- the def called x keeps its promise sp, called with every argument by its place -/
structure Does (P : Program) (w : World) (K : PySem.W.Frag) (mg : Str → Option Value) (base : Heap) (k : Nat) (x : Str) (ps : List Str) (f : Addr) (fd : FuncData) (sp : DSp) : Prop where
  g : mg x = some (.ref f)
  kp : PySem.W.keepIn K (.ref f) = true
  b : Binds K fd ps []
  ok : FnD P w K mg base k f fd ps sp
section
variable {X : Cx} {pos p : Pos} {a : Expr} {es : List Expr} {ds : DA} {k j : Nat} {x : Str} {ps : List Str} {f : Addr} {fd : FuncData} {sp : DSp}
theorem je_f (G : Does X.prog X.w X.K X.mg X.base k x ps f fd sp) (hr : DG.RoomG j X.A) (ha : JA X (a :: es) ds) (hk : k ≤ j := by decide) (hg : Gl X x := by rfl) (hdb : (x == ("__debug__" : Str)) = false := by decide) (he : starEach (a :: es) X.env = (false, eval a X.env) :: starEach es X.env := by rfl)
    (hpl : (backTo pos (starEach es X.env)).any (·.1) = false := by rfl) : JE X (.Call (.Name x p) (a :: es) [] pos) (dCB sp ds) :=
  je_of (je_call G.ok (hr.mono hk) hg G.g G.kp G.b .nil (fun _ => RepL.nil) ha hdb he hpl) fun σ H Q h0_ => El54 h0_ fun ρ I S F P rs ok h q => ⟨ρ, I, S, F, P, rs, ok, by simpa only [dCall, dCB, List.append_nil] using h, q⟩
variable {ks : List Str} {n m : Nat} {perm : List Nat} {kws : List Keyword} {dk : DA}
theorem je_fk0 (G : Does X.prog X.w X.K X.mg X.base k x ps f fd sp) (hr : DG.RoomG j X.A) (hb : KBn X.K fd ps 0 ks (pick perm) (pick perm)) (hkw : JK X kws dk) (hl : ks.length = m := by rfl) (hk : k ≤ j := by decide) (hg : Gl X x := by rfl)
    (hall : (backToKw pos (keywordEach kws X.env)).all (·.1.isSome) = true := by rfl) (hks : (backToKw pos (keywordEach kws X.env)).filterMap (·.1) = ks := by rfl)
    (hdb : (x == ("__debug__" : Str)) = false := by decide)
    (hpl : ((backTo pos (starEach [] X.env)).any (·.1) || (backToKw pos (keywordEach kws X.env)).any (·.1.isNone)) = false := by rfl) :
    JE X (.Call (.Name x p) [] kws pos) (dCallK sp 0 m perm dNil dk) := hl ▸ je_callK0 G.ok (hr.mono hk) hg G.g G.kp hb hkw hall hks hdb hpl
end
/-! ### chains -/
section
variable {X : Cx} {pos : Pos} {a b c : Expr} {da db dc : DE} {op op' : CmpOp} {r r' : R2} {o o' : D2}
def dChainR (o o' : D2) (da db dc : DE) : DE := fun ρ S P => da ρ S fun x S1 => db ρ S1 fun y S2 => o x y S2 fun z S3 => match z with
  | .bl k => if k = true then dc ρ S3 fun u S4 => o' y u S4 P else P (.bl false) S3
  | _ => False
end
end DL

namespace DL
open PySem PySem.Spec PyProof.Rows L2

/-! ### the law's own promise -/
def sp_law : DSp := fun ds S P => ∃ ns : List Int, ds = [.ext (ns.map .int)] ∧ ns.length ≤ 63 ∧ ∀ S', P (.bl true) S'
def spLaw (K : PySem.W.Frag) : Sp := fun vs H Q _ => ∃ (a : Addr) (ns : List Int), vs = [.ref a] ∧ SqL K H a (ns.map V.int) ∧ ns.length ≤ 63 ∧ ∀ H', Q (.bl true) H'
theorem repL_ints {K : PySem.W.Frag} {I : Hp} : ∀ ns : List Int, RepL K I (ns.map .int) (ns.map V.int)
  | [] => RepL.nil
  | n :: ns => RepL.cons rep_int (repL_ints ns)
theorem law_up {K : PySem.W.Frag} : ∀ vs H Q E, spLaw K vs H Q E → upSp K sp_law vs H Q E := fun vs H Q E ⟨a, ns, e, hs, hl, q⟩ => by
  subst e
  refine ⟨[.ext (ns.map .int)], fun b => if b = a then H b else none, fun _ => none, fun _ => none, fun x _ => x = .bl true, RepL.one ?_, ⟨fun b o e => ?_, fun b m e => (nomatch e), fun b o e => (nomatch e)⟩, ⟨ns, rfl, hl, fun _ => rfl⟩, fun x S' v I' H' p _ _ r => ?_⟩
  · simp only [Rep]
    refine ⟨a, _, rfl, ?_, repL_ints ns⟩
    rcases hs with (h | ⟨o, h⟩) | h
    · exact .inl (.inl (by simpa using h))
    · exact .inl (.inr ⟨o, by simpa using h⟩)
    · exact .inr h
  · by_cases z : b = a
    · rw [if_pos z] at e; exact e
    · rw [if_neg z] at e; cases e
  · subst p
    rw [r.bl_of]
    exact q H'
theorem law_len : ∀ ds S P, sp_law ds S P → ds.length = 1 := fun ds S P ⟨ns, e, _⟩ => by rw [e]; rfl
end DL

namespace DZ
open PySem PySem.Spec PyProof.Rows L2
open Sem (wp)
/-! zip(a, b, strict=True) -/
abbrev IsZipS (h : Heap) (z TI TO : Addr) (f0 : Value) : Prop :=
  h.get? z = some { cls := .type "zip", dict := none, data := .fields #[f0, .bool false, .bool true, .ref TI, .ref TO], slots := #[] }
section
variable {prog : Program} {w : World} {A : Around} {E : Value → Shared → Prop} {s : Shared}
theorem orEnd_item {it : Addr} {fp : List Addr} {n i : Nat} {P : Nat → Value → Prop} {St : Nat → Heap → Prop} {Q : Option Value → Shared → Prop} (D : Draws prog w A it fp n P St) (hi : i < n) (st : St i s.heap)
    (hQ : ∀ x h' tk, P i x → St (i + 1) h' → Heap.SameBut it s.heap h' → Q (some x) { s with heap := h', toks := tk }) : wpAny (model prog w) A (Builtin.SmallTypes.nextOrEnd (.ref it)) Q E s := by
  unfold Builtin.SmallTypes.nextOrEnd
  exact wpAny_bind (wpAny_attempt (D.item i _ _ _ hi st fun x h' tk a b c => wpAny_pure (hQ x h' tk a b c)))
theorem orEnd_done {it : Addr} {fp : List Addr} {n : Nat} {P : Nat → Value → Prop} {St : Nat → Heap → Prop} {Q : Option Value → Shared → Prop} (D : Draws prog w A it fp n P St) (st : St n s.heap)
    (hQ : ∀ h', Heap.ExtBut it s.heap h' → Q none { s with heap := h' }) : wpAny (model prog w) A (Builtin.SmallTypes.nextOrEnd (.ref it)) Q E s := by
  unfold Builtin.SmallTypes.nextOrEnd
  refine wpAny_bind (wpAny_attempt (D.done s _ _ st fun h' e hk he => ?_))
  obtain ⟨o, ho, hc⟩ := he
  exact wpAny_bind (wpAny_isInstance (T := "StopIteration") (b := true) ⟨o, ho, hc⟩ isSubtype_stop (wpAny_pure (hQ _ hk)))
theorem stop_raises {α : Type} {Q : α → Shared → Prop} (hh : A.handled = none)
    (hE : ∀ h' e, (∀ c o, s.heap.get? c = some o → h'.get? c = some o) → (∃ o, h'.get? e = some o ∧ o.cls = .type "StopIteration") → E (.ref e) { s with heap := h' }) : wpAny (model prog w) A (Builtin.SmallTypes.stopIteration : Sem α) Q E s := by
  unfold Builtin.SmallTypes.stopIteration
  refine wpAny_bind ?_
  simp only [newExc, newTuple]
  refine wpAny_bind (wpAny_newObj_type ?_ (by size_fits))
  refine wpAny_bind (m := firstArgMember _ _) (wpAny_of_eq (a := Value.none) (by first | rfl | (simp only [firstArgMember]; rfl)) ?_)
  refine wpAny_newObj_type ?_ (by size_fits)
  simp only [raiseNew]
  refine wpAny_bind (wpAny_handled ?_)
  rw [hh]
  refine wpAny_bind (wpAny_pure (wpAny_throw ?_))
  exact hE _ _ (fun c o e => Heap.get?_push_of_some _ (Heap.get?_push_of_some _ e)) ⟨_, Heap.get?_push_size _ rfl, rfl⟩
end
section
variable {prog : Program} {w : World} {A : Around} {E : Value → Shared → Prop} {s : Shared} {z TI TO i1 i2 : Addr} {fp1 fp2 : List Addr} {n1 n2 i : Nat} {P1 P2 : Nat → Value → Prop} {St1 St2 : Nat → Heap → Prop} {a1 a2 : Value}
theorem zS_next_item {Q : Value → Shared → Prop} (S : ZipSep2 z TI TO i1 i2 fp1 fp2) (D1 : Draws prog w A i1 fp1 n1 P1 St1) (D2 : Draws prog w A i2 fp2 n2 P2 St2)
    (hz : IsZipS s.heap z TI TO .none) (hTI : IsTupOf2 s.heap TI (.ref i1) (.ref i2)) (hTO : IsTupOf2 s.heap TO a1 a2) (st1 : St1 i s.heap) (st2 : St2 i s.heap) (hlt1 : i < n1) (hlt2 : i < n2)
    (hQ : ∀ x1 x2 h' tk, P1 i x1 → P2 i x2 → IsZipS h' z TI TO (rawInt s.heap.objs.size) → IsTupOf2 h' TO x1 x2 → St1 (i + 1) h' → St2 (i + 1) h' → IsTupOf2 h' s.heap.objs.size x1 x2 → h'.objs.size = s.heap.objs.size + 1 →
      (∀ c o, c ≠ z → c ≠ TO → c ≠ i1 → c ≠ i2 → s.heap.get? c = some o → h'.get? c = some o) → Q (.ref s.heap.objs.size) { s with heap := h', toks := tk }) :
    wpAny (model prog w) A (Builtin.«zip.__next__» ⟨[.ref z], []⟩) (fun fin s' => ∃ v, fin = .done (.ret v) ∧ Q v s') E s := by
  obtain ⟨hp, g, d, tk0, os⟩ := s
  show wpAny _ _ (field (.ref z) 2 >>= _) _ _ _
  refine wpAny_bind (wpAny_field hz rfl (x := .bool true) rfl ?_)
  show wpAny _ _ (field (.ref z) 3 >>= _) _ _ _
  refine wpAny_bind (wpAny_field hz rfl (x := .ref TI) rfl ?_)
  refine wpAny_bind (wpAny_seqItems hTI rfl ?_)
  show wpAny _ _ (Builtin.SmallTypes.ownedTupleIsFree (.ref z) >>= _) _ _ _
  refine wpAny_bind ?_
  unfold Builtin.SmallTypes.ownedTupleIsFree
  refine wpAny_bind (wpAny_field hz rfl (x := .none) rfl (wpAny_pure ?_))
  simp only [if_true]
  refine wpAny_bind (wpAny_rule ?_)
  refine wpAny_bind (wpAny_field hz rfl (x := .ref TO) rfl ?_)
  refine wpAny_bind (wpAny_setField_rec hz (by simp) fun g0 hz0 hs0 => ?_)
  replace hz0 : IsZipS g0 z TI TO .ellipsis := hz0
  replace hs0 : Heap.SameBut z hp g0 := hs0
  refine wpAny_bind ?_
  simp only [List.zipIdx_cons, List.zipIdx_nil, List.forIn_cons, List.forIn_nil]
  refine wpAny_bind (wpAny_bind (wpAny_onRaise ?_))
  show wpAny _ _ (Builtin.SmallTypes.nextOrEnd (.ref i1)) _ _ ⟨g0, g, d, tk0, os⟩
  refine orEnd_item (s := ⟨g0, g, d, tk0, os⟩) D1 hlt1 (D1.over st1 hs0 S.zf1) fun x1 p1 tk1 hx1 sn1 hp1 => ?_
  replace hp1 : Heap.SameBut i1 g0 p1 := hp1
  have hU1 : IsTupOf2 p1 TO a1 a2 := hp1.extBut _ _ S.Ti1 (hs0.extBut _ _ S.TOz hTO)
  refine wpAny_bind (wpAny_seqItems (s := ⟨p1, g, d, tk1, os⟩) hU1 rfl ?_)
  refine wpAny_bind (updateSeq_IsTupOf2 (s := ⟨p1, g, d, tk1, os⟩) hU1 fun g1 hT1 hs1 => ?_)
  replace hT1 : IsTupOf2 g1 TO x1 a2 := hT1
  replace hs1 : Heap.SameBut TO p1 g1 := hs1
  refine wpAny_bind (wpAny_letGo (wpAny_pure ?_))
  refine wpAny_bind (wpAny_bind (wpAny_onRaise ?_))
  show wpAny _ _ (Builtin.SmallTypes.nextOrEnd (.ref i2)) _ _ ⟨g1, g, d, tk1, os⟩
  refine orEnd_item (s := ⟨g1, g, d, tk1, os⟩) D2 hlt2 (D2.over (D2.over (D2.over st2 hs0 S.zf2) hp1 S.sep1_2) hs1 S.Tf2) fun x2 p2 tk2 hx2 sn2 hp2 => ?_
  replace hp2 : Heap.SameBut i2 g1 p2 := hp2
  have hU2 : IsTupOf2 p2 TO x1 a2 := hp2.extBut _ _ S.Ti2 hT1
  refine wpAny_bind (wpAny_seqItems (s := ⟨p2, g, d, tk2, os⟩) hU2 rfl ?_)
  refine wpAny_bind (updateSeq_IsTupOf2 (s := ⟨p2, g, d, tk2, os⟩) hU2 fun g2 hT2 hs2 => ?_)
  replace hT2 : IsTupOf2 g2 TO x1 x2 := hT2
  replace hs2 : Heap.SameBut TO p2 g2 := hs2
  refine wpAny_bind (wpAny_letGo (wpAny_pure (wpAny_pure ?_)))
  refine wpAny_bind (wpAny_seqItems (s := ⟨g2, g, d, tk2, os⟩) hT2 rfl ?_)
  refine wpAny_bind (wpAny_newTuple ?_)
  have hsz : g2.objs.size = hp.objs.size := by rw [hs2.1, hp2.1, hs1.1, hp1.1, hs0.1]
  have hzz : IsZipS g2 z TI TO .ellipsis := (hs2.extBut _ _ S.TOz.symm (hp2.extBut _ _ S.zi2 (hs1.extBut _ _ S.TOz.symm (hp1.extBut _ _ S.zi1 hz0))))
  have hkk : ∀ c o, c ≠ z → c ≠ TO → c ≠ i1 → c ≠ i2 → hp.get? c = some o → g2.get? c = some o := fun c o cz cT c1 c2 e =>
    (hs2.extBut _ _ cT (hp2.extBut _ _ c2 (hs1.extBut _ _ cT (hp1.extBut _ _ c1 (hs0.extBut _ _ cz e)))))
  have hj1 : St1 (i + 1) g2 := (D1.over (D1.over (D1.over sn1 hs1 S.Tf1) hp2 S.sep2_1) hs2 S.Tf1)
  have hj2 : St2 (i + 1) g2 := (D2.over sn2 hs2 S.Tf2)
  have hzlt : z < g2.objs.size := Heap.lt_size hzz
  show wpAny _ _ (Builtin.SmallTypes.ownedTupleHandOut (.ref z) (.ref g2.objs.size) >>= _) _ _ ⟨g2.push { cls := .type "tuple", data := .seq #[x1, x2] }, g, d, tk2, os⟩
  refine wpAny_bind ?_
  unfold Builtin.SmallTypes.ownedTupleHandOut
  have hz₆ : IsZipS (g2.push { cls := .type "tuple", data := .seq #[x1, x2] }) z TI TO .ellipsis := Heap.get?_push_of_some _ hzz
  refine wpAny_bind (wpAny_setField_rec hz₆ (by simp) fun h₇ hz₇ hs₇ => ?_)
  replace hz₇ : IsZipS h₇ z TI TO (rawInt g2.objs.size) := hz₇
  refine wpAny_setField_rec hz₇ (by simp) fun h₈ hz₈ hs₈ => ?_
  replace hz₈ : IsZipS h₈ z TI TO (rawInt g2.objs.size) := hz₈
  replace hs₇ : Heap.SameBut z (g2.push { cls := .type "tuple", data := .seq #[x1, x2] }) h₇ := hs₇
  replace hs₈ : Heap.SameBut z h₇ h₈ := hs₈
  have up : ∀ c o, c ≠ z → g2.get? c = some o → h₈.get? c = some o := fun c o c1 e => hs₈.extBut _ _ c1 (hs₇.extBut _ _ c1 (Heap.get?_push_of_some _ e))
  have hT₈ : IsTupOf2 h₈ g2.objs.size x1 x2 := hs₈.extBut _ _ (Nat.ne_of_gt hzlt) (hs₇.extBut _ _ (Nat.ne_of_gt hzlt) (Heap.get?_push_size _ rfl))
  have hz8 : h₈.objs.size = g2.objs.size + 1 := by rw [hs₈.1, hs₇.1, Heap.size_push]
  rw [hsz] at hz₈ hT₈ hz8
  refine wpAny_pure ⟨_, rfl, ?_⟩
  show Q (.ref g2.objs.size) ⟨h₈, g, d, tk2, os⟩
  rw [hsz]
  exact hQ x1 x2 h₈ tk2 hx1 hx2 hz₈ (up _ _ S.TOz hT2) (D1.frame _ _ _ hj1 fun b hb o e => up b o (fun q => S.zf1 (q ▸ hb)) e) (D2.frame _ _ _ hj2 fun b hb o e => up b o (fun q => S.zf2 (q ▸ hb)) e) hT₈ hz8 fun c o cz cT c1 c2 e => up c o cz (hkk c o cz cT c1 c2 e)

theorem zS_next_end {Q : Fin → Shared → Prop} (hh : A.handled = none) (S : ZipSep2 z TI TO i1 i2 fp1 fp2) (D1 : Draws prog w A i1 fp1 n1 P1 St1) (D2 : Draws prog w A i2 fp2 n2 P2 St2)
    (hz : IsZipS s.heap z TI TO .none) (hTI : IsTupOf2 s.heap TI (.ref i1) (.ref i2)) (hTO : IsTupOf2 s.heap TO a1 a2) (st1 : St1 n1 s.heap) (st2 : St2 n2 s.heap)
    (hE : ∀ h' tk e, (∀ c o, c ≠ z → c ≠ TO → c ≠ i1 → c ≠ i2 → s.heap.get? c = some o → h'.get? c = some o) → (∃ o, h'.get? e = some o ∧ o.cls = .type "StopIteration") → E (.ref e) { s with heap := h', toks := tk }) :
    wpAny (model prog w) A (Builtin.«zip.__next__» ⟨[.ref z], []⟩) Q E s := by
  obtain ⟨hp, g, d, tk0, os⟩ := s
  show wpAny _ _ (field (.ref z) 2 >>= _) _ _ _
  refine wpAny_bind (wpAny_field hz rfl (x := .bool true) rfl ?_)
  show wpAny _ _ (field (.ref z) 3 >>= _) _ _ _
  refine wpAny_bind (wpAny_field hz rfl (x := .ref TI) rfl ?_)
  refine wpAny_bind (wpAny_seqItems hTI rfl ?_)
  show wpAny _ _ (Builtin.SmallTypes.ownedTupleIsFree (.ref z) >>= _) _ _ _
  refine wpAny_bind ?_
  unfold Builtin.SmallTypes.ownedTupleIsFree
  refine wpAny_bind (wpAny_field hz rfl (x := .none) rfl (wpAny_pure ?_))
  simp only [if_true]
  refine wpAny_bind (wpAny_rule ?_)
  refine wpAny_bind (wpAny_field hz rfl (x := .ref TO) rfl ?_)
  refine wpAny_bind (wpAny_setField_rec hz (by simp) fun g0 hz0 hs0 => ?_)
  replace hz0 : IsZipS g0 z TI TO .ellipsis := hz0
  replace hs0 : Heap.SameBut z hp g0 := hs0
  refine wpAny_bind ?_
  simp only [List.zipIdx_cons, List.zipIdx_nil, List.forIn_cons, List.forIn_nil]
  refine wpAny_bind (wpAny_bind (wpAny_onRaise ?_))
  show wpAny _ _ (Builtin.SmallTypes.nextOrEnd (.ref i1)) _ _ ⟨g0, g, d, tk0, os⟩
  refine orEnd_done (s := ⟨g0, g, d, tk0, os⟩) D1 (D1.over st1 hs0 S.zf1) fun p1 hp1 => ?_
  replace hp1 : Heap.ExtBut i1 g0 p1 := hp1
  have hz1 : IsZipS p1 z TI TO .ellipsis := hp1 _ _ S.zi1 hz0
  refine wpAny_bind (wpAny_setField_rec (s := ⟨p1, g, d, tk0, os⟩) hz1 (by simp) fun g1 hz1' hs1 => ?_)
  replace hs1 : Heap.SameBut z p1 g1 := hs1
  refine wpAny_bind ?_
  show wpAny _ _ (((Builtin.SmallTypes.nextOrEnd (.ref i2) >>= _) >>= _) >>= _) _ _ ⟨g1, g, d, tk0, os⟩
  have st2' : St2 n2 g1 := D2.over (D2.frame _ _ _ (D2.over st2 hs0 S.zf2) fun b hb o e => hp1 b o (fun q => S.sep1_2 (q ▸ hb)) e) hs1 S.zf2
  refine wpAny_bind (wpAny_bind (wpAny_bind (orEnd_done (s := ⟨g1, g, d, tk0, os⟩) D2 st2' fun p2 hp2 => ?_)))
  replace hp2 : Heap.ExtBut i2 g1 p2 := hp2
  simp only [Option.isSome_none, Bool.false_eq_true, if_false]
  refine wpAny_pure (wpAny_pure (wpAny_bind (wpAny_rule ?_)))
  refine stop_raises hh fun h' e hk he => ?_
  exact hE h' tk0 e (fun c o cz cT c1 c2 x => hk _ _ (hp2 _ _ c2 (hs1.extBut _ _ cz (hp1 _ _ c1 (hs0.extBut _ _ cz x))))) he

theorem pyNext_zS_item {Q : Option Value → Shared → Prop} (S : ZipSep2 z TI TO i1 i2 fp1 fp2) (D1 : Draws prog w A.in1 i1 fp1 n1 P1 St1) (D2 : Draws prog w A.in1 i2 fp2 n2 P2 St2)
    (hz : IsZipS s.heap z TI TO .none) (hTI : IsTupOf2 s.heap TI (.ref i1) (.ref i2)) (hTO : IsTupOf2 s.heap TO a1 a2) (st1 : St1 i s.heap) (st2 : St2 i s.heap) (hlt1 : i < n1) (hlt2 : i < n2)
    (hQ : ∀ x1 x2 h' tk, P1 i x1 → P2 i x2 → IsZipS h' z TI TO (rawInt s.heap.objs.size) → IsTupOf2 h' TO x1 x2 → St1 (i + 1) h' → St2 (i + 1) h' → IsTupOf2 h' s.heap.objs.size x1 x2 → h'.objs.size = s.heap.objs.size + 1 →
      (∀ c o, c ≠ z → c ≠ TO → c ≠ i1 → c ≠ i2 → s.heap.get? c = some o → h'.get? c = some o) → Q (some (.ref s.heap.objs.size)) { s with heap := h', toks := tk }) :
    wpAny (model prog w) A (pyNext (.ref z)) Q E s := by
  have hT : s.TypeIs (.ref z) "zip" := ⟨_, hz, rfl⟩
  unfold pyNext
  exact wpAny_bind (wpAny_attempt (wpAny_callSpecial?_slot (name := Str.ofString "__next__") hT F.slot_zip_next
    (wpAny_call_entry F.slot_zip_next hT F.entry_zip_next
      (zS_next_item S D1 D2 hz hTI hTO st1 st2 hlt1 hlt2 fun x1 x2 h' tk y1 y2 b1 b2 d1 d2 b5 b6 b7 => wpAny_pure (hQ x1 x2 h' tk y1 y2 b1 b2 d1 d2 b5 b6 b7)) (F.args_zip_next_1 _))))
theorem pyNext_zS_end {Q : Option Value → Shared → Prop} (hh : A.in1.handled = none) (S : ZipSep2 z TI TO i1 i2 fp1 fp2) (D1 : Draws prog w A.in1 i1 fp1 n1 P1 St1) (D2 : Draws prog w A.in1 i2 fp2 n2 P2 St2)
    (hz : IsZipS s.heap z TI TO .none) (hTI : IsTupOf2 s.heap TI (.ref i1) (.ref i2)) (hTO : IsTupOf2 s.heap TO a1 a2) (st1 : St1 n1 s.heap) (st2 : St2 n2 s.heap)
    (hQ : ∀ h' tk, (∀ c o, c ≠ z → c ≠ TO → c ≠ i1 → c ≠ i2 → s.heap.get? c = some o → h'.get? c = some o) → Q none { s with heap := h', toks := tk }) : wpAny (model prog w) A (pyNext (.ref z)) Q E s := by
  have hT : s.TypeIs (.ref z) "zip" := ⟨_, hz, rfl⟩
  unfold pyNext
  refine wpAny_bind (wpAny_attempt (wpAny_callSpecial?_slot (name := Str.ofString "__next__") hT F.slot_zip_next
    (wpAny_call_entry F.slot_zip_next hT F.entry_zip_next (zS_next_end hh S D1 D2 hz hTI hTO st1 st2 fun h' tk e hk he => ?_) (F.args_zip_next_1 _))))
  obtain ⟨o, ho, hc⟩ := he
  refine wpAny_bind (wpAny_isInstance (T := "StopIteration") (b := true) ⟨o, ho, hc⟩ isSubtype_stop ?_)
  exact wpAny_pure (hQ _ _ hk)
theorem letGo_zS {elts : List Expr} {x1} {pos : Pos} {z TI TO T : Addr} {Q : Unit → Shared → Prop} (hz : IsZipS s.heap z TI TO (rawInt T))
    (hQ : ∀ h', IsZipS h' z TI TO .none → Heap.SameBut z s.heap h' → Q () { s with heap := h' }) :
    wpAny (model prog w) A (letOwnedTupleGo (.Tuple elts x1 pos) (.ref z) (.ref T)) Q E s := by
  unfold letOwnedTupleGo
  refine wpAny_bind (wpAny_load hz ?_)
  show wpAny _ _ (if (["enumerate", "zip", "dict_itemiterator", "dict_reverseitemiterator", "odict_iterator", "itertools.zip_longest", "itertools.pairwise"].contains "zip" &&
      (#[rawInt T, .bool false, .bool true, .ref TI, .ref TO] : Array Value)[0]? == some (rawInt T)) = true then _ else _) Q E s
  rw [if_pos (by simp)]
  refine wpAny_bind (wpAny_rule ?_)
  show wpAny _ _ (setField (.ref z) 0 .none) Q E s
  exact wpAny_setField_rec hz (by simp) fun h' hz' hs' => hQ h' hz' hs'
theorem pyIter_zS {z TI TO : Addr} {f0 : Value} {Q : Value → Shared → Prop} (hz : IsZipS s.heap z TI TO f0) (h : Q (.ref z) s) : wpAny (model prog w) A (pyIter (.ref z)) Q E s := by
  have hT : s.TypeIs (.ref z) "zip" := ⟨_, hz, rfl⟩
  refine wpAny_pyIter_slot hT F.slot_zip_iter (wpAny_call_entry F.slot_zip_iter hT F.entry_zip_iter ?_ (F.args_zip_iter_1 _))
  show wpAny _ _ (ret (.ref z)) _ _ s
  exact wpAny_pure ⟨_, rfl, "zip", _, hT, F.slot_zip_next.lookup, h⟩
end

/-! ### zip(v1, v2, strict=True) begins -/
theorem typeCall_zS (a b : Value) : checkTypeCall "zip" ⟨[a, b], [(Str.ofString "strict", .bool true)]⟩ = pure () := by kernel_rfl
theorem newCall_zS (a b : Value) : checkBuiltinCall "zip.__new__" ⟨[.type "zip", a, b], [(Str.ofString "strict", .bool true)]⟩ = pure () := by kernel_rfl
theorem args_object_init_zS (obj a b : Value) : argsOk "object.__init__" ⟨[obj, a, b], [(Str.ofString "strict", .bool true)]⟩ := by unfold argsOk; kernel_rfl
abbrev zsZ (h : Heap) (o1 o2 : Obj) : Heap := (gzO2 h o1 o2).push { cls := .type "zip", data := .fields #[.none, .bool false, .bool true, .ref ((h.push o1).push o2).objs.size, .ref (gzT2 h o1 o2).objs.size] }
theorem meets_zS {v1 v2 : Value} {o1 o2 : Obj} {H1 H2 : Heap → Prop} (B1 : Begins v1 o1 H1) (B2 : Begins v2 o2 H2) :
    Meets (Builtin.«zip.__new__» ⟨[.type "zip", v1, v2], [(Str.ofString "strict", .bool true)]⟩) (fun _ R s => (H1 s.heap ∧ H2 s.heap) ∧
      R (.ok (.ret (.ref (gzO2 s.heap o1 o2).objs.size))) { s with heap := zsZ s.heap o1 o2 }) :=
  .of_wp fun prog w A R s h => by
    obtain ⟨hp, g, d, tk, os⟩ := s; obtain ⟨⟨h1, h2⟩, h⟩ := h
    have hsub := sub_zip
    have e1 : (Str.ofString "strict" == ("strict" : Str)) = true := by decide +kernel
    have e2 : (Str.ofString "strict" != ("strict" : Str)) = false := by decide +kernel
    have q1 : ∀ {A' : Around} {E : Value → Shared → Prop} {Q : Value → Shared → Prop}, Q (.ref hp.objs.size) ⟨(hp.push o1), g, d, tk, os⟩ → wpAny (model prog w) A' (pyIter v1) Q E ⟨hp, g, d, tk, os⟩ :=
      fun q => B1.iter prog w _ _ ⟨hp, g, d, tk, os⟩ _ (B1.keeps _ _ h1 fun b o' e => e) q
    have q2 : ∀ {A' : Around} {E : Value → Shared → Prop} {Q : Value → Shared → Prop}, Q (.ref (hp.push o1).objs.size) ⟨((hp.push o1).push o2), g, d, tk, os⟩ → wpAny (model prog w) A' (pyIter v2) Q E ⟨(hp.push o1), g, d, tk, os⟩ :=
      fun q => B2.iter prog w _ _ ⟨(hp.push o1), g, d, tk, os⟩ _ (B2.keeps _ _ h2 fun b o' e => (Heap.get?_push_of_some _ e)) q
    wp_walk using q1, q2
    exact ⟨_, rfl, h⟩
end DZ
namespace DL
open PySem PySem.Spec PyProof.Rows L2 DZ
/-! ### zip of lists and tuples, in any mix, strict or not -/
def IterAt (b : Bool) (h : Heap) (it a : Addr) (i : Nat) : Prop := match b with | true => h.IsTupleIter it a i | false => h.IsListIter it a i
def SrcAt (b : Bool) (h : Heap) (a : Addr) (items : Array Value) : Prop := match b with | true => h.IsTuple a items | false => h.IsList a items
def iterOf (b : Bool) (a : Addr) : Obj := match b with | true => { cls := .type "tuple_iterator", data := .fields #[.ref a, .int 0 0] } | false => { cls := .type "list_iterator", data := .fields #[.ref a, .int 0 0] }
abbrev ZipAt (st : Bool) (h : Heap) (z TI TO : Addr) (f0 : Value) : Prop :=
  h.get? z = some { cls := .type "zip", dict := none, data := .fields #[f0, .bool false, .bool st, .ref TI, .ref TO], slots := #[] }
theorem draws_src {prog : Program} {w : World} {A : Around} (hh : A.handled = none) (b : Bool) (it a : Addr) (hne : a ≠ it) (items : Array Value) :
    Draws prog w A it [it, a] items.size (fun i v => items[i]? = some v) (fun i h => IterAt b h it a i ∧ SrcAt b h a items) := by
  cases b
  · exact .list hh it a hne items
  · exact .tuple hh it a hne items
theorem begins_src (b : Bool) (a : Addr) (items : Array Value) : Begins (.ref a) (iterOf b a) fun h => SrcAt b h a items := by
  cases b
  · exact begins_list a items
  · exact begins_tuple a items
theorem iterAt_new {b : Bool} {h : Heap} {it a : Addr} (e : h.get? it = some (iterOf b a)) : IterAt b h it a 0 := by
  cases b
  · exact ⟨_, e, rfl, rfl⟩
  · exact ⟨_, e, rfl, rfl⟩
theorem IterAt.live {b : Bool} {h : Heap} {it a : Addr} {i : Nat} (e : IterAt b h it a i) : ∃ o, h.get? it = some o := by
  cases b
  · obtain ⟨o, e, _⟩ := e; exact ⟨o, e⟩
  · obtain ⟨o, e, _⟩ := e; exact ⟨o, e⟩
theorem IterAt.at {b : Bool} {h h' : Heap} {it a : Addr} {i : Nat} (e : IterAt b h it a i) (k : ∀ o, h.get? it = some o → h'.get? it = some o) : IterAt b h' it a i := by
  cases b
  · exact Heap.IsListIter.at e k
  · exact Heap.IsTupleIter.at e k
theorem inv_src {X : Cx} {pins : List (Addr × Obj)} {σ : L2.St} {H : Hp} {s : Shared} {b : Bool} {a : Addr} {xs : List V} (I : Inv X pins σ H s) (h : Sq b X.K H a xs) : ∃ its : List Value, Vals xs its ∧ SrcAt b s.heap a its.toArray := by
  cases b
  · obtain ⟨its, rv, p, _⟩ := I.list h
    exact ⟨its, rv, p.isList⟩
  · obtain ⟨its, rv, p, _⟩ := I.tuple h
    exact ⟨its, rv, p⟩
theorem inv_src_inj {X : Cx} {pins : List (Addr × Obj)} {σ : L2.St} {H : Hp} {s : Shared} {b : Bool} {a : Addr} {xs ys : List V} (I : Inv X pins σ H s) (h : Sq b X.K H a xs) (h' : Sq b X.K H a ys) : xs = ys := by
  cases b
  · exact I.list_inj h h'
  · exact I.tuple_inj h h'
theorem SrcAt.lt {b : Bool} {h : Heap} {a : Addr} {its : Array Value} (p : SrcAt b h a its) : a < h.objs.size := by
  cases b
  · obtain ⟨o, e, _⟩ := p; exact Heap.lt_size e
  · obtain ⟨o, e, _⟩ := p; exact Heap.lt_size e
theorem zipSep {z TI TO i1 i2 a b : Addr} (D : ZipApart z TI TO i1 i2 a b) : ZipSep2 z TI TO i1 i2 [i1, a] [i2, b] where
  TIz := D.TIz
  TOz := D.TOz
  TITO := D.TITO
  TIi1 := D.TIi1
  mem1 := by simp
  zf1 := by simp [D.i1z.symm, D.l1z.symm]
  Tf1 := by simp [D.TOi1, D.l1TO.symm]
  TIi2 := D.TIi2
  mem2 := by simp
  zf2 := by simp [D.i2z.symm, D.l2z.symm]
  Tf2 := by simp [D.TOi2, D.l2TO.symm]
  sep1_2 := by simp [D.i12, D.l2i1.symm]
  sep2_1 := by simp [D.i12.symm, D.l1i2.symm]
section
variable {prog : Program} {w : World} {A : Around} {E : Value → Shared → Prop} {s : Shared} {z TI TO i1 i2 : Addr} {fp1 fp2 : List Addr} {n1 n2 i : Nat} {P1 P2 : Nat → Value → Prop} {St1 St2 : Nat → Heap → Prop} {a1 a2 : Value}
theorem pyNext_zA_item (st : Bool) {Q : Option Value → Shared → Prop} (S : ZipSep2 z TI TO i1 i2 fp1 fp2) (D1 : Draws prog w A.in1 i1 fp1 n1 P1 St1) (D2 : Draws prog w A.in1 i2 fp2 n2 P2 St2)
    (hz : ZipAt st s.heap z TI TO .none) (hTI : IsTupOf2 s.heap TI (.ref i1) (.ref i2)) (hTO : IsTupOf2 s.heap TO a1 a2) (st1 : St1 i s.heap) (st2 : St2 i s.heap) (hlt1 : i < n1) (hlt2 : i < n2)
    (hQ : ∀ x1 x2 h' tk, P1 i x1 → P2 i x2 → ZipAt st h' z TI TO (rawInt s.heap.objs.size) → IsTupOf2 h' TO x1 x2 → St1 (i + 1) h' → St2 (i + 1) h' → IsTupOf2 h' s.heap.objs.size x1 x2 → h'.objs.size = s.heap.objs.size + 1 →
      (∀ c o, c ≠ z → c ≠ TO → c ≠ i1 → c ≠ i2 → s.heap.get? c = some o → h'.get? c = some o) → Q (some (.ref s.heap.objs.size)) { s with heap := h', toks := tk }) :
    wpAny (model prog w) A (pyNext (.ref z)) Q E s := by
  cases st
  · exact wpAny_pyNext_zipD2_item S D1 D2 hz hTI hTO st1 st2 hlt1 hlt2 hQ
  · exact pyNext_zS_item S D1 D2 hz hTI hTO st1 st2 hlt1 hlt2 hQ
theorem pyNext_zA_end (st : Bool) {Q : Option Value → Shared → Prop} (hh : A.in1.handled = none) (S : ZipSep2 z TI TO i1 i2 fp1 fp2) (D1 : Draws prog w A.in1 i1 fp1 n1 P1 St1) (D2 : Draws prog w A.in1 i2 fp2 n2 P2 St2)
    (hz : ZipAt st s.heap z TI TO .none) (hTI : IsTupOf2 s.heap TI (.ref i1) (.ref i2)) (hTO : IsTupOf2 s.heap TO a1 a2) (st1 : St1 i s.heap) (st2 : St2 i s.heap) (hle1 : i ≤ n1) (hle2 : i ≤ n2) (hend : i = n1 ∨ i = n2) (hst : st = true → i = n1 ∧ i = n2)
    (hQ : ∀ h' tk, (∀ c o, c ≠ z → c ≠ TO → c ≠ i1 → c ≠ i2 → s.heap.get? c = some o → h'.get? c = some o) → Q none { s with heap := h', toks := tk }) : wpAny (model prog w) A (pyNext (.ref z)) Q E s := by
  cases st
  · exact wpAny_pyNext_zipD2_end S D1 D2 hz hTI hTO st1 st2 hle1 hle2 hend hQ
  · obtain ⟨e1, e2⟩ := hst rfl
    exact pyNext_zS_end hh S D1 D2 hz hTI hTO (e1 ▸ st1) (e2 ▸ st2) hQ
theorem letGo_zA (st : Bool) {elts : List Expr} {x1} {pos : Pos} {z TI TO T : Addr} {Q : Unit → Shared → Prop} (hz : ZipAt st s.heap z TI TO (rawInt T))
    (hQ : ∀ h', ZipAt st h' z TI TO .none → Heap.SameBut z s.heap h' → Q () { s with heap := h' }) :
    wpAny (model prog w) A (letOwnedTupleGo (.Tuple elts x1 pos) (.ref z) (.ref T)) Q E s := by
  cases st
  · exact wpAny_letOwnedTupleGo_zip hz hQ
  · exact letGo_zS hz hQ
theorem pyIter_zA (st : Bool) {z TI TO : Addr} {f0 : Value} {Q : Value → Shared → Prop} (hz : ZipAt st s.heap z TI TO f0) (h : Q (.ref z) s) : wpAny (model prog w) A (pyIter (.ref z)) Q E s := by
  cases st
  · exact wpAny_pyIter_zip hz h
  · exact pyIter_zS hz h
end
/-- the lists and tuples at a and b as they stand at each turn, the items in new pairs -/
def ItZ (st b1 b2 : Bool) (K : PySem.W.Frag) (a b : Addr) : It :=
  ⟨fun i H => ∃ (xs ys : List V) (x y : V), Sq b1 K H a xs ∧ Sq b2 K H b ys ∧ xs[i]? = some x ∧ ys[i]? = some y,
    fun i H v H' => ∃ T x y, v = .ref T ∧ H T = none ∧ H' = upd H T (.tup [x, y]) ∧ (∀ xs, Sq b1 K H a xs → xs[i]? = some x) ∧ ∀ ys, Sq b2 K H b ys → ys[i]? = some y,
    fun i H => ∃ xs ys : List V, Sq b1 K H a xs ∧ Sq b2 K H b ys ∧ i ≤ xs.length ∧ i ≤ ys.length ∧ (i = xs.length ∨ i = ys.length) ∧ (st = true → i = xs.length ∧ i = ys.length)⟩
theorem turn_zA {st b1 b2 : Bool} {P : Program} {w : World} {K : PySem.W.Frag} {elts : List Expr} {kk : Nat} {tpos : Pos} {a b z TI TO i1 i2 : Addr} (D : ZipApart z TI TO i1 i2 a b) :
    Turn P w K (.Tuple elts kk tpos) (ItZ st b1 b2 K a b) [z, TI, TO, i1, i2] z (fun i h => ZipAt st h z TI TO .none ∧ IsPair h TI (.ref i1) (.ref i2) ∧ (∃ x y, IsPair h TO x y) ∧ IterAt b1 h i1 a i ∧ IterAt b2 h i2 b i) where
  mem := by simp
  obj := fun i h st c hc => by
    obtain ⟨hz, hTI, ⟨x, y, hTO⟩, h1, h2⟩ := st
    have e' : c = z ∨ c = TI ∨ c = TO ∨ c = i1 ∨ c = i2 := by simpa using hc
    rcases e' with q | q | q | q | q
    · rw [q]; exact ⟨_, hz, fun v q => nomatch q⟩
    · rw [q]; exact ⟨_, hTI, fun v q => nomatch q⟩
    · rw [q]; exact ⟨_, hTO, fun v q => nomatch q⟩
    · rw [q]
      cases b1
      · obtain ⟨o1, e1, _, d1⟩ := h1
        exact ⟨o1, e1, fun v q => by rw [d1] at q; cases q⟩
      · obtain ⟨o1, e1, _, d1⟩ := h1
        exact ⟨o1, e1, fun v q => by rw [d1] at q; cases q⟩
    · rw [q]
      cases b2
      · obtain ⟨o1, e1, _, d1⟩ := h2
        exact ⟨o1, e1, fun v q => by rw [d1] at q; cases q⟩
      · obtain ⟨o1, e1, _, d1⟩ := h2
        exact ⟨o1, e1, fun v q => by rw [d1] at q; cases q⟩
  keep := fun i h h' st k => by
    obtain ⟨hz, hTI, ⟨x, y, hTO⟩, h1, h2⟩ := st
    exact ⟨k z (by simp) _ hz, k TI (by simp) _ hTI, ⟨x, y, k TO (by simp) _ hTO⟩, h1.at fun o q => k i1 (by simp) o q, h2.at fun o q => k i2 (by simp) o q⟩
  item := by
    intro X hP hw hK hc i pins s σ H E I hf hst hg
    subst hP hw hK
    have hh1 : X.A.in1.handled = none := I.ok.hd hc
    obtain ⟨hz, hTI, ⟨x0, y0, hTO⟩, h1, h2⟩ := hst
    obtain ⟨xs, ys, x, y, hqx, hqy, hx, hy⟩ := hg
    obtain ⟨its, rv, p⟩ := inv_src I hqx
    obtain ⟨its2, rv2, p2⟩ := inv_src I hqy
    obtain ⟨u, hu, ru⟩ := rv.get hx
    obtain ⟨u2, hu2, ru2⟩ := rv2.get hy
    have hzl : z < s.heap.objs.size := Heap.lt_size hz
    have l1 : i < its.toArray.size := by
      have := (List.getElem?_eq_some_iff.mp hu).1
      simpa using this
    have l2 : i < its2.toArray.size := by
      have := (List.getElem?_eq_some_iff.mp hu2).1
      simpa using this
    refine pyNext_zA_item st (zipSep D) (draws_src hh1 b1 i1 a D.l1i1 its.toArray) (draws_src hh1 b2 i2 b D.l2i2 its2.toArray) hz hTI hTO ⟨h1, p⟩ ⟨h2, p2⟩ l1 l2 fun w1 w2 h' tk q1 q2 z' TO' h1' h2' hT hsz hk => ?_
    have ew1 : u = w1 := by rw [List.getElem?_toArray, hu] at q1; exact Option.some.inj q1
    have ew2 : u2 = w2 := by rw [List.getElem?_toArray, hu2] at q2; exact Option.some.inj q2
    subst ew1 ew2
    refine ⟨_, rfl, letGo_zA st (s := { s with heap := h', toks := tk }) z' fun h'' z'' sb => ?_⟩
    have hT2 : h''.get? s.heap.objs.size = some { cls := .type "tuple", data := .seq #[u, u2] } := (sb.2 _ (Nat.ne_of_gt hzl)).trans hT
    have new : ObjOk X.prog X.w (upd H s.heap.objs.size (.tup [x, y])) h'' s.heap.objs.size (.tup [x, y]) :=
      ⟨by show 2 ≤ sizeLine; decide, [u, u2], .cons ru (.cons ru2 .nil), ⟨_, hT2, rfl, _, rfl⟩⟩
    have I1 : Inv X pins σ (upd H s.heap.objs.size (.tup [x, y])) { s with heap := h'', toks := tk } :=
      I.turnedNew (t' := tk) (ch := [z, TI, TO, i1, i2]) (fun c o hb q => (sb.2 c (fun q' => hb (by simp [q']))).trans (hk c o (fun q' => hb (by simp [q'])) (fun q' => hb (by simp [q'])) (fun q' => hb (by simp [q'])) (fun q' => hb (by simp [q'])) q)) hf (Nat.le_refl _) new
    refine ⟨.ref s.heap.objs.size, _, I1, rfl, ⟨_, x, y, rfl, I.hok.fresh (Nat.le_refl _), rfl, fun l hl => by rw [inv_src_inj I hl hqx]; exact hx, fun l hl => by rw [inv_src_inj I hl hqy]; exact hy⟩, ⟨z'', ?_, ⟨u, u2, ?_⟩, ?_, ?_⟩, fun c hcm => ?_⟩
    · exact (sb.2 _ D.TIz).trans (hk _ _ D.TIz D.TITO D.TIi1 D.TIi2 hTI)
    · exact (sb.2 _ D.TOz).trans TO'
    · exact h1'.1.at fun o q => (sb.2 _ D.i1z).trans q
    · exact h2'.1.at fun o q => (sb.2 _ D.i2z).trans q
    · have hlt : c < s.heap.objs.size := by
        have e' : c = z ∨ c = TI ∨ c = TO ∨ c = i1 ∨ c = i2 := by simpa using hcm
        rcases e' with q | q | q | q | q
        · rw [q]; exact hzl
        · rw [q]; exact Heap.lt_size hTI
        · rw [q]; exact Heap.lt_size hTO
        · rw [q]; obtain ⟨_, e1⟩ := h1.live; exact Heap.lt_size e1
        · rw [q]; obtain ⟨_, e2⟩ := h2.live; exact Heap.lt_size e2
      rw [upd_ne (Nat.ne_of_lt hlt)]
      exact (hf c hcm).1
  done := by
    intro X hP hw hK hc i pins s σ H E I hf hst hg
    subst hP hw hK
    have hh1 : X.A.in1.handled = none := I.ok.hd hc
    obtain ⟨hz, hTI, ⟨x0, y0, hTO⟩, h1, h2⟩ := hst
    obtain ⟨xs, ys, hqx, hqy, hle1, hle2, hend, hs⟩ := hg
    obtain ⟨its, rv, p⟩ := inv_src I hqx
    obtain ⟨its2, rv2, p2⟩ := inv_src I hqy
    have l1 := rv.length
    have l2 := rv2.length
    refine pyNext_zA_end st hh1 (zipSep D) (draws_src hh1 b1 i1 a D.l1i1 its.toArray) (draws_src hh1 b2 i2 b D.l2i2 its2.toArray) hz hTI hTO ⟨h1, p⟩ ⟨h2, p2⟩ (by simp; omega) (by simp; omega) (by simp; omega) (fun e => by have := hs e; simp; omega) fun h' tk hk => ⟨rfl, I.turnedL (t' := tk) (ch := [z, TI, TO, i1, i2]) (fun c o hb q =>
      hk c o (fun q' => hb (by simp [q'])) (fun q' => hb (by simp [q'])) (fun q' => hb (by simp [q'])) (fun q' => hb (by simp [q'])) q) hf⟩
  self := fun A i s Q E st' h => pyIter_zA st st'.1 h
end DL
namespace DZ
open PySem PySem.Spec PyProof.Rows L2
section
variable {prog : Program} {w : World} {A : Around} {E : Value → Shared → Prop} {s : Shared}
/-- zip of 2, strict: its 5 new cells -/
theorem zS_begins2 {v1 v2 : Value} {o1 o2 : Obj} {H1 H2 : Heap → Prop} {Q : Value → Shared → Prop} (B1 : Begins v1 o1 H1) (B2 : Begins v2 o2 H2) (h1 : H1 s.heap) (h2 : H2 s.heap)
    (h : ∀ h', IsZipS h' (s.heap.objs.size + 4) (s.heap.objs.size + 2) (s.heap.objs.size + 3) .none → IsTupOf2 h' (s.heap.objs.size + 2) (.ref s.heap.objs.size) (.ref (s.heap.objs.size + 1)) →
      IsTupOf2 h' (s.heap.objs.size + 3) .none .none → h'.get? s.heap.objs.size = some o1 → h'.get? (s.heap.objs.size + 1) = some o2 → h'.objs.size = s.heap.objs.size + 5 →
      (∀ c o, s.heap.get? c = some o → h'.get? c = some o) → Q (.ref (s.heap.objs.size + 4)) { s with heap := h' }) :
    wpAny (model prog w) A (call (.type "zip") [v1, v2] [(Str.ofString "strict", .bool true)]) Q E s := by
  refine callType_newKw F.called_zip (by decide) (typeCall_zS _ _) (newCall_zS _ _) (fun obj => args_object_init_zS obj _ _) F.entry_zip_new
    (meets_zS B1 B2) ⟨⟨h1, h2⟩, ?_⟩
  have z1 : (s.heap.push o1).objs.size = s.heap.objs.size + 1 := by rw [Heap.size_push]
  have z2 : ((s.heap.push o1).push o2).objs.size = s.heap.objs.size + 2 := by rw [Heap.size_push, z1]
  have zT : (gzT2 s.heap o1 o2).objs.size = s.heap.objs.size + 3 := by rw [Heap.size_push, z2]
  have zO : (gzO2 s.heap o1 o2).objs.size = s.heap.objs.size + 4 := by rw [Heap.size_push, zT]
  have zZ : (zsZ s.heap o1 o2).objs.size = s.heap.objs.size + 5 := by rw [Heap.size_push, zO]
  have gZ : (zsZ s.heap o1 o2).get? (gzO2 s.heap o1 o2).objs.size = some { cls := .type "zip", data := .fields #[.none, .bool false, .bool true, .ref ((s.heap.push o1).push o2).objs.size, .ref (gzT2 s.heap o1 o2).objs.size] } := Heap.get?_push_size _ rfl
  have gO : (zsZ s.heap o1 o2).get? (gzT2 s.heap o1 o2).objs.size = some { cls := .type "tuple", data := .seq #[.none, .none] } := Heap.get?_push_of_some _ (Heap.get?_push_size _ rfl)
  have gT : (zsZ s.heap o1 o2).get? ((s.heap.push o1).push o2).objs.size = some { cls := .type "tuple", data := .seq #[.ref s.heap.objs.size, .ref (s.heap.push o1).objs.size] } := Heap.get?_push_of_some _ (Heap.get?_push_of_some _ (Heap.get?_push_size _ rfl))
  have g1 : (zsZ s.heap o1 o2).get? s.heap.objs.size = some o1 := Heap.get?_push_of_some _ (Heap.get?_push_of_some _ (Heap.get?_push_of_some _ (Heap.get?_push_of_some _ (Heap.get?_push_size _ B1.free))))
  have g2 : (zsZ s.heap o1 o2).get? (s.heap.push o1).objs.size = some o2 := Heap.get?_push_of_some _ (Heap.get?_push_of_some _ (Heap.get?_push_of_some _ (Heap.get?_push_size _ B2.free)))
  rw [zO, zT, z2] at gZ
  rw [zT] at gO
  rw [z2, z1] at gT
  rw [z1] at g2
  show _ ∧ _
  rw [zO]
  exact ⟨⟨_, gZ, rfl⟩, h _ gZ gT gO g1 g2 zZ fun c o e => Heap.get?_push_of_some _ (Heap.get?_push_of_some _ (Heap.get?_push_of_some _ (Heap.get?_push_of_some _ (Heap.get?_push_of_some _ e))))⟩
end
section
variable {M : Model} {A : Around} {E : Value → Shared → Prop} {s : Shared} {env : Env}
theorem callWith_type_kw {pos : Pos} {id : String} {e : Expr} {rest : List Expr} {kws : List Keyword} {Q : Value → Shared → Prop}
    (h : wpAny M A (spliced (backTo pos (starEach (e :: rest) env))) (fun vs s₁ => wpAny M A (evalAll ((backToKw pos (keywordEach kws env)).map (·.2)))
      (fun kvs s₂ => wpAny M A (call (.type id) vs (((backToKw pos (keywordEach kws env)).filterMap (·.1)).zip kvs)) Q E s₂) E s₁) E s)
    (he : backTo pos (starEach (e :: rest) env) = (false, eval e env) :: backTo pos (starEach rest env) := by rfl)
    (hplain : (backTo pos (starEach (e :: rest) env)).any (·.1) = false := by rfl)
    (hall : (backToKw pos (keywordEach kws env)).all (·.1.isSome) = true := by rfl)
    (hkw : (backToKw pos (keywordEach kws env)).any (·.1.isNone) = false := by rfl) :
    wpAny M A (callWith pos (.type id) [] (backTo pos (starEach (e :: rest) env)) (backToKw pos (keywordEach kws env))) Q E s := by
  rw [he] at h
  have h2 := evalArgs_kwB (f := .type id) (Q := fun a s₁ => wpAny M A (call (.type id) ([] ++ a.pos) a.kw) Q E s₁) hall h
  rw [← he] at h2
  unfold callWith
  refine wpAny_bind (wpAny_holding (wpAny_mono h2 (fun a s₁ h₁ => wpAny_bind (wpAny_standAt ?_)) fun _ _ x => x))
  simp only [hplain, hkw, Bool.or_false]
  refine wpAny_bind (wpAny_pure ?_)
  exact wpAny_bind (wpAny_mono h₁ (fun r s₂ hr => wpAny_bind (wpAny_holding (wpAny_point (wpAny_pure hr)))) fun _ _ x => x)
end
end DZ
namespace DL
open PySem PySem.Spec PyProof.Rows L2 DZ
def iZA (st : Bool) (K : PySem.W.Frag) (ta : TA) : TI := fun σ H R => ta σ H fun vs H1 => ∃ b1 b2 a b xs ys, vs = [.ref a, .ref b] ∧ Sq b1 K H1 a xs ∧ Sq b2 K H1 b ys ∧ R (ItZ st b1 b2 K a b) H1
section
variable {X : Cx} {e e2 k : Expr} {ta : TA} {p pos tpos kpos : Pos} {elts : List Expr} {kk : Nat}
theorem zA_of {st b1 b2 : Bool} {pins : List (Addr × Obj)} {σ : L2.St} {H1 : Hp} {s1 : Shared} {a b : Addr} {R : It → Hp → Prop} {h' : Heap} {its its2 : Array Value} (I1 : Inv X pins σ H1 s1) (p1 : SrcAt b1 s1.heap a its) (p2 : SrcAt b2 s1.heap b its2) (q : R (ItZ st b1 b2 X.K a b) H1)
    (hz : ZipAt st h' (s1.heap.objs.size + 4) (s1.heap.objs.size + 2) (s1.heap.objs.size + 3) .none) (hTI : IsTupOf2 h' (s1.heap.objs.size + 2) (.ref s1.heap.objs.size) (.ref (s1.heap.objs.size + 1))) (hTO : IsTupOf2 h' (s1.heap.objs.size + 3) .none .none)
    (g1 : h'.get? s1.heap.objs.size = some (iterOf b1 a)) (g2 : h'.get? (s1.heap.objs.size + 1) = some (iterOf b2 b)) (hk : ∀ c o, s1.heap.get? c = some o → h'.get? c = some o) :
    PIE X pins σ (.Tuple elts kk tpos) R (.ref (s1.heap.objs.size + 4)) { s1 with heap := h' } := by
  have I2 : Inv X pins σ H1 { s1 with heap := h' } := I1.kept (t' := s1.toks) hk
  have fresh5 : ∀ c, c ∈ [s1.heap.objs.size + 4, s1.heap.objs.size + 2, s1.heap.objs.size + 3, s1.heap.objs.size, s1.heap.objs.size + 1] → FpOk X pins H1 c := fun c hcm => by
    have e' : c = s1.heap.objs.size + 4 ∨ c = s1.heap.objs.size + 2 ∨ c = s1.heap.objs.size + 3 ∨ c = s1.heap.objs.size ∨ c = s1.heap.objs.size + 1 := by simpa using hcm
    have hle : s1.heap.objs.size ≤ c := by
      rcases e' with z | z | z | z | z
      · rw [z]; exact Nat.le_add_right _ _
      · rw [z]; exact Nat.le_add_right _ _
      · rw [z]; exact Nat.le_add_right _ _
      · rw [z]; exact Nat.le_refl _
      · rw [z]; exact Nat.le_add_right _ _
    exact I1.fpOk hle (I1.hok.fresh hle)
  exact ⟨s1.heap.objs.size + 4, [s1.heap.objs.size + 4, s1.heap.objs.size + 2, s1.heap.objs.size + 3, s1.heap.objs.size, s1.heap.objs.size + 1], _, _, H1, rfl, I2, turn_zA (PySem.W.ktu_apart s1.heap.objs.size a b p1.lt p2.lt), ⟨hz, hTI, ⟨_, _, hTO⟩, iterAt_new g1, iterAt_new g2⟩, fresh5, q⟩
theorem pi_zA0 (hg : Gl X "zip") (hm : X.mg "zip" = none) (ha : PA X [e, e2] ta)
    (hs : starEach [e, e2] X.env = (false, eval e X.env) :: starEach [e2] X.env := by rfl) (hpl : (backTo pos (starEach [e2] X.env)).any (·.1) = false := by rfl) :
    PI X (.Tuple elts kk tpos) (.Call (.Name "zip" p) [e, e2] [] pos) (iZA false X.K ta) := by
  refine ⟨fun pins s σ H R I h => ?_⟩
  refine Call_ (ld_blt I hg hm PyProof.Rows.boot_zip (PyProof.Rows.callWith_type1 (thn (ha.run pos pins s σ H _ I h) fun us s1 ⟨vs, H1, I1, r1, q1⟩ => ?_) hs hpl))
  obtain ⟨b1, b2, a, b, xs, ys, ex, hqx, hqy, q⟩ := q1
  subst ex
  cases r1 with
  | cons r rr =>
    cases rr with
    | cons r' rr =>
      cases rr
      cases r
      cases r'
      obtain ⟨its, rv, p1⟩ := inv_src I1 hqx
      obtain ⟨its2, rv2, p2⟩ := inv_src I1 hqy
      exact zip_begins2 (begins_src b1 a its.toArray) (begins_src b2 b its2.toArray) p1 p2 fun h' hz hTI hTO g1 g2 hsz hk => pyIter_zA false hz (zA_of I1 p1 p2 q hz hTI hTO g1 g2 hk)
theorem pi_zA1 (hg : Gl X "zip") (hm : X.mg "zip" = none) (ha : PA X [e, e2] ta) (ht : ∀ {E : Value → Shared → Prop} {s : Shared} {Q : Value → Shared → Prop}, Q (.bool true) s → wpAny (model X.prog X.w) X.A (eval k X.env) Q E s)
    (hs : starEach [e, e2] X.env = (false, eval e X.env) :: starEach [e2] X.env := by rfl) (hpl : (backTo pos (starEach [e2] X.env)).any (·.1) = false := by rfl) :
    PI X (.Tuple elts kk tpos) (.Call (.Name "zip" p) [e, e2] [⟨some (Str.ofString "strict"), k, kpos⟩] pos) (iZA true X.K ta) := by
  refine ⟨fun pins s σ H R I h => ?_⟩
  refine wpAny_Call_Name_kw (ld_blt I hg hm PyProof.Rows.boot_zip ?_)
  refine callWith_type_kw (thn (ha.run pos pins s σ H _ I h) fun us s1 ⟨vs, H1, I1, r1, q1⟩ => ?_) (by rw [hs]; rfl) (by rw [hs]; show (false || (backTo pos (starEach [e2] X.env)).any (·.1)) = false; rw [hpl]; rfl)
  refine PyProof.Rows.kws_cons (ht (PyProof.Rows.kws_nil ?_))
  obtain ⟨b1, b2, a, b, xs, ys, ex, hqx, hqy, q⟩ := q1
  subst ex
  cases r1 with
  | cons r rr =>
    cases rr with
    | cons r' rr =>
      cases rr
      cases r
      cases r'
      obtain ⟨its, rv, p1⟩ := inv_src I1 hqx
      obtain ⟨its2, rv2, p2⟩ := inv_src I1 hqy
      exact zS_begins2 (begins_src b1 a its.toArray) (begins_src b2 b its2.toArray) p1 p2 fun h' hz hTI hTO g1 g2 hsz hk => pyIter_zA true hz (zA_of I1 p1 p2 q hz hTI hTO g1 g2 hk)
end
section
variable {X : Cx} {e e2 k : Expr} {ta : TA} {p pos tpos kpos : Pos} {elts : List Expr} {kk : Nat}
end
/-! ### the same over data -/
def enumD (k : Int) (ds : List D) : List D := ds.mapIdx fun i d => .tup [.int (k + (i : Int)), d]
def dEnum (a : DA) : DI := fun ρ S P => a ρ S fun xs S1 => match xs with
  | [x] => match seqOf S1 x with
    | some ds => P (enumD 0 ds) (pinOf S1 x) S1
    | none => False
  | _ => False
def dEnum2 (a : DA) : DI := fun ρ S P => a ρ S fun xs S1 => match xs with
  | [x, .int k] => match seqOf S1 x with
    | some ds => (-(2 ^ 63) ≤ k ∧ k < 2 ^ 63) ∧ P (enumD k ds) (pinOf S1 x) S1
    | none => False
  | _ => False
theorem zipD_get {as bs : List D} {i : Nat} {d : D} (h : (zipD as bs)[i]? = some d) : ∃ x y, as[i]? = some x ∧ bs[i]? = some y ∧ d = .tup [x, y] := by
  unfold zipD at h
  rw [List.getElem?_zipWith] at h
  cases e1 : as[i]? with
  | none => simp [e1] at h
  | some x =>
    cases e2 : bs[i]? with
    | none => simp [e1, e2] at h
    | some y =>
      simp only [e1, e2, Option.some.injEq] at h
      exact ⟨x, y, rfl, rfl, h.symm⟩
/-- both stay -/
def pin2 : Option (Store → Prop) → Option (Store → Prop) → Option (Store → Prop)
  | none, q => q
  | p, none => p
  | some p, some q => some fun S => p S ∧ q S
theorem pin2_ok {p q : Option (Store → Prop)} {S : Store} (h : PinOk (pin2 p q) S) : PinOk p S ∧ PinOk q S := by
  cases p with
  | none => exact ⟨trivial, h⟩
  | some p =>
    cases q with
    | none => exact ⟨h, trivial⟩
    | some q => exact h
theorem itz_ok {st : Bool} {K : PySem.W.Frag} {I : Hp} {b1 b2 : Bool} {a b : Addr} {as bs : List D} {p1 p2 : Option (Store → Prop)} (h1 : ∀ I2 S F H, Same I I2 → Ok K I2 S F H → PinOk p1 S → ∃ xs, Sq b1 K H a xs ∧ RepL K I2 as xs) (h2 : ∀ I2 S F H, Same I I2 → Ok K I2 S F H → PinOk p2 S → ∃ ys, Sq b2 K H b ys ∧ RepL K I2 bs ys)
    (hst : st = true → as.length = bs.length) : ItOk K I (ItZ st b1 b2 K a b) (zipD as bs) (pin2 p1 p2) where
  go I2 S F H e ok pk i d hd := by
    obtain ⟨x, y, ex, ey, rfl⟩ := zipD_get hd
    obtain ⟨xs, q1, r1⟩ := h1 I2 S F H e ok (pin2_ok pk).1
    obtain ⟨ys, q2, r2⟩ := h2 I2 S F H e ok (pin2_ok pk).2
    obtain ⟨v, ev, rv⟩ := r1.get ex
    obtain ⟨u, eu, ru⟩ := r2.get ey
    refine ⟨⟨xs, ys, v, u, q1, q2, ev, eu⟩, fun z H' hy => ?_⟩
    obtain ⟨T, x0, y0, rfl, nT, rfl, f1, f2⟩ := hy
    have e1 := f1 xs q1
    have e2 := f2 ys q2
    rw [ev] at e1; rw [eu] at e2
    cases e1; cases e2
    exact ⟨upd I2 T (.tup [v, u]), same_new (ok.freshI nT), ok.newI nT, rep_tup2 (ok.freshI nT) rv ru⟩
  stop I2 S F H e ok pk i hi := by
    obtain ⟨xs, q1, r1⟩ := h1 I2 S F H e ok (pin2_ok pk).1
    obtain ⟨ys, q2, r2⟩ := h2 I2 S F H e ok (pin2_ok pk).2
    have l1 := r1.len
    have l2 := r2.len
    simp only [zipD, List.length_zipWith] at hi
    exact ⟨xs, ys, q1, q2, by omega, by omega, by omega, fun q => by have := hst q; omega⟩
def dZip (a : DA) : DI := fun ρ S P => a ρ S fun xs S1 => match xs with
  | [x, y] => match seqOf S1 x, seqOf S1 y with
    | some as, some bs => P (zipD as bs) (pin2 (pinOf S1 x) (pinOf S1 y)) S1
    | _, _ => False
  | _ => False
def dZipS (a : DA) : DI := fun ρ S P => a ρ S fun xs S1 => match xs with
  | [x, y] => match seqOf S1 x, seqOf S1 y with
    | some as, some bs => as.length = bs.length ∧ P (zipD as bs) (pin2 (pinOf S1 x) (pinOf S1 y)) S1
    | _, _ => False
  | _ => False
section
variable {X : Cx} {e e2 : Expr} {ds : DA} {p pos tpos kpos cpos : Pos} {elts : List Expr} {kk ck : Nat}
theorem ji_zip (hm : X.mg "zip" = none) (ha : JA X [e, e2] ds) (hg : Gl X "zip" := by rfl) (hs : starEach [e, e2] X.env = (false, eval e X.env) :: starEach [e2] X.env := by rfl) (hpl : (backTo pos (starEach [e2] X.env)).any (·.1) = false := by rfl) :
    JI X (.Tuple elts kk tpos) (.Call (.Name "zip" p) [e, e2] [] pos) (dZip ds) :=
  ji_of (pi_zA0 hg hm ha hs hpl) fun σ H R h0_ => El54 h0_ fun ρ I S F P rs ok hh q => ⟨ρ, I, S, F, _, rs, ok, hh, fun xs S1 v I1 H1 h1 e1 ok1 r1 => by
    split at h1
    · rename_i x y
      obtain ⟨v, u, rfl, rv, ru⟩ := r1.inv2
      split at h1
      · rename_i as bs e3 e4
        obtain ⟨b1, a, rfl, hs1⟩ := src_sq ok1 rv e3
        obtain ⟨b2, b, rfl, hs2⟩ := src_sq ok1 ru e4
        obtain ⟨xs, q1, _⟩ := hs1 _ _ _ _ (Same.refl _) ok1 (pin_self _ _)
        obtain ⟨ys, q2, _⟩ := hs2 _ _ _ _ (Same.refl _) ok1 (pin_self _ _)
        exact ⟨b1, b2, a, b, xs, ys, rfl, q1, q2, q _ _ _ _ _ _ h1 e1 ok1 (itz_ok hs1 hs2 (fun e => nomatch e))⟩
      · exact h1.elim
    · exact h1.elim⟩
theorem ji_zipS (hm : X.mg "zip" = none) (ha : JA X [e, e2] ds) (hg : Gl X "zip" := by rfl) (hs : starEach [e, e2] X.env = (false, eval e X.env) :: starEach [e2] X.env := by rfl) (hpl : (backTo pos (starEach [e2] X.env)).any (·.1) = false := by rfl) :
    JI X (.Tuple elts kk tpos) (.Call (.Name "zip" p) [e, e2] [⟨some "strict", .Constant (.bool true) ck cpos, kpos⟩] pos) (dZipS ds) :=
  ji_of (pi_zA1 hg hm ha (fun h => Constant_bool h) hs hpl) fun σ H R h0_ => El54 h0_ fun ρ I S F P rs ok hh q => ⟨ρ, I, S, F, _, rs, ok, hh, fun xs S1 v I1 H1 h1 e1 ok1 r1 => by
    split at h1
    · rename_i x y
      obtain ⟨v, u, rfl, rv, ru⟩ := r1.inv2
      split at h1
      · rename_i as bs e3 e4
        obtain ⟨hl, h1⟩ := h1
        obtain ⟨b1, a, rfl, hs1⟩ := src_sq ok1 rv e3
        obtain ⟨b2, b, rfl, hs2⟩ := src_sq ok1 ru e4
        obtain ⟨xs, q1, _⟩ := hs1 _ _ _ _ (Same.refl _) ok1 (pin_self _ _)
        obtain ⟨ys, q2, _⟩ := hs2 _ _ _ _ (Same.refl _) ok1 (pin_self _ _)
        exact ⟨b1, b2, a, b, xs, ys, rfl, q1, q2, q _ _ _ _ _ _ h1 e1 ok1 (itz_ok hs1 hs2 (fun _ => hl))⟩
      · exact h1.elim
    · exact h1.elim⟩
end
end DL

namespace DL
open PySem PySem.Spec PyProof.Rows L2

/-! ### is True, is False -/
def dIsB : D2 := fun x y S P => match x, y with
  | .bl a, .bl b => P (.bl (decide (a = b))) S
  | _, _ => False
def dNotB : D2 := fun x y S P => match x, y with
  | .bl a, .bl b => P (.bl (!decide (a = b))) S
  | _, _ => False
section
variable {X : Cx} {pos p : Pos} {a b : Expr} {da db : DE} {x : Str}
/-! ### a module's constants -/
theorem je_globC {v : V} {u : Value} {d : D} (hm : X.mg x = some u) (r : RelV v u) (hd : ∀ I, Rep X.K I d v) (hg : Gl X x := by rfl) (hdb : (x == ("__debug__" : Str)) = false := by decide) : JE X (.Name x p) (dC d) :=
  je_of (pe_glob hg hm r hdb) fun σ H Q h0_ => El54 h0_ fun ρ I S F P rs ok h q => q _ _ _ _ _ h (Same.refl I) ok (hd I)
theorem je_cI {i : Int} (h : ∃ t, X.mg x = some (.int i t)) (hg : Gl X x := by rfl) (hdb : (x == ("__debug__" : Str)) = false := by decide) : JE X (.Name x p) (dC (.int i)) := by
  obtain ⟨t, h⟩ := h
  exact je_globC (v := .int i) h ⟨t, rfl⟩ (fun I => rep_int) hg hdb
end

/-! ### repr -/
mutual
def pyD : D → Option PyData
  | .non => some .none
  | .bl b => some (.bool b)
  | .int i => some (.int i)
  | .str x => some (.str x)
  | .lst ds => (pyDL ds).map .list
  | .ext ds => (pyDL ds).map .list
  | .tup ds => (pyDL ds).map .tuple
  | .tq _ => none
  | .ty _ => none
  | .obj _ => none
def pyDL : List D → Option (List PyData)
  | [] => some []
  | d :: ds => (pyD d).bind fun p => (pyDL ds).map (p :: ·)
end
section
variable {X : Cx} {pins : List (Addr × Obj)} {σ : L2.St} {H I F : Hp} {s : Shared} {S : Store}
mutual
theorem reads_of (J : Inv X pins σ H s) (ok : Ok X.K I S F H) : ∀ (x : D) (v : V) (u : Value) (p : PyData), Rep X.K I x v → RelV v u → pyD x = some p → ∃ as, Reads s.heap u p as
  | .non, v, u, p, r, rv, h => by
    simp only [pyD, Option.some.injEq] at h; subst h
    cases r.non_of; cases (show u = Value.none from rv)
    exact ⟨_, .none⟩
  | .bl b, v, u, p, r, rv, h => by
    simp only [pyD, Option.some.injEq] at h; subst h
    cases r.bl_of; cases (show u = Value.bool b from rv)
    exact ⟨_, .bool b⟩
  | .int i, v, u, p, r, rv, h => by
    simp only [pyD, Option.some.injEq] at h; subst h
    cases r.int_of; obtain ⟨t, rfl⟩ := rv
    exact ⟨_, .int i t⟩
  | .str z, v, u, p, r, rv, h => by
    simp only [pyD, Option.some.injEq] at h; subst h
    cases r.str_of; obtain ⟨t, rfl⟩ := rv
    exact ⟨_, .str z t⟩
  | .lst ds, v, u, p, r, rv, h => by
    simp only [pyD, Option.map_eq_some_iff] at h
    obtain ⟨ps, h, rfl⟩ := h
    obtain ⟨a, xs, rfl, e, rl⟩ := r.lst_of
    cases rv
    obtain ⟨its, q, ⟨o, n, e1, e2, _, e3⟩, _⟩ := J.list (.of (ok.i _ _ e))
    obtain ⟨as, ra⟩ := reads_ofL J ok ds xs its ps rl q h
    exact ⟨_, .list e1 e2 e3 (by simpa using ra)⟩
  | .ext ds, v, u, p, r, rv, h => by
    simp only [pyD, Option.map_eq_some_iff] at h
    obtain ⟨ps, h, rfl⟩ := h
    obtain ⟨a, xs, rfl, e, rl⟩ := r.ext_of
    cases rv
    obtain ⟨its, q, ⟨o, n, e1, e2, _, e3⟩, _⟩ := J.list (ok.same.seq e)
    obtain ⟨as, ra⟩ := reads_ofL J ok ds xs its ps rl q h
    exact ⟨_, .list e1 e2 e3 (by simpa using ra)⟩
  | .tup ds, v, u, p, r, rv, h => by
    simp only [pyD, Option.map_eq_some_iff] at h
    obtain ⟨ps, h, rfl⟩ := h
    obtain ⟨a, xs, rfl, e, rl⟩ := r.tup_of
    cases rv
    obtain ⟨its, q, ⟨o, e1, e2, n, e3⟩, _⟩ := J.tuple (sqT_same ok.same e)
    obtain ⟨as, ra⟩ := reads_ofL J ok ds xs its ps rl q h
    exact ⟨_, .tuple e1 e2 e3 (by simpa using ra)⟩
  | .ty _, _, _, _, _, _, h => by simp [pyD] at h
  | .tq _, _, _, _, _, _, h => by simp [pyD] at h
  | .obj _, _, _, _, _, _, h => by simp [pyD] at h
theorem reads_ofL (J : Inv X pins σ H s) (ok : Ok X.K I S F H) : ∀ (ds : List D) (vs : List V) (us : List Value) (ps : List PyData), RepL X.K I ds vs → Vals vs us → pyDL ds = some ps → ∃ as, ReadsAll s.heap us ps as
  | [], vs, us, ps, r, rv, h => by
    simp only [pyDL, Option.some.injEq] at h; subst h
    simp only [RepL] at r; subst r
    cases rv
    exact ⟨_, .nil⟩
  | d :: ds, vs, us, ps, r, rv, h => by
    simp only [pyDL, Option.bind_eq_some_iff, Option.map_eq_some_iff] at h
    obtain ⟨p, h1, ps', h2, rfl⟩ := h
    simp only [RepL] at r
    obtain ⟨v, vs', rfl, r1, r2⟩ := r
    cases rv with
    | cons q qs =>
      obtain ⟨as, ra⟩ := reads_of J ok d v _ p r1 q h1
      obtain ⟨bs, rb⟩ := reads_ofL J ok ds vs' _ ps' r2 qs h2
      exact ⟨_, .cons ra rb⟩
end
mutual
theorem pyD_noDict : ∀ (x : D) (p : PyData), pyD x = some p → p.hasDict = false
  | .non, p, h => by simp only [pyD, Option.some.injEq] at h; subst h; rfl
  | .bl b, p, h => by simp only [pyD, Option.some.injEq] at h; subst h; rfl
  | .int i, p, h => by simp only [pyD, Option.some.injEq] at h; subst h; rfl
  | .str z, p, h => by simp only [pyD, Option.some.injEq] at h; subst h; rfl
  | .lst ds, p, h => by
    simp only [pyD, Option.map_eq_some_iff] at h
    obtain ⟨ps, h, rfl⟩ := h
    simp only [PyData.hasDict]; exact pyDL_noDict ds ps h
  | .ext ds, p, h => by
    simp only [pyD, Option.map_eq_some_iff] at h
    obtain ⟨ps, h, rfl⟩ := h
    simp only [PyData.hasDict]; exact pyDL_noDict ds ps h
  | .tup ds, p, h => by
    simp only [pyD, Option.map_eq_some_iff] at h
    obtain ⟨ps, h, rfl⟩ := h
    simp only [PyData.hasDict]; exact pyDL_noDict ds ps h
  | .ty _, _, h => by simp [pyD] at h
  | .tq _, _, h => by simp [pyD] at h
  | .obj _, _, h => by simp [pyD] at h
theorem pyDL_noDict : ∀ (ds : List D) (ps : List PyData), pyDL ds = some ps → PyData.hasDictAll ps = false
  | [], ps, h => by simp only [pyDL, Option.some.injEq] at h; subst h; rfl
  | d :: ds, ps, h => by
    simp only [pyDL, Option.bind_eq_some_iff, Option.map_eq_some_iff] at h
    obtain ⟨p, h1, ps', h2, rfl⟩ := h
    simp only [PyData.hasDictAll, pyD_noDict d p h1, pyDL_noDict ds ps' h2, Bool.or_false]
end
end
/-- what repr tells, with depth and length at most -/
structure Rp (d c : Nat) (x : D) (p : PyData) : Prop where
  e : pyD x = some p
  s : p.showable = true
  d : p.depth ≤ d
  c : p.shown.length ≤ c
/-- the text of a thing -/
def shownD (x : D) : Str := match pyD x with
  | some p => p.shown
  | none => ""
def Rpd (d c : Nat) (x : D) : Prop := ∃ p, Rp d c x p
theorem Rpd.mono {d c d' c' : Nat} {x : D} (h : Rpd d c x) (h1 : d ≤ d') (h2 : c ≤ c') : Rpd d' c' x := by
  obtain ⟨p, h⟩ := h
  exact ⟨p, h.e, h.s, Nat.le_trans h.d h1, Nat.le_trans h.c h2⟩
theorem rp_non : Rpd 1 13 .non := ⟨.none, by simp [pyD], by simp [PyData.showable], by simp [PyData.depth], by simp only [PyData.shown]; decide⟩
theorem rp_bl {b : Bool} : Rpd 1 13 (.bl b) := ⟨.bool b, by simp [pyD], by simp [PyData.showable], by simp [PyData.depth], by simp only [PyData.shown]; cases b <;> decide⟩
theorem rp_int {i : Int} (h : i.natAbs < 10 ^ 12) : Rpd 1 13 (.int i) := ⟨.int i, by simp [pyD], by
  simp only [PyData.showable, decide_eq_true_eq]
  have : i.natAbs.log2 < 64 := PySem.Flt.log2_lt_of (by decide) (show i.natAbs < 2 ^ 64 by omega)
  omega, by simp [PyData.depth], PyData.shown_int_le h⟩
theorem rp_str {z : Str} {n : Nat} (h : (reprText z).length ≤ n) : Rpd 1 n (.str z) := ⟨.str z, by simp [pyD], by simp [PyData.showable], by simp [PyData.depth], by simpa only [PyData.shown] using h⟩
theorem rp_all {d c : Nat} : ∀ {ds : List D}, (∀ y, y ∈ ds → Rpd d c y) → ∃ ps, pyDL ds = some ps ∧ PyData.showableAll ps = true ∧ PyData.depthAll ps ≤ d ∧ ((PyData.shownAll ps).map (·.length)).sum ≤ ds.length * c ∧ (PyData.shownAll ps).length = ds.length
  | [], _ => ⟨[], by simp [pyDL], by simp [PyData.showableAll], by simp [PyData.depthAll], by simp [PyData.shownAll], by simp [PyData.shownAll]⟩
  | y :: ds, h => by
    obtain ⟨p, h1⟩ := h y (by simp)
    obtain ⟨ps, e1, e2, e3, e4, e5⟩ := rp_all (ds := ds) (fun z hz => h z (by simp [hz]))
    refine ⟨p :: ps, by simp [pyDL, h1.e, e1], by simp [PyData.showableAll, h1.s, e2], ?_, ?_, by simp [PyData.shownAll, e5]⟩
    · have := h1.d
      simp only [PyData.depthAll]
      omega
    · have := h1.c
      simp only [PyData.shownAll, List.map_cons, List.sum_cons, List.length_cons, Nat.succ_mul]
      omega
theorem rp_tup {d c n : Nat} {ds : List D} (h : ∀ y, y ∈ ds → Rpd d c y) (hn : ds.length ≤ n) : Rpd (d + 1) (n * (c + 2) + 3) (.tup ds) := by
  obtain ⟨ps, e1, e2, e3, e4, e5⟩ := rp_all h
  refine ⟨.tuple ps, by simp [pyD, e1], by simp [PyData.showable, e2], by simp only [PyData.depth]; omega, ?_⟩
  have := tupleText_len_le (PyData.shownAll ps)
  simp only [PyData.shown]
  have h2 := Nat.mul_le_mul_right (c + 2) hn
  rw [Nat.mul_add] at h2
  omega
theorem rp_lst {d c n : Nat} {ds : List D} (h : ∀ y, y ∈ ds → Rpd d c y) (hn : ds.length ≤ n) : Rpd (d + 1) (n * (c + 2) + 3) (.lst ds) := by
  obtain ⟨ps, e1, e2, e3, e4, e5⟩ := rp_all h
  refine ⟨.list ps, by simp [pyD, e1], by simp [PyData.showable, e2], by simp only [PyData.depth]; omega, ?_⟩
  have := listText_len_le (PyData.shownAll ps)
  simp only [PyData.shown]
  have h2 := Nat.mul_le_mul_right (c + 2) hn
  rw [Nat.mul_add] at h2
  omega
theorem b_repr : bootBuiltins "repr" = some (.builtin "repr") := by decide +kernel
end DL
namespace DL
open PySem PySem.Spec PyProof.Rows L2
section
variable {X : Cx} {pos : Pos} {a b c : Expr} {da db dc : DE} {op op' : CmpOp} {r r' : R2} {o o' : D2}
end
/-- a def that is never called so -/
theorem fnd_never {P : Program} {w : World} {K : PySem.W.Frag} {mg : Str → Option Value} {base : Heap} {k : Nat} {f : Addr} {fd : FuncData} {ps : List Str} {sp : DSp} (hz : ∀ ds S P, sp ds S P → False) : FnD P w K mg base k f fd ps sp :=
  ⟨fun vs H Q E ⟨ds, I, S, F, P, _, _, h, _⟩ => (hz _ _ _ h).elim, fun A outer s H args us vs Q E _ _ _ _ ⟨ds, I, S, F, P, _, _, h, _⟩ => (hz _ _ _ h).elim⟩
end DL
namespace DL
open PySem PySem.Spec PyProof.Rows L2
def dPar3 (i j l : Nat) (a : DA) : DS := fun DD ρ S => a ρ S fun xs S1 => match xs with
  | [x, y, z] => DD.nx (((ρ.set i (some x)).set j (some y)).set l (some z)) S1
  | _ => False
end DL
namespace DL
open PySem PySem.Spec PyProof.Rows L2
/-! ### isinstance of data -/
theorem isi_non_int  {S : Store} {P : D → Store → Prop} : cIsi [.non, .ty "int"] S P = P (.bl false) S := propext ⟨fun h => h.2, fun h => ⟨by decide, h⟩⟩
theorem isi_non_bool  {S : Store} {P : D → Store → Prop} : cIsi [.non, .ty "bool"] S P = P (.bl false) S := propext ⟨fun h => h.2, fun h => ⟨by decide, h⟩⟩
theorem isi_non_str  {S : Store} {P : D → Store → Prop} : cIsi [.non, .ty "str"] S P = P (.bl false) S := propext ⟨fun h => h.2, fun h => ⟨by decide, h⟩⟩
theorem isi_non_list  {S : Store} {P : D → Store → Prop} : cIsi [.non, .ty "list"] S P = P (.bl false) S := propext ⟨fun h => h.2, fun h => ⟨by decide, h⟩⟩
theorem isi_non_tuple  {S : Store} {P : D → Store → Prop} : cIsi [.non, .ty "tuple"] S P = P (.bl false) S := propext ⟨fun h => h.2, fun h => ⟨by decide, h⟩⟩
theorem isi_non_lt  {S : Store} {P : D → Store → Prop} : cIsi [.non, .tup [.ty "list", .ty "tuple"]] S P = P (.bl false) S := rfl
theorem isi_bl_int {k : Bool} {S : Store} {P : D → Store → Prop} : cIsi [(.bl k), .ty "int"] S P = P (.bl true) S := propext ⟨fun h => h.2, fun h => ⟨by decide, h⟩⟩
theorem isi_bl_bool {k : Bool} {S : Store} {P : D → Store → Prop} : cIsi [(.bl k), .ty "bool"] S P = P (.bl true) S := propext ⟨fun h => h.2, fun h => ⟨by decide, h⟩⟩
theorem isi_bl_str {k : Bool} {S : Store} {P : D → Store → Prop} : cIsi [(.bl k), .ty "str"] S P = P (.bl false) S := propext ⟨fun h => h.2, fun h => ⟨by decide, h⟩⟩
theorem isi_bl_list {k : Bool} {S : Store} {P : D → Store → Prop} : cIsi [(.bl k), .ty "list"] S P = P (.bl false) S := propext ⟨fun h => h.2, fun h => ⟨by decide, h⟩⟩
theorem isi_bl_tuple {k : Bool} {S : Store} {P : D → Store → Prop} : cIsi [(.bl k), .ty "tuple"] S P = P (.bl false) S := propext ⟨fun h => h.2, fun h => ⟨by decide, h⟩⟩
theorem isi_bl_lt {k : Bool} {S : Store} {P : D → Store → Prop} : cIsi [(.bl k), .tup [.ty "list", .ty "tuple"]] S P = P (.bl false) S := rfl
theorem isi_int_int {i : Int} {S : Store} {P : D → Store → Prop} : cIsi [(.int i), .ty "int"] S P = P (.bl true) S := propext ⟨fun h => h.2, fun h => ⟨by decide, h⟩⟩
theorem isi_int_bool {i : Int} {S : Store} {P : D → Store → Prop} : cIsi [(.int i), .ty "bool"] S P = P (.bl false) S := propext ⟨fun h => h.2, fun h => ⟨by decide, h⟩⟩
theorem isi_int_str {i : Int} {S : Store} {P : D → Store → Prop} : cIsi [(.int i), .ty "str"] S P = P (.bl false) S := propext ⟨fun h => h.2, fun h => ⟨by decide, h⟩⟩
theorem isi_int_list {i : Int} {S : Store} {P : D → Store → Prop} : cIsi [(.int i), .ty "list"] S P = P (.bl false) S := propext ⟨fun h => h.2, fun h => ⟨by decide, h⟩⟩
theorem isi_int_tuple {i : Int} {S : Store} {P : D → Store → Prop} : cIsi [(.int i), .ty "tuple"] S P = P (.bl false) S := propext ⟨fun h => h.2, fun h => ⟨by decide, h⟩⟩
theorem isi_int_lt {i : Int} {S : Store} {P : D → Store → Prop} : cIsi [(.int i), .tup [.ty "list", .ty "tuple"]] S P = P (.bl false) S := rfl
theorem isi_str_int {z : Str} {S : Store} {P : D → Store → Prop} : cIsi [(.str z), .ty "int"] S P = P (.bl false) S := propext ⟨fun h => h.2, fun h => ⟨by decide, h⟩⟩
theorem isi_str_bool {z : Str} {S : Store} {P : D → Store → Prop} : cIsi [(.str z), .ty "bool"] S P = P (.bl false) S := propext ⟨fun h => h.2, fun h => ⟨by decide, h⟩⟩
theorem isi_str_str {z : Str} {S : Store} {P : D → Store → Prop} : cIsi [(.str z), .ty "str"] S P = P (.bl true) S := propext ⟨fun h => h.2, fun h => ⟨by decide, h⟩⟩
theorem isi_str_list {z : Str} {S : Store} {P : D → Store → Prop} : cIsi [(.str z), .ty "list"] S P = P (.bl false) S := propext ⟨fun h => h.2, fun h => ⟨by decide, h⟩⟩
theorem isi_str_tuple {z : Str} {S : Store} {P : D → Store → Prop} : cIsi [(.str z), .ty "tuple"] S P = P (.bl false) S := propext ⟨fun h => h.2, fun h => ⟨by decide, h⟩⟩
theorem isi_str_lt {z : Str} {S : Store} {P : D → Store → Prop} : cIsi [(.str z), .tup [.ty "list", .ty "tuple"]] S P = P (.bl false) S := rfl
theorem isi_lst_int {ds : List D} {S : Store} {P : D → Store → Prop} : cIsi [(.lst ds), .ty "int"] S P = P (.bl false) S := propext ⟨fun h => h.2, fun h => ⟨by decide, h⟩⟩
theorem isi_lst_bool {ds : List D} {S : Store} {P : D → Store → Prop} : cIsi [(.lst ds), .ty "bool"] S P = P (.bl false) S := propext ⟨fun h => h.2, fun h => ⟨by decide, h⟩⟩
theorem isi_lst_str {ds : List D} {S : Store} {P : D → Store → Prop} : cIsi [(.lst ds), .ty "str"] S P = P (.bl false) S := propext ⟨fun h => h.2, fun h => ⟨by decide, h⟩⟩
theorem isi_lst_list {ds : List D} {S : Store} {P : D → Store → Prop} : cIsi [(.lst ds), .ty "list"] S P = P (.bl true) S := propext ⟨fun h => h.2, fun h => ⟨by decide, h⟩⟩
theorem isi_lst_tuple {ds : List D} {S : Store} {P : D → Store → Prop} : cIsi [(.lst ds), .ty "tuple"] S P = P (.bl false) S := propext ⟨fun h => h.2, fun h => ⟨by decide, h⟩⟩
theorem isi_lst_lt {ds : List D} {S : Store} {P : D → Store → Prop} : cIsi [(.lst ds), .tup [.ty "list", .ty "tuple"]] S P = P (.bl true) S := rfl
theorem isi_tup_int {ds : List D} {S : Store} {P : D → Store → Prop} : cIsi [(.tup ds), .ty "int"] S P = P (.bl false) S := propext ⟨fun h => h.2, fun h => ⟨by decide, h⟩⟩
theorem isi_tup_bool {ds : List D} {S : Store} {P : D → Store → Prop} : cIsi [(.tup ds), .ty "bool"] S P = P (.bl false) S := propext ⟨fun h => h.2, fun h => ⟨by decide, h⟩⟩
theorem isi_tup_str {ds : List D} {S : Store} {P : D → Store → Prop} : cIsi [(.tup ds), .ty "str"] S P = P (.bl false) S := propext ⟨fun h => h.2, fun h => ⟨by decide, h⟩⟩
theorem isi_tup_list {ds : List D} {S : Store} {P : D → Store → Prop} : cIsi [(.tup ds), .ty "list"] S P = P (.bl false) S := propext ⟨fun h => h.2, fun h => ⟨by decide, h⟩⟩
theorem isi_tup_tuple {ds : List D} {S : Store} {P : D → Store → Prop} : cIsi [(.tup ds), .ty "tuple"] S P = P (.bl true) S := propext ⟨fun h => h.2, fun h => ⟨by decide, h⟩⟩
theorem isi_tup_lt {ds : List D} {S : Store} {P : D → Store → Prop} : cIsi [(.tup ds), .tup [.ty "list", .ty "tuple"]] S P = P (.bl true) S := rfl
/-! ### a sum of lists, to be changed -/
def notExt : D → Bool
  | .ext _ => false
  | _ => true
def dAddM : D2 := fun x y S P => match lstOf S x, lstOf S y with
  | some xs, some ys => (notExt x = true ∧ notExt y = true) ∧ xs.length + ys.length ≤ 100000 ∧ ∀ p, S p = none → P (.obj p) (supd S p (.lst (xs ++ ys)))
  | _, _ => False
theorem i_addM {K : PySem.W.Frag} : Imp2 K (rCat) dAddM := by
  intro x y v w I S F H P Q ok rx ry h q
  unfold dAddM at h
  split at h
  · rename_i xs ys e1 e2
    obtain ⟨⟨n1, n2⟩, hl, h⟩ := h
    obtain ⟨l, xs', rfl, h1, r1⟩ := lst_hp ok rx e1 (fun es z => by subst z; cases n1)
    obtain ⟨l', ys', rfl, h2, r2⟩ := lst_hp ok ry e2 (fun es z => by subst z; cases n2)
    exact ⟨l, l', xs', ys', rfl, rfl, h1, h2, line5 (by rw [r1.len, r2.len]; exact hl), fun p' hp => q _ _ _ _ _ (h p' (ok.freshS hp)) (Same.refl I) (ok.newM hp (r1.app r2)) (by simp only [Rep])⟩
  · exact h.elim
theorem je_addM {X : Cx} {pos : Pos} {a b : Expr} {da db : DE} (ha : JE X a da) (hb : JE X b db) : JE X (.BinOp a .Add b pos) (dOp dAddM da db) := je_op op_cat i_addM ha hb
end DL
namespace DL
open PySem PySem.Spec PyProof.Rows L2
/-! ### a comprehension's list, to be changed -/
theorem Ok.showM {K : PySem.W.Frag} {I F H : Hp} {S : Store} (h : Ok K I S F H) {p : Addr} {xs : List V} {ds : List D} (e : F p = some (.lst xs)) (r : RepL K I ds xs) : Ok K I (supd S p (.lst ds)) (fun b => if b = p then none else F b) H := by
  obtain ⟨f1, f2, f3, f4⟩ := h.f p _ e
  refine ⟨h.i, fun a m q => ?_, fun a x q => ?_⟩
  · unfold supd at q
    by_cases z : a = p
    · subst z
      rw [if_pos rfl] at q; cases q
      exact ⟨f2, xs, f1, r⟩
    · rw [if_neg z] at q
      exact h.s a m q
  · by_cases z : a = p
    · rw [if_pos z] at q; cases q
    · rw [if_neg z] at q
      obtain ⟨h1, h2, h3, h4⟩ := h.f a x q
      exact ⟨h1, h2, by unfold supd; rw [if_neg z]; exact h3, h4⟩
def dLcM (di : DI) (t : Tgt) (tt : DT) (de : DE) : DE := fun ρ S P => dLc di t tt de ρ S fun x S1 => match x with
  | .lst acc => ∀ p, S1 p = none → P (.obj p) (supd S1 p (.lst acc))
  | _ => False
theorem up_lcM {X : Cx} {di : DI} {t : Tgt} {tt : DT} {de : DE} : ∀ σ H Q, upE X.K (dLcM di t tt de) σ H Q → tLc (upI X.K di) (upG X.K t) (upT X.K tt) (upE X.K de) t.slots σ H Q := fun σ H Q h0_ => El54 h0_ fun ρ I S F P rs ok h q => by
  refine ⟨ρ, I, S, F, _, rs, ok, h, fun ds pin S1 I1 H1 J hB e1 ok1 it => fun Dd hD => ?_⟩
  obtain ⟨hlen, W, w0, hpin, turn, fin⟩ := LcN.all hB
  simp only at fin
  have fI : I1 Dd = none := ok1.freshI hD
  refine ⟨fun i m H => m + i = ds.length ∧ ∃ I' S' acc vs, Same I1 I' ∧ Ok X.K I' S' (upd F Dd (.lst vs)) H ∧ RepL X.K I' acc vs ∧ acc.length ≤ i ∧ W i acc S', ⟨ds.length, by simp, I1, S1, [], [], Same.refl I1, ok1.newF hD ⟨fun y z => (by cases z), fun y z => (by cases z)⟩, RepL.nil, Nat.le_refl _, w0⟩, ?_⟩
  rintro i m H2 ⟨em, I2, S2, acc, vs, e2, ok2, rl, hacc, w2⟩
  by_cases hi : i < ds.length
  · refine .inr ?_
    obtain ⟨g1, g2⟩ := it.go I2 S2 _ H2 e2 ok2 (hpin _ _ _ w2) i ds[i] (List.getElem?_eq_getElem hi)
    obtain ⟨ρ3, hput, hbody⟩ := turn i ds[i] acc S2 (List.getElem?_eq_getElem hi) w2
    refine ⟨g1, fun H' => ∃ I' S' acc vs, Same I1 I' ∧ Ok X.K I' S' (upd F Dd (.lst vs)) H' ∧ RepL X.K I' acc vs ∧ acc.length ≤ i + 1 ∧ W (i + 1) acc S', fun H' h => ⟨m - 1, by omega, by omega, h⟩, fun x H3 hy => ?_⟩
    obtain ⟨I3, e3, ok3, r3⟩ := g2 x H3 hy
    refine ⟨dwipe ρ t.slots, ρ3, I3, S2, _, ds[i], ((rs.mono e1).mono (e2.trans e3)).wipe _, ok3, r3, hput, fun σ3 rs3 b3 => ⟨by
      rw [b3.wipe]
      apply List.ext_getElem?
      intro j
      rw [wipe_get, wipe_get, L2.wipe_length]
      split <;> simp_all, ?_⟩⟩
    refine ⟨ρ3, I3, S2, _, _, rs3, ok3, hbody, fun b S4 I4 H4 h4 e4 ok4 => ?_⟩
    cases b with
    | true =>
      rw [if_pos rfl] at h4 ⊢
      refine ⟨ρ3, I4, S4, _, _, rs3.mono e4, ok4, h4, fun y S5 v I5 H5 h5 e5 ok5 r5 => ?_⟩
      have hF : (upd F Dd (.lst vs)) Dd = some (.lst vs) := upd_same
      refine ⟨vs, (ok5.f Dd _ hF).1, ?_, I5, S5, acc ++ [y], vs ++ [v], (((e2.trans e3).trans e4).trans e5), ?_, (rl.mono ((e3.trans e4).trans e5)).app (RepL.one r5), by simp; omega, h5⟩
      · rw [rl.len]
        have : (100000 : Nat) < sizeLine := by decide
        omega
      · have := ok5.writeF (o' := .lst (vs ++ [v])) hF ⟨fun y z => (by cases z), fun y z => (by cases z)⟩
        rwa [upd_upd] at this
    | false =>
      rw [if_neg Bool.false_ne_true] at h4 ⊢
      exact ⟨I4, S4, acc, vs, ((e2.trans e3).trans e4), ok4, rl.mono (e3.trans e4), by omega, h4⟩
  · have e : i = ds.length := by omega
    subst e
    refine .inl ⟨it.stop I2 S2 _ H2 e2 ok2 (hpin _ _ _ w2) _ rfl, ?_⟩
    have hF : (upd F Dd (.lst vs)) Dd = some (.lst vs) := upd_same
    have i2 : I2 Dd = none := (ok2.f Dd _ hF).2.1
    have ok4 : Ok X.K I2 (supd S2 Dd (.lst acc)) F H2 := by
      have ok3 := ok2.showM hF rl
      refine ⟨ok3.i, ok3.s, fun a x q => ?_⟩
      have ne : a ≠ Dd := fun z => by
        subst z
        rw [(ok1.freshF hD)] at q; cases q
      exact ok3.f a x (by show (if a = Dd then none else upd F Dd (.lst vs) a) = some x; rw [if_neg ne, upd_ne ne]; exact q)
    exact q _ _ _ _ _ (fin acc S2 w2 Dd (ok2.f Dd _ hF).2.2.1) (e1.trans e2) ok4 (by simp only [Rep])
section
variable {X : Cx} {pos : Pos}
theorem js_setLcM (i : Nat) {y : Str} {py : Pos} {elt tg iter : Expr} {ifs : List Expr} {scope : Scope} (own : List (Str × Nat)) {spos : Pos} {di : DI} {t : Tgt} {tt : DT} {de : DE} (hc : X.calm = true) (hN : X.N.Nodup) (hy : X.N[i]? = some y) (hyl : X.env.scope.names.lookup y = some .local)
    (hsw : swapsWith (.ListComp elt [⟨tg, iter, ifs, 0⟩] scope pos) (some (.Name y py)) spos.line X.env = pure true) (hi : JI X tg iter di) (ok : BlkOk X.N X.env.scope scope own) (ho : own.map (·.2) = t.slots)
    (hg : ∀ (s : Shared) (H : Hp) (C : Addr) (cl : List (Str × Addr)) (fp : List Addr), JG (X.blk s H scope (compEnvC scope cl C X.env) fp) tg t) (ht : ∀ (s : Shared) (H : Hp) (C : Addr) (cl : List (Str × Addr)) (fp : List Addr), JTs (X.blk s H scope (compEnvC scope cl C X.env) fp) ifs tt)
    (he : ∀ (s : Shared) (H : Hp) (C : Addr) (cl : List (Str × Addr)) (fp : List Addr), JE (X.blk s H scope (compEnvC scope cl C X.env) fp) elt de) (hs : ∀ x, foldedSetIterable iter X.env x = pure x := by intro _; rfl) :
    JS X (.Assign [.Name y py] (.ListComp elt [⟨tg, iter, ifs, 0⟩] scope pos) spos) (dSet i (dLcM di t tt de)) :=
  js_of (ps_setLc hc hN hy hyl hsw hi ok hg ht he hs) fun D σ H h0_ => El54 h0_ fun ρ I S F DD rs ok h q => by
    rw [ho]
    exact up_lcM (X := X) σ H _ ⟨ρ, I, S, F, _, rs, ok, h, fun x S1 v I1 H1 h1 e1 ok1 r1 => q.nx _ _ _ _ _ h1 e1 ok1 ((rs.mono e1).set i r1)⟩
end
end DL

namespace DL
open PySem PySem.Spec PyProof.Rows L2

/-! ### list(range(..)), tuple(range(..)) -/
def dLstR1 (a : DE) : DE := fun ρ S P => a ρ S fun x S1 => match x with
  | .int j => RgOk 0 j ∧ P (.lst (rng 0 j.toNat)) S1
  | _ => False
def dLstR2 (a b : DE) : DE := fun ρ S P => a ρ S fun x S1 => b ρ S1 fun y S2 => match x, y with
  | .int i, .int j => RgOk i j ∧ P (.lst (rng i (j - i).toNat)) S2
  | _, _ => False
theorem repL_map {K : PySem.W.Frag} {I : Hp} {α : Type} {f : α → D} {g : α → V} (h : ∀ x, Rep K I (f x) (g x)) : ∀ l : List α, RepL K I (l.map f) (l.map g)
  | [] => RepL.nil
  | x :: r => RepL.cons (h x) (repL_map h r)
theorem repL_rng {K : PySem.W.Frag} {I : Hp} (a b : Int) : RepL K I (rng a (b - a).toNat) (rgV a b) := repL_map (fun _ => rep_int) _
section
variable {X : Cx} {pos p p2 pos2 : Pos} {a b : Expr} {da db : DE}
theorem je_listR2 (hm : X.mg "list" = none) (hm2 : X.mg "range" = none) (ha : JE X a da) (hb : JE X b db) (hc : X.calm = true := by rfl) (hg : Gl X "list" := by rfl) (hg2 : Gl X "range" := by rfl)
    (hs : starEach [a, b] X.env = (false, eval a X.env) :: starEach [b] X.env := by rfl) (hs2 : starEach [b] X.env = (false, eval b X.env) :: starEach [] X.env := by rfl) (hpl : (backTo pos2 (starEach [b] X.env)).any (·.1) = false := by rfl) :
    JE X (.Call (.Name "list" p) [.Call (.Name "range" p2) [a, b] [] pos2] [] pos) (dLstR2 da db) :=
  je_of (pe_listRg hc hg hm (prg_2 hg2 hm2 ha hb hs hs2 hpl)) fun σ H Q h0_ => El54 h0_ fun ρ I S F P rs ok h q => ⟨ρ, I, S, F, _, rs, ok, h, fun x S1 v I1 H1 h1 e1 ok1 r1 => ⟨ρ, I1, S1, F, _, rs.mono e1, ok1, h1, fun y S2 w I2 H2 h2 e2 ok2 r2 => by
    split at h2
    · rename_i i j
      cases r1.int_of
      cases r2.int_of
      have rl := repL_rng (K := X.K) (I := I2) i j
      exact ⟨_, _, rfl, rfl, h2.1, fun l hl => q _ _ _ _ _ h2.2 ((e1.trans e2).trans (same_new (ok2.freshI hl))) (ok2.newI hl) (rep_new_lst (ok2.freshI hl) rl)⟩
    · exact h2.elim⟩⟩
end

section
variable {X : Cx} {pos : Pos} {a b : Expr} {da db : DE}
end
end DL

namespace DL
open PySem PySem.Spec PyProof.Rows L2

/-! ### two fors in a comprehension -/
theorem But.wipe_sub {ts vs : List Nat} {σ σ2 : L2.St} (h : But ts (L2.wipe σ vs) σ2) (sub : ∀ i, i ∈ ts → i ∈ vs) : L2.wipe σ2 vs = L2.wipe σ vs := by
  apply List.ext_getElem?
  intro j
  have hl := h.1
  rw [L2.wipe_length] at hl
  rw [wipe_get, wipe_get, hl]
  split
  · rfl
  · rename_i hj
    rw [h.2 j fun z => hj (sub j z), wipe_get, if_neg hj]
section
variable {X : Cx} {pos : Pos}
theorem lst_dp {K : PySem.W.Frag} {I F H : Hp} {S : Store} (ok : Ok K I S F H) {y : D} {w : V} {ps : List PyData} (r : Rep K I y w) (h : (lstOf S y).bind D.pyL = some ps) : Dp K H w (.list ps) := by
  cases e : lstOf S y with
  | none => rw [e] at h; cases h
  | some ds =>
    rw [e] at h
    obtain ⟨a, xs, rfl, hs, rl⟩ := lst_sq ok r e
    exact .lst hs (rep_dpL ok.same ds xs ps rl h)
variable {a b : Expr} {da db : DE}
end
end DL

/-! every other item of a tuple -/
namespace L2
open PySem PySem.Spec PyProof.Rows HT
section
variable {prog : Program} {w : World} {A : Around} {E : Value → Shared → Prop} {s : Shared}
end
section
variable {X : Cx}
end
section
end
end L2
namespace DL
open PySem PySem.Spec PyProof.Rows L2
end DL

namespace DL
open PySem PySem.Spec PyProof.Rows L2

/-! ### {'a': 1, ..}.get(x, y) of a written dict -/
def dictAt : List (Str × Int) → Str → Option Int
  | [], _ => none
  | (k, v) :: r, z => if k = z then some v else dictAt r z
theorem Ok.less {K : PySem.W.Frag} {I F F' H : Hp} {S : Store} (h : Ok K I S F' H) (le : ∀ a o, F a = some o → F' a = some o) : Ok K I S F H := ⟨h.i, h.s, fun a o e => h.f a o (le a o e)⟩
def dDispGet (kvs : List (Str × Int)) (dk dd : DE) : DE := fun ρ S P => dk ρ S fun x S1 => dd ρ S1 fun y S2 => match x with
  | .str z => (match dictAt kvs z with
    | some i => P (.int i) S2
    | none => P y S2)
  | _ => False
section
variable {X : Cx} {pos p1 apos cpos : Pos} {e f : Expr} {dk dd : DE}
variable {o a : Expr} {da db : DE} {pos : Pos}
end
end DL

namespace DL
open PySem PySem.Spec PyProof.Rows L2

section
variable {X : Cx} {e f : Expr} {ty tx : TE} {x : Str} {p1 apos cpos : Pos}
end
section
variable {X : Cx} {e f : Expr} {dk dd : DE} {x : Str} {p1 apos cpos : Pos}
end
end DL

namespace DL
open PySem PySem.Spec PyProof.Rows L2
/-! ### xs == ys of lists, also of those that change -/
def dEqL (neg : Bool) : D2 := fun x y S P => match (lstOf S x).bind D.pyL, (lstOf S y).bind D.pyL with
  | some ps, some qs => SeqAt.shaped (.list ps) = true ∧ SeqAt.shaped (.list qs) = true ∧ P (.bl (if neg then !PyData.eqv (.list ps) (.list qs) else PyData.eqv (.list ps) (.list qs))) S
  | _, _ => False
section
variable {X : Cx} {pos : Pos} {a b : Expr} {da db : DE}
theorem i_neL {K : PySem.W.Frag} : Imp2 K (rNeD K) (dEqL true) := by
  intro x y v w I S F H P Q ok rx ry h q
  unfold dEqL at h
  split at h
  · rename_i p ps e1 e2
    exact ⟨_, _, lst_dp ok rx e1, lst_dp ok ry e2, h.1, h.2.1, q _ _ _ _ _ h.2.2 (Same.refl I) ok rep_bl⟩
  · exact h.elim
theorem jt_neL {k : Nat} (hr : DG.RoomG k X.A) (ha : JE X a da) (hb : JE X b db) (hm : behindInMarks .NotEq b = false := by rfl) : JT X (.Compare a [.NotEq] [b] pos) (dTest (dOp (dEqL true) da db)) := jt_cmp (op_neD (by have := hr.r.un; omega)) i_neL ha hb hm
end
end DL

/-! Own classes: instances as things that change. -/
namespace DG
open PySem PySem.Spec PyProof.Rows L2
theorem RoomG.make {k : Nat} {A : Around} (h : RoomG (k + 1) A) (C : Addr) (us : List Value) (kw : List (Str × Value)) : RoomG k (A.under (.builtin "type.__call__" ⟨.ref C :: us, kw⟩)) :=
  ⟨h.r.make C us kw, by
    show pushGuards (Code.guards (.builtin "type.__call__" ⟨.ref C :: us, kw⟩)) A.guards = some []
    rw [h.g]; rfl⟩
section
variable {X : Cx} {CX : CXT} {k n : Nat} {f C : Addr} {fd : FuncData} {ps ks : List Str} {sp : Sp} {dvs : List V} {ds : List Value} {E : XK} {x m : Str} {p pos apos : Pos} {e o : Expr} {es : List Expr} {ta : TE} {t tk : TA} {kws : List Keyword} {g : List Value → List Value → List Value} {gV : List V → List V → List V}
/-- o.m(e, ..) -/
theorem pe_meth {pl : Sem Bool} (he : PE X o ta) (c : Cls X.K C) (hm : Meth X.K C m f) (F : FnG X.prog X.w X.K X.mg X.base CX k f fd ps sp) (hr : RoomG k X.A) (hb : Binds X.K fd ps ds) (hd : Vals dvs ds) (hx : Passes CX X E) (ha : PA X (e :: es) t)
    (hst : starEach (e :: es) X.env = (false, eval e X.env) :: starEach es X.env := by rfl) (hpl : (backTo pos (starEach es X.env)).any (·.1) = false := by rfl)
    (ht : eval (.Call (.Attribute o m apos) (e :: es) [] pos) X.env = (do
      let ov ← eval o X.env
      standAt apos.atName
      let (f, first) ← holding [ov] (getMethod ov m pl)
      callWith pos f first (backTo pos (starEach (e :: es) X.env)) (backToKw pos (keywordEach [] X.env))) := by rfl) :
    PE X (.Call (.Attribute o m apos) (e :: es) [] pos) (tMeth C m sp dvs E ta t) := by
  refine ⟨fun pins s σ H Q I h => ?_⟩
  refine PySem.W.methodCall_KW (pl := pl) (thn (he.run pins s σ H _ I h) fun u s1 ⟨x, H1, I1, rx, a, dx, fs, ex, ea, l, q⟩ => ?_) ht
  subst ex
  obtain rfl : u = Value.ref a := rx
  refine getmeth_ok I1 ea c hm l ?_
  refine PySem.W.callWith_K (first := [.ref a]) (h₀ := X.base) I.ok.mod.kin hm.kp (thn (ha.run pos pins s1 σ H1 _ I1 q) fun us s2 ⟨vs, H2, I2, r, q2⟩ => ⟨I2.kIn, ?_⟩) hst hpl
  exact run_fn (us := .ref a :: us) (vs := .ref a :: vs) F hr hb hd hx I2 (.cons rfl r) q2
/-- o.m() -/
theorem pe_meth0 {pl : Sem Bool} (he : PE X o ta) (c : Cls X.K C) (hm : Meth X.K C m f) (F : FnG X.prog X.w X.K X.mg X.base CX k f fd ps sp) (hr : RoomG k X.A) (hb : Binds X.K fd ps ds) (hd : Vals dvs ds) (hx : Passes CX X E)
    (ht : eval (.Call (.Attribute o m apos) [] [] pos) X.env = (do
      let ov ← eval o X.env
      standAt apos.atName
      let (f, first) ← holding [ov] (getMethod ov m pl)
      callWith pos f first (backTo pos (starEach [] X.env)) (backToKw pos (keywordEach [] X.env))) := by rfl) :
    PE X (.Call (.Attribute o m apos) [] [] pos) (tMeth C m sp dvs E ta tNil) := by
  refine ⟨fun pins s σ H Q I h => ?_⟩
  refine PySem.W.methodCall_KW (pl := pl) (thn (he.run pins s σ H _ I h) fun u s1 ⟨x, H1, I1, rx, a, dx, fs, ex, ea, l, q⟩ => ?_) ht
  subst ex
  obtain rfl : u = Value.ref a := rx
  refine getmeth_ok I1 ea c hm l ?_
  exact PySem.W.callWith_K0 (first := [.ref a]) I1.kIn hm.kp (run_fn (us := [.ref a]) (vs := [.ref a]) F hr hb hd hx I1 (.cons rfl .nil) q)
theorem run_make {pins : List (Addr × Obj)} {σ : L2.St} {H : Hp} {s : Shared} {Q : VK} {us : List Value} {vs : List V} (M : Mk X.K C f) (F : FnG X.prog X.w X.K X.mg X.base CX k f fd ps sp) (hr : RoomG (k + 1) X.A) (hb : Binds X.K fd ps ds) (hd : Vals dvs ds)
    (hx : Passes CX X E) (I : Inv X pins σ H s) (r : Vals vs us)
    (h : ∀ x dx, H x = none → H dx = none → dx ≠ x → sp (.ref x :: (vs ++ dvs)) (upd (upd H dx (.own x)) x (.ins C dx [])) (fun v H2 => v = .non ∧ Q (.ref x) H2) E) :
    wpAny (model X.prog X.w) X.A (call (.ref C) us) (EP X pins σ Q) X.xe s := by
  have hq := h (s.heap.objs.size + 1) s.heap.objs.size (I.hok.fresh (Nat.le_succ _)) (I.hok.fresh (Nat.le_refl _)) (Nat.ne_of_lt (Nat.lt_succ_self _))
  have I2 := Inv.made (C := C) I
  have r2 : Vals (V.ref (s.heap.objs.size + 1) :: (vs ++ dvs)) (Value.ref (s.heap.objs.size + 1) :: (us ++ ds)) := .cons rfl (r.append hd)
  have hl : (Value.ref (s.heap.objs.size + 1) :: us ++ ds).length = ps.length := by
    have e := r2.length
    rw [F.len _ _ _ _ hq] at e
    exact e.symm
  refine wpAny_call (make_map (f := f) I.kIn M.makes M.init (beq_iff_eq.mp M.fn) (codeAny_mono (F.run _ X.stack _ _ ⟨Value.ref (s.heap.objs.size + 1) :: us, []⟩ (Value.ref (s.heap.objs.size + 1) :: (us ++ ds)) _ _ E (hr.make C us [])
    (I2.env0.make C us []) (hb _ (Value.ref (s.heap.objs.size + 1) :: us) I2.kIn hl) r2 hq) fun r s' hq' => ?_))
  cases r with
  | error e => exact hx pins σ _ _ e s' I2 hq'
  | ok fl =>
    cases fl with
    | ret u =>
      obtain ⟨v, H', I3, rv, ev, q3⟩ := I2.after hq'
      subst ev
      exact ⟨rv, ⟨V.ref (s.heap.objs.size + 1), H', I3, rfl, q3⟩⟩
    | next => exact False.elim hq'
    | brk => exact False.elim hq'
    | cont => exact False.elim hq'
theorem pe_make (M : Mk X.K C f) (F : FnG X.prog X.w X.K X.mg X.base CX k f fd ps sp) (hr : RoomG (k + 1) X.A) (hg : Gl X x) (hm : X.mg x = some (.ref C)) (hb : Binds X.K fd ps ds) (hd : Vals dvs ds) (hx : Passes CX X E)
    (ha : PA X (e :: es) t) (hdb : (x == ("__debug__" : Str)) = false := by decide) (he : starEach (e :: es) X.env = (false, eval e X.env) :: starEach es X.env := by rfl) (hpl : (backTo pos (starEach es X.env)).any (·.1) = false := by rfl) :
    PE X (.Call (.Name x p) (e :: es) [] pos) (tMake C sp dvs E t) := by
  refine ⟨fun pins s σ H Q I h => ?_⟩
  refine wpAny_Call_Name_kw (ld_glob I hg hm ?_ hdb)
  refine PySem.W.callWith_K (h₀ := X.base) I.ok.mod.kin M.kp (thn (ha.run pos pins s σ H _ I h) fun us s1 ⟨vs, H1, I1, r, q⟩ => ⟨I1.kIn, ?_⟩) he hpl
  exact run_make M F hr hb hd hx I1 r q
end
end DG
namespace DL
open PySem PySem.Spec PyProof.Rows L2
/-- where the own classes stand -/
class CT where
  at_ : Nat → Addr
def putD (f : Str) (x : D) : List (Str × D) → List (Str × D)
  | [] => [(f, x)]
  | (g, y) :: r => if g = f then (g, x) :: r else (g, y) :: putD f x r
section
variable {K : PySem.W.Frag} {I F H : Hp} {S : Store}
theorem RepF.look {f : Str} {d : D} : ∀ {fs : List (Str × D)} {vs : List (Str × V)}, RepF K I fs vs → fs.lookup f = some d → ∃ v, vs.lookup f = some v ∧ Rep K I d v
  | [], _, _, e => by simp at e
  | (g, x) :: r, vs, h, e => by
    simp only [RepF] at h
    obtain ⟨v, w, rfl, h1, h2⟩ := h
    rw [List.lookup_cons] at e ⊢
    cases q : (f == g) with
    | true =>
      rw [q] at e
      cases e
      exact ⟨v, rfl, h1⟩
    | false =>
      rw [q] at e
      exact RepF.look h2 e
theorem RepF.no {f : Str} : ∀ {fs : List (Str × D)} {vs : List (Str × V)}, RepF K I fs vs → fs.lookup f = none → vs.lookup f = none
  | [], _, h, _ => by
    simp only [RepF] at h
    subst h; rfl
  | (g, x) :: r, vs, h, e => by
    simp only [RepF] at h
    obtain ⟨v, w, rfl, h1, h2⟩ := h
    rw [List.lookup_cons] at e ⊢
    cases q : (f == g) with
    | true => rw [q] at e; cases e
    | false =>
      rw [q] at e
      exact RepF.no h2 e
theorem RepF.len : ∀ {fs : List (Str × D)} {vs : List (Str × V)}, RepF K I fs vs → vs.length = fs.length
  | [], _, h => by
    simp only [RepF] at h
    subst h; rfl
  | (g, x) :: r, vs, h => by
    simp only [RepF] at h
    obtain ⟨v, w, rfl, h1, h2⟩ := h
    simp [RepF.len h2]
theorem RepF.put {f : Str} {d : D} {v : V} (h' : Rep K I d v) : ∀ {fs : List (Str × D)} {vs : List (Str × V)}, RepF K I fs vs → RepF K I (putD f d fs) (putF f v vs)
  | [], _, h => by
    simp only [RepF] at h
    subst h
    simp only [putD, putF, RepF]
    exact ⟨v, [], rfl, h', rfl⟩
  | (g, x) :: r, vs, h => by
    simp only [RepF] at h
    obtain ⟨w, u, rfl, h1, h2⟩ := h
    show RepF K I (if g = f then (g, d) :: r else (g, x) :: putD f d r) (if g = f then (g, v) :: u else (g, w) :: putF f v u)
    by_cases q : g = f
    · rw [if_pos q, if_pos q]
      simp only [RepF]
      exact ⟨v, u, rfl, h', h2⟩
    · rw [if_neg q, if_neg q]
      simp only [RepF]
      exact ⟨w, _, rfl, h1, RepF.put h' h2⟩
theorem Ok.insAt (ok : Ok K I S F H) {p C : Addr} {fs : List (Str × D)} (e : S p = some (.ins C fs)) : ∃ dx vs, H p = some (.ins C dx vs) ∧ H dx = some (.own p) ∧ RepF K I fs vs := (ok.s p _ e).2
theorem Ok.putIns (ok : Ok K I S F H) {p C dx : Addr} {fs : List (Str × D)} {vs : List (Str × V)} {f : Str} {d : D} {v : V} (e : S p = some (.ins C fs)) (h1 : H p = some (.ins C dx vs)) (h2 : H dx = some (.own p)) (r : RepF K I fs vs) (r' : Rep K I d v) :
    Ok K I (supd S p (.ins C (putD f d fs))) F (upd H p (.ins C dx (putF f v vs))) := by
  have ne : dx ≠ p := fun z => by subst z; rw [h1] at h2; cases h2
  refine ok.write e (fun y z => by rw [h1] at z; cases z) ⟨dx, _, upd_same, by rw [upd_ne ne]; exact h2, r.put r'⟩
/-- a new instance -/
theorem Ok.newIns (h : Ok K I S F H) {p dx C : Addr} (n : H p = none) (n2 : H dx = none) (ne : dx ≠ p) : Ok K I (supd S p (.ins C [])) F (upd (upd H dx (.own p)) p (.ins C dx [])) := by
  have up : ∀ {a o}, H a = some o → (upd (upd H dx (.own p)) p (.ins C dx [])) a = some o := fun {a o} e => by
    rw [upd_ne (ne_of_none e n), upd_ne (ne_of_none e n2)]; exact e
  refine ⟨fun a x e => up (h.i a x e), fun a m e => ?_, fun a x e => ?_⟩
  · unfold supd at e
    by_cases q : a = p
    · subst q
      rw [if_pos rfl] at e; cases e
      exact ⟨h.freshI n, dx, [], upd_same, by rw [upd_ne ne, upd_same], by simp only [RepF]⟩
    · rw [if_neg q] at e
      obtain ⟨h1, h2⟩ := h.s a m e
      obtain ⟨o, h3, _⟩ := h2.there
      exact ⟨h1, h2.mono (Same.refl I) ((up h3).trans h3.symm) fun dy q2 => up q2⟩
  · obtain ⟨h1, h2, h3, h4⟩ := h.f a x e
    have ne2 : a ≠ p := ne_of_none h1 n
    exact ⟨up h1, h2, by unfold supd; rw [if_neg ne2]; exact h3, h4⟩
end
/-! ### o.f, o.f = e, o.f += e -/
def dFld [CT] (c : Nat) (f : Str) (a : DE) : DE := fun ρ S P => a ρ S fun x S1 => ∃ p fs d, x = .obj p ∧ S1 p = some (.ins (CT.at_ c) fs) ∧ fs.lookup f = some d ∧ P d S1
def dSetFld [CT] (c : Nat) (f : Str) (a v : DE) : DS := fun DD ρ S => v ρ S fun y S1 => a ρ S1 fun x S2 => ∃ p fs, x = .obj p ∧ S2 p = some (.ins (CT.at_ c) fs) ∧ fs.length < 900 ∧ DD.nx ρ (supd S2 p (.ins (CT.at_ c) (putD f y fs)))
/-- self.f += e of ints -/
def dFldAdd [CT] (c : Nat) (f : Str) (a v : DE) : DS := fun DD ρ S => a ρ S fun x S1 => ∃ p fs i, x = .obj p ∧ S1 p = some (.ins (CT.at_ c) fs) ∧ fs.lookup f = some (.int i) ∧ v ρ S1 fun y S2 => ∃ j fs', y = .int j ∧ S2 p = some (.ins (CT.at_ c) fs') ∧ fs'.length < 900 ∧
  DD.nx ρ (supd S2 p (.ins (CT.at_ c) (putD f (.int (i + j)) fs')))
section
variable [CT] {X : Cx} {o value : Expr} {c : Nat} {f : Str} {pos pos' tpos : Pos} {da dv : DE}
theorem up_fld (cl : Cls X.K (CT.at_ c)) (n : NoAttr X.K (CT.at_ c) f) : ∀ σ H Q, upE X.K (dFld c f da) σ H Q → tFld X.K (upE X.K da) f σ H Q := fun σ H Q h0_ => El54 h0_ fun ρ I S F P rs ok h q =>
  ⟨ρ, I, S, F, _, rs, ok, h, fun x S1 v I1 H1 ⟨p, fs, d, ex, es, el, h1⟩ e1 ok1 r1 => by
    subst ex
    obtain ⟨dx, vs, hp, _, rf⟩ := ok1.insAt es
    obtain ⟨u, hu, ru⟩ := rf.look el
    exact ⟨p, _, dx, vs, u, r1.obj_of, hp, cl, n, hu, q _ _ _ _ _ h1 e1 ok1 ru⟩⟩
theorem je_fld (cl : Cls X.K (CT.at_ c)) (n : NoAttr X.K (CT.at_ c) f) (he : JE X o da) (hb : attributeBase o f X.env (eval o X.env) = eval o X.env := by rfl) : JE X (.Attribute o f pos) (dFld c f da) :=
  je_of (pe_fld he hb) (up_fld cl n)
theorem js_fld (cl : Cls X.K (CT.at_ c)) (n : NoAttr X.K (CT.at_ c) f) (ha : JE X o da) (hv : JE X value dv) (hs : swapsWith value (some (.Attribute o f pos')) pos.line X.env = pure false := by rfl) :
    JS X (.Assign [.Attribute o f pos'] value pos) (dSetFld c f da dv) :=
  js_of (ps_fld ha hv hs) fun D σ H h0_ => El54 h0_ fun ρ I S F DD rs ok h q => ⟨ρ, I, S, F, _, rs, ok, h, fun y S1 v I1 H1 h1 e1 ok1 r1 => ⟨ρ, I1, S1, F, _, rs.mono e1, ok1, h1, fun x S2 w I2 H2 ⟨p, fs, ex, es, hl, h2⟩ e2 ok2 r2 => by
    subst ex
    obtain ⟨dx, vs, hp, hd, rf⟩ := ok2.insAt es
    refine ⟨p, _, dx, vs, r2.obj_of, hp, cl, n, by rw [rf.len]; omega, ?_⟩
    exact q.nx _ _ _ _ _ h2 (e1.trans e2) (ok2.putIns es hp hd rf (r1.mono e2)) (rs.mono (e1.trans e2))⟩⟩
end
/-! ### calls of methods, C(..) -/
def dMeth [CT] (c : Nat) (m : Str) (sp : DSp) (a : DE) (r : DA) : DE := fun ρ S P => a ρ S fun x S1 => ∃ p fs, x = .obj p ∧ S1 p = some (.ins (CT.at_ c) fs) ∧ fs.lookup m = none ∧ r ρ S1 fun xs S2 => sp (x :: xs) S2 P
def dMake [CT] (c : Nat) (sp : DSp) (r : DA) : DE := fun ρ S P => r ρ S fun xs S1 => ∀ p, S1 p = none → sp (.obj p :: xs) (supd S1 p (.ins (CT.at_ c) [])) fun y S2 => y = .non ∧ P (.obj p) S2
def dMakeK [CT] (c : Nat) (sp : DSp) (n m : Nat) (perm : List Nat) (r kw : DA) : DE := fun ρ S P => r ρ S fun xs S1 => kw ρ S1 fun ys S2 => xs.length = n ∧ ys.length = m ∧ ∀ p, S2 p = none →
  sp (pick perm (.obj p :: xs) ys) (supd S2 p (.ins (CT.at_ c) [])) fun y S3 => y = .non ∧ P (.obj p) S3
/-- the method m of the class c keeps its promise -/
structure DoesM [CT] (P : Program) (w : World) (K : PySem.W.Frag) (mg : Str → Option Value) (base : Heap) (k : Nat) (c : Nat) (m : Str) (ps : List Str) (f : Addr) (fd : FuncData) (sp : DSp) : Prop where
  cl : Cls K (CT.at_ c)
  mt : Meth K (CT.at_ c) m f
  b : Binds K fd ps []
  ok : FnD P w K mg base k f fd ps sp
/-- the class c is made by __init__, which keeps its promise -/
structure DoesI [CT] (P : Program) (w : World) (K : PySem.W.Frag) (mg : Str → Option Value) (base : Heap) (k : Nat) (c : Nat) (x : Str) (ps : List Str) (f : Addr) (fd : FuncData) (sp : DSp) : Prop where
  g : mg x = some (.ref (CT.at_ c))
  mks : Mk K (CT.at_ c) f
  ok : FnD P w K mg base k f fd ps sp
section
variable [CT] {X : Cx} {o a : Expr} {es : List Expr} {c : Nat} {m x : Str} {pos apos p : Pos} {da : DE} {ds dk : DA} {k j n l : Nat} {ps ks : List Str} {f : Addr} {fd : FuncData} {sp : DSp} {perm : List Nat} {kws : List Keyword}
theorem up_meth : ∀ σ H Q, upE X.K (dMeth c m sp da ds) σ H Q → tMeth (CT.at_ c) m (upSp X.K sp) [] E0 (upE X.K da) (upA X.K ds) σ H Q := fun σ H Q h0_ => El54 h0_ fun ρ I S F P rs ok h q =>
  ⟨ρ, I, S, F, _, rs, ok, h, fun x S1 v I1 H1 ⟨p, fs, ex, es, el, h1⟩ e1 ok1 r1 => by
    subst ex
    obtain ⟨dx, vs, hp, hd, rf⟩ := ok1.insAt es
    refine ⟨p, dx, vs, r1.obj_of, hp, rf.no el, ρ, I1, S1, F, _, rs.mono e1, ok1, h1, fun xs S2 ws I2 H2 h2 e2 ok2 r2 => ?_⟩
    show upSp X.K sp (v :: (ws ++ [])) H2 Q E0
    rw [List.append_nil]
    exact ⟨_, I2, S2, F, P, .cons (r1.mono e2) r2, ok2, h2, q.mono (e1.trans e2)⟩⟩
theorem je_m {pl : Sem Bool} (G : DoesM X.prog X.w X.K X.mg X.base k c m ps f fd sp) (hr : DG.RoomG j X.A) (he : JE X o da) (ha : JA X (a :: es) ds) (hk : k ≤ j := by decide)
    (hst : starEach (a :: es) X.env = (false, eval a X.env) :: starEach es X.env := by rfl) (hpl : (backTo pos (starEach es X.env)).any (·.1) = false := by rfl)
    (ht : eval (.Call (.Attribute o m apos) (a :: es) [] pos) X.env = (do
      let ov ← eval o X.env
      standAt apos.atName
      let (f, first) ← holding [ov] (getMethod ov m pl)
      callWith pos f first (backTo pos (starEach (a :: es) X.env)) (backToKw pos (keywordEach [] X.env))) := by rfl) :
    JE X (.Call (.Attribute o m apos) (a :: es) [] pos) (dMeth c m sp da ds) :=
  je_of (DG.pe_meth (pl := pl) he G.cl G.mt G.ok (hr.mono hk) G.b .nil pass0 ha hst hpl ht) up_meth
theorem je_m0 {pl : Sem Bool} (G : DoesM X.prog X.w X.K X.mg X.base k c m ps f fd sp) (hr : DG.RoomG j X.A) (he : JE X o da) (hk : k ≤ j := by decide)
    (ht : eval (.Call (.Attribute o m apos) [] [] pos) X.env = (do
      let ov ← eval o X.env
      standAt apos.atName
      let (f, first) ← holding [ov] (getMethod ov m pl)
      callWith pos f first (backTo pos (starEach [] X.env)) (backToKw pos (keywordEach [] X.env))) := by rfl) :
    JE X (.Call (.Attribute o m apos) [] [] pos) (dMeth c m sp da dNil) :=
  je_of (DG.pe_meth0 (pl := pl) he G.cl G.mt G.ok (hr.mono hk) G.b .nil pass0 ht) fun σ H Q h0_ => El54 h0_ fun ρ I S F P rs ok h q => ⟨ρ, I, S, F, _, rs, ok, h, fun x S1 v I1 H1 ⟨p, fs, ex, es, el, h1⟩ e1 ok1 r1 => by
    subst ex
    obtain ⟨dx, vs, hp, hd, rf⟩ := ok1.insAt es
    exact ⟨p, dx, vs, r1.obj_of, hp, rf.no el, _, I1, S1, F, P, .cons r1 RepL.nil, ok1, h1, q.mono e1⟩⟩
theorem sees_make {K : PySem.W.Frag} {I F : Hp} {P : D → Store → Prop} {Q : VK} {p : Addr} (q : Sees K I F P Q) : Sees K I F (fun y S2 => y = .non ∧ P (.obj p) S2) (fun v H2 => v = .non ∧ Q (.ref p) H2) := fun x S v I2 H2 ⟨ex, h⟩ e ok r => by
  subst ex
  exact ⟨r.non_of, q _ _ _ _ _ h e ok (by simp only [Rep])⟩
theorem je_make (G : DoesI X.prog X.w X.K X.mg X.base k c x ps f fd sp) (hr : DG.RoomG j X.A) (hb : Binds X.K fd ps []) (ha : JA X (a :: es) ds) (hk : k + 1 ≤ j := by decide) (hg : Gl X x := by rfl) (hdb : (x == ("__debug__" : Str)) = false := by decide)
    (he : starEach (a :: es) X.env = (false, eval a X.env) :: starEach es X.env := by rfl) (hpl : (backTo pos (starEach es X.env)).any (·.1) = false := by rfl) : JE X (.Call (.Name x p) (a :: es) [] pos) (dMake c sp ds) :=
  je_of (DG.pe_make G.mks G.ok (hr.mono hk) hg G.g hb .nil pass0 ha hdb he hpl) fun σ H Q h0_ => El54 h0_ fun ρ I S F P rs ok h q => ⟨ρ, I, S, F, _, rs, ok, h, fun xs S1 vs I1 H1 h1 e1 ok1 r1 x dx nx nd ne => by
    rw [List.append_nil]
    exact ⟨_, I1, _, F, _, .cons (by simp only [Rep]) r1, ok1.newIns nx nd ne, h1 x (ok1.freshS nx), sees_make (q.mono e1)⟩⟩
end
/-- the def called x keeps its promise sp, called by keywords -/
structure DoesK (P : Program) (w : World) (K : PySem.W.Frag) (mg : Str → Option Value) (base : Heap) (k : Nat) (x : Str) (ps : List Str) (f : Addr) (fd : FuncData) (sp : DSp) : Prop where
  g : mg x = some (.ref f)
  kp : PySem.W.keepIn K (.ref f) = true
  ok : FnD P w K mg base k f fd ps sp
section
variable {X : Cx} {pos p : Pos} {a : Expr} {es : List Expr} {ds dk : DA} {k j n m : Nat} {x : Str} {ps ks : List Str} {f : Addr} {fd : FuncData} {sp : DSp} {perm : List Nat} {kws : List Keyword}
end
/-- o.f, o.g = x, y -/
def dFld2 [CT] (c : Nat) (f g : Str) (i : Nat) (da db : DE) : DS := fun DD ρ S => da ρ S fun x S1 => db ρ S1 fun y S2 => ∃ p fs, ρ[i]? = some (some (.obj p)) ∧ S2 p = some (.ins (CT.at_ c) fs) ∧ fs.length < 900 ∧
  DD.nx ρ (supd S2 p (.ins (CT.at_ c) (putD g y (putD f x fs))))
theorem putD_len (f : Str) (x : D) : ∀ fs : List (Str × D), (putD f x fs).length ≤ fs.length + 1
  | [] => by simp [putD]
  | (g, y) :: r => by
    have := putD_len f x r
    show (if g = f then (g, x) :: r else (g, y) :: putD f x r).length ≤ _
    split <;> simp <;> omega
section
variable [CT] {X : Cx} {a b : Expr} {c : Nat} {f g x y : Str} {pos p1 p2 p3 p4 pt pt2 : Pos} {da db : DE} {kt k2}
end
end DL

/-! min(xs, key=f) of ints, f a def of the module. -/
namespace DL
open PySem PySem.Spec PyProof.Rows L2
/-- the list's ints, what f makes of each: any of the least may be told -/
def dMinKey (sp : DSp) (a : DE) : DE := fun ρ S P => a ρ S fun x S1 => ∃ (ns : List Int) (kf : Int → Int), lstOf S1 x = some (ns.map .int) ∧ ns ≠ [] ∧ (∀ i, i ∈ ns → ∀ (S' : Store) (Q : D → Store → Prop), S' = S1 → Q (.int (kf i)) S' → sp [.int i] S' Q) ∧
  ∀ m, m ∈ ns → (∀ i, i ∈ ns → kf m ≤ kf i) → P (.int m) S1
end DL

namespace DL
open PySem PySem.Spec PyProof.Rows L2
section
variable {X : Cx}
open Classical in
end
section
variable {K : PySem.W.Frag}
end
section
variable {X : Cx} {pos p : Pos} {a : Expr} {ds : DA}
theorem b_sorted : bootBuiltins "sorted" = some (.builtin "sorted") := by decide +kernel
end
end DL

/-! min of a list of pairs of ints. -/
namespace DL
open PySem PySem.Spec PyProof.Rows L2
section
variable {X : Cx}
end
section
variable {K : PySem.W.Frag}
end
section
variable {X : Cx} {pos p : Pos} {a : Expr} {ds : DA}
end
end DL

/-! A list that has changed and changes no more, from a statement on. -/
namespace DL
open PySem PySem.Spec PyProof.Rows L2
end DL

/-! list(zip(a, b)): the pairs given out are held, each one a new tuple. -/
namespace DL
open PySem PySem.Spec PyProof.Rows L2 DZ
section
variable {prog : Program} {w : World} {A : Around} {E : Value → Shared → Prop} {s : Shared} {z TI TO i1 i2 T : Addr} {f : Bool} {oT : Obj} {fp1 fp2 : List Addr} {n1 n2 i : Nat} {P1 P2 : Nat → Value → Prop} {St1 St2 : Nat → Heap → Prop}
end
/-- the zip at a turn: nothing given out yet, or a pair that is held -/
structure ZH (b1 b2 : Bool) (h : Heap) (z TI TO i1 i2 a b : Addr) (its its2 : Array Value) (i : Nat) (S : Addr) : Prop where
  ti : IsTupOf2 h TI (.ref i1) (.ref i2)
  to : ∃ o, h.get? TO = some o
  t1 : IterAt b1 h i1 a i
  t2 : IterAt b2 h i2 b i
  s1 : SrcAt b1 h a its
  s2 : SrcAt b2 h b its2
  zz : (IsZip h z TI TO .none ∧ ∃ x y, IsTupOf2 h TO x y) ∨ ∃ T f oT, IsZipHeld h z TI TO T f ∧ h.get? T = some oT ∧ T ≠ z ∧ T ≠ i1 ∧ T ≠ i2 ∧ T ≠ S
theorem SrcAt.at {b : Bool} {h h' : Heap} {a : Addr} {its : Array Value} (e : SrcAt b h a its) (k : ∀ o, h.get? a = some o → h'.get? a = some o) : SrcAt b h' a its := by
  cases b
  · exact Heap.IsList.at e k
  · exact Heap.IsTuple.at e k
section
variable {X : Cx} {z TI TO i1 i2 a b S : Addr} {b1 b2 : Bool} {its its2 : List Value} {xs ys : List V}
end
section
variable {X : Cx} {e e2 : Expr} {ta : TA} {ds : DA} {p p2 pos q : Pos}
open Classical in
end
end DL

/-! xs.pop(i), xs.insert(i, y). -/
namespace DL
open PySem PySem.Spec PyProof.Rows L2
section
variable {K : PySem.W.Frag} {I : Hp}
theorem RepL.erase : ∀ {ds : List D} {vs : List V} (i : Nat), RepL K I ds vs → RepL K I (ds.eraseIdx i) (vs.eraseIdx i) := by
  intro ds vs i h
  rw [List.eraseIdx_eq_take_drop_succ, List.eraseIdx_eq_take_drop_succ]
  exact (h.take i).app (h.drop (i + 1))
end
section
variable {X : Cx} {pos p apos : Pos} {a b c o : Expr} {da db dc : DE}
def dInsert (a b c : DE) : DE := fun ρ S P => a ρ S fun x S1 => match x with
  | .obj l => (∃ es, S1 l = some (.lst es)) ∧ b ρ S1 fun y S2 => c ρ S2 fun z S3 => match S3 l, y with
    | some (.lst ds), .int i => ds.length < 100000 ∧ 0 ≤ i ∧ i < 2 ^ 63 ∧ P .non (supd S3 l (.lst (ds.take i.toNat ++ [z] ++ ds.drop i.toNat)))
    | _, _ => False
  | _ => False
theorem je_insert (ha : JE X o da) (hb : JE X a db) (hc : JE X b dc) (hbase : attributeBase o "insert" X.env (eval o X.env) = eval o X.env := by rfl) (hs0 : starEach [b] X.env = [(false, eval b X.env)] := by rfl) (hs1 : starEach [a, b] X.env = (false, eval a X.env) :: starEach [b] X.env := by rfl)
    (hfew : ((backTo pos (starEach [a, b] X.env)).all (fun x => !x.1) && (backToKw pos (keywordEach [] X.env)).all (fun x => x.1.isSome)
      && decide ([a, b].length + ([] : List Keyword).length + (if ([] : List Keyword).isEmpty then 0 else 1) < 30)) = true := by rfl)
    (hline : (apos.endLine == pos.line) = true := by rfl) (hplain : (backTo pos (starEach [b] X.env)).any (·.1) = false := by rfl) : JE X (.Call (.Attribute o "insert" apos) [a, b] [] pos) (dInsert da db dc) :=
  je_of (pe_bm PySem.F.plainAttrs_list PySem.F.slot_list_insert PySem.F.type_list_insert mt_insert ha (pa_cons hb (pa_cons hc pa_nil hs0) hs1) hbase hfew hline (hs := hs1) (hplain := hplain)) fun σ H Q h0_ => El54 h0_ fun ρ I S F P rs ok hh q =>
    ⟨ρ, I, S, F, _, rs, ok, hh, fun x S1 v I1 H1 h1 e1 ok1 r1 => by
      cases x with
      | obj l =>
        obtain ⟨⟨es, e2⟩, h2⟩ := h1
        obtain ⟨_, ys, q2, _⟩ := ok1.s l _ e2
        cases r1.obj_of
        refine ⟨.inl ⟨rfl, ys, .of q2⟩, ρ, I1, S1, F, _, rs.mono e1, ok1, h2, fun y S2 w I2 H2 h3 e3 ok2 r2 => ⟨ρ, I2, S2, F, _, rs.mono (e1.trans e3), ok2, h3, fun z S3 u I3 H3 h4 e4 ok3 r3 => ?_⟩⟩
        split at h4
        · rename_i ds i e5
          obtain ⟨_, zs, q4, rl⟩ := ok3.s l _ e5
          obtain ⟨hl, i0, i1, h5⟩ := h4
          cases r2.int_of
          refine ⟨l, zs, i, u, rfl, rfl, q4, Nat.lt_of_lt_of_le (by rw [rl.len]; exact hl) (by decide), i0, i1, q _ _ _ _ _ h5 (e1.trans (e3.trans e4)) (ok3.writeL e5 (((rl.take i.toNat).app (RepL.one r3)).app (rl.drop i.toNat))) rep_non⟩
        · exact h4.elim
      | _ => exact h1.elim⟩
end
end DL

/-! a, *b = e of a tuple; x in NAME of a written dict. -/
namespace DL
open PySem PySem.Spec PyProof.Rows L2
section
variable {prog : Program} {w : World} {A : Around} {E : Value → Shared → Prop} {s : Shared}
end
section
variable {X : Cx} {pos p : Pos}
end
end DL

/-! Dicts as things that change: keys ints and texts (dK), or tuples of such (dT). dZ, dU: locked while they are walked. -/
namespace DL
open PySem PySem.Spec PyProof.Rows L2

/-! ### lists of pairs, whatever the values are -/
section
variable {κ : Type} [DecidableEq κ] {α : Type}
def dVal (kvs : List (κ × α)) (k : κ) : Option α := (kvs.find? fun kv => decide (kv.1 = k)).map (·.2)
def dPut (kvs : List (κ × α)) (k : κ) (v : α) : List (κ × α) :=
  if (kvs.any fun kv => decide (kv.1 = k)) = true then kvs.map (fun kv => if kv.1 = k then (kv.1, v) else kv) else kvs ++ [(k, v)]
def dWo (kvs : List (κ × α)) (k : κ) : List (κ × α) := kvs.filter fun kv => decide (kv.1 ≠ k)
def dMrg (kvs more : List (κ × α)) : List (κ × α) := more.foldl (fun acc kv => dPut acc kv.1 kv.2) kvs
theorem dVal_nil (k : κ) : dVal ([] : List (κ × α)) k = none := rfl
theorem dVal_cons (p : κ × α) (r : List (κ × α)) (k : κ) : dVal (p :: r) k = if p.1 = k then some p.2 else dVal r k := by
  unfold dVal
  rw [List.find?_cons]
  by_cases e : p.1 = k
  · simp [e]
  · simp [e]
theorem dVal_none {kvs : List (κ × α)} {k : κ} : dVal kvs k = none ↔ k ∉ kvs.map (·.1) := by
  induction kvs with
  | nil => simp [dVal_nil]
  | cons p r ih =>
    rw [dVal_cons]
    by_cases e : p.1 = k
    · simp [e]
    · rw [if_neg e, ih]
      simp [Ne.symm e]
theorem any_key {kvs : List (κ × α)} {k : κ} : (kvs.any fun kv => decide (kv.1 = k)) = decide (k ∈ kvs.map (·.1)) := by
  induction kvs with
  | nil => rfl
  | cons p r ih =>
    rw [List.any_cons, ih]
    by_cases e : p.1 = k
    · simp [e]
    · simp [e, Ne.symm e]
theorem dPut_new {kvs : List (κ × α)} {k : κ} (v : α) (h : k ∉ kvs.map (·.1)) : dPut kvs k v = kvs ++ [(k, v)] := by
  unfold dPut
  rw [any_key, decide_eq_false h]
  simp
theorem dVal_put (kvs : List (κ × α)) (k j : κ) (v : α) : dVal (dPut kvs k v) j = if j = k then some v else dVal kvs j := by
  by_cases h : k ∈ kvs.map (·.1)
  · unfold dPut
    rw [any_key, decide_eq_true h, if_pos rfl]
    induction kvs with
    | nil => simp at h
    | cons p r ih =>
      rw [List.map_cons, dVal_cons, dVal_cons]
      by_cases e : p.1 = k
      · rw [if_pos e]
        by_cases q : j = k
        · simp [e, q]
        · rw [if_neg q]
          have : ¬ p.1 = j := fun z => q (z.symm.trans e)
          rw [if_neg this, if_neg this]
          by_cases hr : k ∈ r.map (·.1)
          · rw [ih hr, if_neg q]
          · congr 1
            clear ih h
            induction r with
            | nil => rfl
            | cons x r ih2 =>
              simp only [List.map_cons, List.mem_cons, not_or] at hr
              rw [List.map_cons, if_neg (Ne.symm hr.1), ih2 hr.2]
      · have hr : k ∈ r.map (·.1) := by
          simp only [List.map_cons, List.mem_cons] at h
          rcases h with h | h
          · exact absurd h.symm e
          · exact h
        rw [if_neg e, ih hr]
        by_cases q : p.1 = j
        · have : ¬ j = k := fun z => e (q.trans z)
          rw [if_pos q, if_pos q, if_neg this]
        · rw [if_neg q, if_neg q]
  · rw [dPut_new v h]
    induction kvs with
    | nil =>
      simp only [List.nil_append]
      rw [dVal_cons, dVal_nil]
      by_cases q : j = k
      · simp [q]
      · simp [q, Ne.symm q]
    | cons p r ih =>
      simp only [List.map_cons, List.mem_cons, not_or] at h
      rw [List.cons_append, dVal_cons, dVal_cons, ih h.2]
      by_cases q : p.1 = j
      · have : ¬ j = k := fun z => h.1 (z.symm.trans q.symm)
        rw [if_pos q, if_pos q, if_neg this]
      · rw [if_neg q, if_neg q]
theorem dPut_keys (kvs : List (κ × α)) (k : κ) (v : α) : (dPut kvs k v).map (·.1) = if k ∈ kvs.map (·.1) then kvs.map (·.1) else kvs.map (·.1) ++ [k] := by
  by_cases h : k ∈ kvs.map (·.1)
  · rw [if_pos h]
    unfold dPut
    rw [any_key, decide_eq_true h, if_pos rfl, List.map_map]
    congr 1
    funext p
    simp only [Function.comp]
    split <;> rfl
  · rw [if_neg h, dPut_new v h]
    simp
theorem dPut_len (kvs : List (κ × α)) (k : κ) (v : α) : (dPut kvs k v).length ≤ kvs.length + 1 := by
  unfold dPut
  split <;> simp
/-- new keys, each another one: just behind -/
theorem dMrg_new : ∀ {more kvs : List (κ × α)}, (more.map (·.1)).Nodup → (∀ k ∈ more.map (·.1), k ∉ kvs.map (·.1)) → dMrg kvs more = kvs ++ more
  | [], kvs, _, _ => by simp [dMrg]
  | p :: r, kvs, h, h2 => by
    simp only [List.map_cons, List.nodup_cons] at h
    show dMrg (dPut kvs p.1 p.2) r = _
    rw [dPut_new _ (h2 p.1 (by simp)), dMrg_new h.2 fun k hk => ?_]
    · simp
    · simp only [List.map_append, List.mem_append, not_or]
      refine ⟨h2 k (by simp [hk]), ?_⟩
      simp only [List.map_cons, List.map_nil, List.mem_singleton]
      intro e
      subst e
      exact h.1 hk
end

def kD : Key → D
  | .inl i => .int i
  | .inr s => .str s
def keyOf : D → Option Key
  | .int i => some (.inl i)
  | .str s => some (.inr s)
  | _ => none
def keysOf : List D → Option (List Key)
  | [] => some []
  | x :: r => match keyOf x, keysOf r with
    | some k, some ks => some (k :: ks)
    | _, _ => none
theorem keyOf_int (i : Int) : keyOf (.int i) = some (.inl i) := rfl
theorem keyOf_str (s : Str) : keyOf (.str s) = some (.inr s) := rfl
theorem keyOf_eq {x : D} {k : Key} (h : keyOf x = some k) : x = kD k := by
  cases x <;> simp [keyOf] at h <;> subst h <;> rfl
section
variable {K : PySem.W.Frag} {I I' F H : Hp} {S : Store}
theorem kD_rep (k : Key) : Rep K I (kD k) (kV k) := by
  cases k with
  | inl i => exact rep_int
  | inr s => exact rep_str
theorem kD_of {k : Key} {v : V} (h : Rep K I (kD k) v) : v = kV k := by
  cases k with
  | inl i => exact h.int_of
  | inr s => exact h.str_of
section
variable {κ : Type} [DecidableEq κ]
theorem RepF.nilK : RepF K I ([] : List (κ × D)) [] := by simp only [RepF]
theorem RepF.consK {p : κ × D} {v : V} {r : List (κ × D)} {w : List (κ × V)} (h : Rep K I p.2 v) (h' : RepF K I r w) : RepF K I (p :: r) ((p.1, v) :: w) := by
  simp only [RepF]
  exact ⟨v, w, rfl, h, h'⟩
theorem RepF.lenK : ∀ {fs : List (κ × D)} {vs : List (κ × V)}, RepF K I fs vs → vs.length = fs.length
  | [], _, h => by
    simp only [RepF] at h
    subst h; rfl
  | p :: r, vs, h => by
    simp only [RepF] at h
    obtain ⟨v, w, rfl, h1, h2⟩ := h
    simp [RepF.lenK h2]
theorem RepF.keysK : ∀ {fs : List (κ × D)} {vs : List (κ × V)}, RepF K I fs vs → vs.map (·.1) = fs.map (·.1)
  | [], _, h => by
    simp only [RepF] at h
    subst h; rfl
  | p :: r, vs, h => by
    simp only [RepF] at h
    obtain ⟨v, w, rfl, h1, h2⟩ := h
    simp [RepF.keysK h2]
theorem RepF.getK : ∀ {fs : List (κ × D)} {vs : List (κ × V)} {i : Nat} {p : κ × D}, RepF K I fs vs → fs[i]? = some p → ∃ v, vs[i]? = some (p.1, v) ∧ Rep K I p.2 v
  | [], _, _, _, _, e => by simp at e
  | q :: r, vs, 0, p, h, e => by
    simp only [RepF] at h
    obtain ⟨v, w, rfl, h1, h2⟩ := h
    simp at e; subst e
    exact ⟨v, rfl, h1⟩
  | q :: r, vs, i + 1, p, h, e => by
    simp only [RepF] at h
    obtain ⟨v, w, rfl, h1, h2⟩ := h
    obtain ⟨u, e1, e2⟩ := RepF.getK (i := i) h2 (by simpa using e)
    exact ⟨u, by simpa using e1, e2⟩
theorem RepF.valK {k : κ} : ∀ {fs : List (κ × D)} {vs : List (κ × V)}, RepF K I fs vs → (∀ d, dVal fs k = some d → ∃ v, valV vs k = some v ∧ Rep K I d v) ∧ (dVal fs k = none → valV vs k = none)
  | [], _, h => by
    simp only [RepF] at h
    subst h
    exact ⟨fun d e => by simp [dVal_nil] at e, fun _ => rfl⟩
  | p :: r, vs, h => by
    simp only [RepF] at h
    obtain ⟨v, w, rfl, h1, h2⟩ := h
    have ih := RepF.valK (k := k) h2
    rw [dVal_cons]
    by_cases e : p.1 = k
    · rw [if_pos e, valV_pos (p := (p.1, v)) e]
      exact ⟨fun d z => by cases z; exact ⟨v, rfl, h1⟩, fun z => by cases z⟩
    · rw [if_neg e, valV_neg (p := (p.1, v)) e]
      exact ih
theorem RepF.appK : ∀ {fs gs : List (κ × D)} {vs ws : List (κ × V)}, RepF K I fs vs → RepF K I gs ws → RepF K I (fs ++ gs) (vs ++ ws)
  | [], _, _, _, h, h' => by
    simp only [RepF] at h
    subst h; simpa using h'
  | p :: r, gs, vs, ws, h, h' => by
    simp only [RepF] at h
    obtain ⟨v, w, rfl, h1, h2⟩ := h
    simp only [List.cons_append, RepF]
    exact ⟨v, w ++ ws, rfl, h1, h2.appK h'⟩
theorem RepF.putK {k : κ} {d : D} {v : V} {fs : List (κ × D)} {vs : List (κ × V)} (h : RepF K I fs vs) (h' : Rep K I d v) : RepF K I (dPut fs k d) (L2.putK vs k v) := by
  have ha : (vs.any fun kv => decide (kv.1 = k)) = (fs.any fun kv => decide (kv.1 = k)) := by
    have e : ∀ {α : Type} (l : List (κ × α)), (l.any fun kv => decide (kv.1 = k)) = ((l.map (·.1)).any fun j => decide (j = k)) := fun l => by rw [List.any_map]; rfl
    rw [e, e, h.keysK]
  unfold dPut L2.putK
  rw [ha]
  split
  · clear ha
    rename_i hx
    clear hx
    induction fs generalizing vs with
    | nil =>
      simp only [RepF] at h
      subst h
      exact RepF.nilK
    | cons p r ih =>
      simp only [RepF] at h
      obtain ⟨w, u, rfl, h1, h2⟩ := h
      simp only [List.map_cons]
      by_cases e : p.1 = k
      · rw [if_pos e, if_pos e]
        exact RepF.consK (p := (p.1, d)) h' (ih h2)
      · rw [if_neg e, if_neg e]
        exact RepF.consK h1 (ih h2)
  · exact h.appK (RepF.consK (p := (k, d)) h' RepF.nilK)
theorem RepF.dropK {k : κ} : ∀ {fs : List (κ × D)} {vs : List (κ × V)}, RepF K I fs vs → RepF K I (dWo fs k) (L2.dropK vs k)
  | [], _, h => by
    simp only [RepF] at h
    subst h; exact RepF.nilK
  | p :: r, vs, h => by
    simp only [RepF] at h
    obtain ⟨v, w, rfl, h1, h2⟩ := h
    have ih := RepF.dropK (k := k) h2
    unfold dWo L2.dropK at *
    by_cases e : p.1 = k
    · rw [List.filter_cons_of_neg (by simp [e]), List.filter_cons_of_neg (by simp [e])]
      exact ih
    · rw [List.filter_cons_of_pos (by simp [e]), List.filter_cons_of_pos (by simp [e])]
      exact RepF.consK h1 ih
end
theorem repF_mrgK : ∀ {more fs : List (Key × D)} {ms vs : List (Key × V)}, RepF K I more ms → RepF K I fs vs → RepF K I (dMrg fs more) (mergeK vs ms)
  | [], fs, ms, vs, h, h' => by
    simp only [RepF] at h
    subst h; exact h'
  | p :: r, fs, ms, vs, h, h' => by
    simp only [RepF] at h
    obtain ⟨v, w, rfl, h1, h2⟩ := h
    show RepF K I (dMrg (dPut fs p.1 p.2) r) (mergeK (L2.putK vs p.1 v) w)
    exact repF_mrgK h2 (h'.putK h1)

/-! ### a dict of the store -/
/-- what a dict with keys of ints and texts holds, locked or not -/
def dctOf (S : Store) : D → Option (List (Key × D))
  | .obj a => match S a with
    | some (.dK kvs) => some kvs
    | some (.dZ _ _ kvs) => some kvs
    | _ => none
  | _ => none
theorem dct_rd (ok : Ok K I S F H) {x : D} {v : V} {kvs : List (Key × D)} (r : Rep K I x v) (h : dctOf S x = some kvs) : ∃ a vs, v = .ref a ∧ Rd H a (.dK vs) ∧ RepF K I kvs vs := by
  cases x with
  | obj a =>
    unfold dctOf at h
    cases e : S a with
    | none => simp [e] at h
    | some m =>
      cases m with
      | dK es =>
        simp [e] at h; subst h
        obtain ⟨_, vs, q, rf⟩ := ok.s a _ e
        exact ⟨a, vs, r.obj_of, .inl q, rf⟩
      | dZ o ws es =>
        simp [e] at h; subst h
        obtain ⟨_, q, rf⟩ := ok.s a _ e
        exact ⟨a, ws, r.obj_of, .inr ⟨o, q⟩, rf⟩
      | _ => simp [e] at h
  | _ => simp [dctOf] at h
theorem Ok.dkAt (ok : Ok K I S F H) {a : Addr} {kvs : List (Key × D)} (e : S a = some (.dK kvs)) : ∃ vs, H a = some (.dK vs) ∧ RepF K I kvs vs := (ok.s a _ e).2
theorem Ok.writeD (ok : Ok K I S F H) {a : Addr} {m : MO} {vs vs0 : List (Key × V)} {kvs : List (Key × D)} (e : S a = some m) (hh : H a = some (.dK vs0)) (r : RepF K I kvs vs) : Ok K I (supd S a (.dK kvs)) F (upd H a (.dK vs)) :=
  ok.write e (fun y z => by rw [hh] at z; cases z) ⟨vs, upd_same, r⟩
/-- a new dict -/
theorem Ok.newD (h : Ok K I S F H) {p : Addr} {vs : List (Key × V)} {kvs : List (Key × D)} (n : H p = none) (r : RepF K I kvs vs) : Ok K I (supd S p (.dK kvs)) F (upd H p (.dK vs)) := by
  refine ⟨fun a x e => ?_, fun a m e => ?_, fun a x e => ?_⟩
  · rw [upd_ne (ne_of_none (h.i a x e) n)]; exact h.i a x e
  · unfold supd at e
    by_cases q : a = p
    · subst q
      rw [if_pos rfl] at e; cases e
      exact ⟨h.freshI n, vs, upd_same, r⟩
    · rw [if_neg q] at e
      obtain ⟨h1, h2⟩ := h.s a m e
      refine ⟨h1, h2.mono (Same.refl I) (upd_ne q) fun dx q => ?_⟩
      rw [upd_ne (ne_of_none q n)]; exact q
  · obtain ⟨h1, h2, h3, h4⟩ := h.f a x e
    have ne : a ≠ p := ne_of_none h1 n
    exact ⟨by rw [upd_ne ne]; exact h1, h2, by unfold supd; rw [if_neg ne]; exact h3, h4⟩
/-- a hidden dict is laid into the store -/
theorem Ok.showD (h : Ok K I S F H) {p : Addr} {vs : List (Key × V)} {kvs : List (Key × D)} (e : F p = some (.dK vs)) (r : RepF K I kvs vs) : Ok K I (supd S p (.dK kvs)) (fun b => if b = p then none else F b) H := by
  obtain ⟨f1, f2, f3, f4⟩ := h.f p _ e
  refine ⟨h.i, fun a m q => ?_, fun a x q => ?_⟩
  · unfold supd at q
    by_cases z : a = p
    · subst z
      rw [if_pos rfl] at q; cases q
      exact ⟨f2, vs, f1, r⟩
    · rw [if_neg z] at q
      exact h.s a m q
  · by_cases z : a = p
    · rw [if_pos z] at q; cases q
    · rw [if_neg z] at q
      obtain ⟨h1, h2, h3, h4⟩ := h.f a x q
      exact ⟨h1, h2, by unfold supd; rw [if_neg z]; exact h3, h4⟩
end

/-! ### d[k], k in d, d.get(k), d.get(k, x) -/
def dDGet : D2 := fun x y S P => match dctOf S x, keyOf y with
  | some kvs, some k => (match dVal kvs k with
    | some d => P d S
    | none => False)
  | _, _ => False
def dDIn (neg : Bool) : D2 := fun y x S P => match dctOf S x, keyOf y with
  | some kvs, some k => P (.bl (if neg then !(dVal kvs k).isSome else (dVal kvs k).isSome)) S
  | _, _ => False
def dDGet1 (dd dk : DE) : DE := fun ρ S P => dd ρ S fun x S1 => (dctOf S1 x).isSome = true ∧ dk ρ S1 fun y S2 => match dctOf S2 x, keyOf y with
  | some kvs, some k => P ((dVal kvs k).getD .non) S2
  | _, _ => False
def dDGet2 (dd dk dx : DE) : DE := fun ρ S P => dd ρ S fun x S1 => (dctOf S1 x).isSome = true ∧ dk ρ S1 fun y S2 => dx ρ S2 fun z S3 => match dctOf S3 x, keyOf y with
  | some kvs, some k => P ((dVal kvs k).getD z) S3
  | _, _ => False
def dDPut (dd dk dv : DE) : DS := fun DD ρ S => dv ρ S fun z S1 => dd ρ S1 fun x S2 => dk ρ S2 fun y S3 => ∃ a kvs k, x = .obj a ∧ S3 a = some (.dK kvs) ∧ keyOf y = some k ∧ kvs.length < 100000 ∧ DD.nx ρ (supd S3 a (.dK (dPut kvs k z)))
def dDPop1 (dd dk : DE) : DE := fun ρ S P => dd ρ S fun x S1 => (dctOf S1 x).isSome = true ∧ dk ρ S1 fun y S2 => ∃ a kvs k v, x = .obj a ∧ S2 a = some (.dK kvs) ∧ keyOf y = some k ∧ dVal kvs k = some v ∧ P v (supd S2 a (.dK (dWo kvs k)))
def dDPop2 (dd dk dx : DE) : DE := fun ρ S P => dd ρ S fun x S1 => (dctOf S1 x).isSome = true ∧ dk ρ S1 fun y S2 => dx ρ S2 fun z S3 => ∃ a kvs k, x = .obj a ∧ S3 a = some (.dK kvs) ∧ keyOf y = some k ∧
  match dVal kvs k with
  | some v => P v (supd S3 a (.dK (dWo kvs k)))
  | none => P z S3
theorem some_ex {α : Type} {o : Option α} (h : o.isSome = true) : ∃ x, o = some x := by
  cases o with
  | none => cases h
  | some x => exact ⟨x, rfl⟩
section
variable {X : Cx} {pos pos' apos cpos : Pos} {o i e f value : Expr} {dd dk dv dx : DE} {n : Nat}
theorem je_dget (hr : DG.RoomG n X.A) (ho : JE X o dd) (hi : JE X i dk) (hs : NoSl i := by first | exact fun _ _ => rfl | (intro _ _; rfl)) : JE X (.Subscript o i pos) (dOp dDGet dd dk) :=
  je_of (pe_dget (by have := hr.r.un; omega) ho hi hs) fun σ H Q h0_ => El54 h0_ fun ρ I S F P rs ok h q => ⟨ρ, I, S, F, _, rs, ok, h, fun x S1 v I1 H1 h1 e1 ok1 r1 => ⟨ρ, I1, S1, F, _, rs.mono e1, ok1, h1, fun y S2 w I2 H2 h2 e2 ok2 r2 => by
    unfold dDGet at h2
    split at h2
    · rename_i kvs k h3 h4
      obtain ⟨a, vs, rfl, hd, rf⟩ := dct_rd ok2 (r1.mono e2) h3
      rw [keyOf_eq h4] at r2
      split at h2
      · rename_i d h5
        obtain ⟨u, hu, ru⟩ := (rf.valK (k := k)).1 d h5
        exact ⟨a, u, rfl, .inl ⟨vs, k, hd, kD_of r2, hu.symm⟩, q _ _ _ _ _ h2 (e1.trans e2) ok2 ru⟩
      · exact h2.elim
    · exact h2.elim⟩⟩
theorem get_of {K : PySem.W.Frag} {I F H : Hp} {S : Store} {x y : D} {v w : V} {kvs : List (Key × D)} {k : Key} (ok : Ok K I S F H) (r1 : Rep K I x v) (r2 : Rep K I y w) (h3 : dctOf S x = some kvs) (h4 : keyOf y = some k) :
    ∃ a o, v = .ref a ∧ DGet H a w o ∧ (∀ d, dVal kvs k = some d → ∃ u, o = some u ∧ Rep K I d u) ∧ (dVal kvs k = none → o = none) ∧ o.isSome = (dVal kvs k).isSome := by
  obtain ⟨a, vs, rfl, hd, rf⟩ := dct_rd ok r1 h3
  rw [keyOf_eq h4] at r2
  have z := rf.valK (k := k)
  refine ⟨a, valV vs k, rfl, .inl ⟨vs, k, hd, kD_of r2, rfl⟩, z.1, z.2, ?_⟩
  cases e : dVal kvs k with
  | none => rw [z.2 e]; rfl
  | some d => obtain ⟨u, hu, _⟩ := z.1 d e; rw [hu]; rfl
theorem je_din (hr : DG.RoomG n X.A) (hi : JE X i dk) (ho : JE X o dd) (hm : behindInMarks .In o = false := by rfl) : JE X (.Compare i [.In] [o] pos) (dOp (dDIn false) dk dd) :=
  je_of (pe_cmp (pc_din (by have := hr.r.un; omega) hi ho) hm) fun σ H Q h0_ => El54 h0_ fun ρ I S F P rs ok h q => ⟨ρ, I, S, F, _, rs, ok, h, fun y S1 w I1 H1 h1 e1 ok1 r1 => ⟨ρ, I1, S1, F, _, rs.mono e1, ok1, h1, fun x S2 v I2 H2 h2 e2 ok2 r2 => by
    unfold dDIn at h2
    split at h2
    · rename_i kvs k h3 h4
      obtain ⟨a, ov, rfl, g, _, _, z⟩ := get_of ok2 r2 (r1.mono e2) h3 h4
      refine ⟨a, ov, rfl, g, ?_⟩
      rw [z]
      exact q _ _ _ _ _ h2 (e1.trans e2) ok2 rep_bl
    · exact h2.elim⟩⟩
theorem je_dnotin (hr : DG.RoomG n X.A) (hi : JE X i dk) (ho : JE X o dd) (hm : behindInMarks .NotIn o = false := by rfl) : JE X (.Compare i [.NotIn] [o] pos) (dOp (dDIn true) dk dd) :=
  je_of (pe_cmp (pc_dnotin (by have := hr.r.un; omega) hi ho) hm) fun σ H Q h0_ => El54 h0_ fun ρ I S F P rs ok h q => ⟨ρ, I, S, F, _, rs, ok, h, fun y S1 w I1 H1 h1 e1 ok1 r1 => ⟨ρ, I1, S1, F, _, rs.mono e1, ok1, h1, fun x S2 v I2 H2 h2 e2 ok2 r2 => by
    unfold dDIn at h2
    split at h2
    · rename_i kvs k h3 h4
      obtain ⟨a, ov, rfl, g, _, _, z⟩ := get_of ok2 r2 (r1.mono e2) h3 h4
      refine ⟨a, ov, rfl, g, ?_⟩
      rw [z]
      exact q _ _ _ _ _ h2 (e1.trans e2) ok2 rep_bl
    · exact h2.elim⟩⟩
theorem jt_cmpP {op : CmpOp} {t : TE} {d : DE} (h : PC X op i o t) (u : ∀ σ H Q, upE X.K d σ H Q → t σ H Q) (hm : behindInMarks op o = false) : JT X (.Compare i [op] [o] pos) (dTest d) :=
  jt_of (pt_cmp h hm) fun σ H Q h0_ => El54 h0_ fun ρ I S F P rs ok hh q => u _ _ _ ⟨ρ, I, S, F, _, rs, ok, hh, fun x S1 v I1 H1 h1 e1 ok1 r1 => by
    cases x with
    | bl k => exact ⟨k, r1.bl_of, q k S1 I1 H1 h1 e1 ok1⟩
    | _ => exact h1.elim⟩
theorem up_din (neg : Bool) : ∀ σ H Q, upE X.K (dOp (dDIn neg) dk dd) σ H Q → (if neg then tDNotIn (upE X.K dk) (upE X.K dd) σ H Q else tDIn (upE X.K dk) (upE X.K dd) σ H Q) := fun σ H Q h0_ => El54 h0_ fun ρ I S F P rs ok h q => by
  have key : ∀ y S1 w I1 H1, dd ρ S1 (fun x S2 => dDIn neg y x S2 P) → Same I I1 → Ok X.K I1 S1 F H1 → Rep X.K I1 y w →
      upE X.K dd σ H1 fun v H2 => ∃ a o, v = .ref a ∧ DGet H2 a w o ∧ Q (.bl (if neg then !o.isSome else o.isSome)) H2 := fun y S1 w I1 H1 h1 e1 ok1 r1 =>
    ⟨ρ, I1, S1, F, _, rs.mono e1, ok1, h1, fun x S2 v I2 H2 h2 e2 ok2 r2 => by
      unfold dDIn at h2
      split at h2
      · rename_i kvs k h3 h4
        obtain ⟨a, ov, rfl, g, _, _, z⟩ := get_of ok2 r2 (r1.mono e2) h3 h4
        refine ⟨a, ov, rfl, g, ?_⟩
        rw [z]
        exact q _ _ _ _ _ h2 (e1.trans e2) ok2 rep_bl
      · exact h2.elim⟩
  cases neg with
  | true => exact ⟨ρ, I, S, F, _, rs, ok, h, key⟩
  | false => exact ⟨ρ, I, S, F, _, rs, ok, h, key⟩
theorem jt_din (hr : DG.RoomG n X.A) (hi : JE X i dk) (ho : JE X o dd) (hm : behindInMarks .In o = false := by rfl) : JT X (.Compare i [.In] [o] pos) (dTest (dOp (dDIn false) dk dd)) :=
  jt_cmpP (pc_din (by have := hr.r.un; omega) hi ho) (up_din false) hm
theorem jt_dnotin (hr : DG.RoomG n X.A) (hi : JE X i dk) (ho : JE X o dd) (hm : behindInMarks .NotIn o = false := by rfl) : JT X (.Compare i [.NotIn] [o] pos) (dTest (dOp (dDIn true) dk dd)) :=
  jt_cmpP (pc_dnotin (by have := hr.r.un; omega) hi ho) (up_din true) hm
theorem js_dput (hr : DG.RoomG n X.A) (ho : JE X o dd) (hi : JE X i dk) (hv : JE X value dv) (hs : swapsWith value (some (.Subscript o i pos')) pos.line X.env = pure false := by rfl) : JS X (.Assign [.Subscript o i pos'] value pos) (dDPut dd dk dv) :=
  js_of (ps_dput (by have := hr.r.un; omega) ho hi hv hs) fun D σ H h0_ => El54 h0_ fun ρ I S F DD rs ok h q => ⟨ρ, I, S, F, _, rs, ok, h, fun z S1 zv I1 H1 h1 e1 ok1 r1 => ⟨ρ, I1, S1, F, _, rs.mono e1, ok1, h1, fun x S2 v I2 H2 h2 e2 ok2 r2 =>
    ⟨ρ, I2, S2, F, _, rs.mono (e1.trans e2), ok2, h2, fun y S3 w I3 H3 ⟨a, kvs, k, ex, es, ek, hl, h3⟩ e3 ok3 r3 => by
      subst ex
      obtain ⟨vs, hh, rf⟩ := ok3.dkAt es
      rw [keyOf_eq ek] at r3
      have hl2 : vs.length < sizeLine := by rw [rf.lenK]; exact Nat.lt_of_lt_of_le hl (by decide)
      refine ⟨a, upd H3 a (.dK (L2.putK vs k zv)), (r2.mono e3).obj_of, ?_, q.nx _ _ _ _ _ h3 ((e1.trans e2).trans e3) (ok3.writeD es hh (rf.putK ((r1.mono e2).mono e3))) (rs.mono ((e1.trans e2).trans e3))⟩
      rw [kD_of r3]
      exact DPut.k hh hl2⟩⟩⟩
theorem je_dpop1 (ho : JE X o dd) (he : JE X e dk) (m : M1 X o "pop" apos e cpos := by exact ⟨rfl, rfl, rfl, rfl⟩) : JE X (.Call (.Attribute o "pop" apos) [e] [] cpos) (dDPop1 dd dk) :=
  je_of (pe_dpop1 ho he m) fun σ H Q h0_ => El54 h0_ fun ρ I S F P rs ok h q => ⟨ρ, I, S, F, _, rs, ok, h, fun x S1 v I1 H1 ⟨hx, h1⟩ e1 ok1 r1 => by
    obtain ⟨es, hx⟩ := some_ex hx
    obtain ⟨a, vs, rfl, hd, _⟩ := dct_rd ok1 r1 hx
    refine ⟨a, rfl, .inl ⟨vs, hd⟩, ρ, I1, S1, F, _, rs.mono e1, ok1, h1, fun y S2 w I2 H2 ⟨b, kvs, k, d, ex, es2, ek, hv, h2⟩ e2 ok2 r2 => ?_⟩
    subst ex
    cases r1.obj_of
    obtain ⟨ws, hh, rf⟩ := ok2.dkAt es2
    rw [keyOf_eq ek] at r2
    obtain ⟨u, hu, ru⟩ := (rf.valK (k := k)).1 d hv
    exact ⟨ws, k, u, hh, kD_of r2, hu, q _ _ _ _ _ h2 (e1.trans e2) (ok2.writeD es2 hh rf.dropK) ru⟩⟩
end

/-! ### {} and displays -/
def dNewD : DE := fun _ S P => ∀ p, S p = none → P (.obj p) (supd S p (.dK []))
def dPrs : List (DE × DE) → DSt → Store → (List (D × D) → Store → Prop) → Prop
  | [], _, S, P => P [] S
  | t :: r, ρ, S, P => t.1 ρ S fun k S1 => t.2 ρ S1 fun v S2 => dPrs r ρ S2 fun ps S3 => P ((k, v) :: ps) S3
def dkvsOf : List (D × D) → Option (List (Key × D))
  | [] => some []
  | (x, y) :: r => match keyOf x, dkvsOf r with
    | some k, some ks => some ((k, y) :: ks)
    | _, _ => none
/-- a display of unlike keys -/
def dDisp (prs : List (DE × DE)) : DE := fun ρ S P => dPrs prs ρ S fun ps S1 => match dkvsOf ps with
  | some kvs => kvs.length ≤ 15 ∧ (kvs.map (·.1)).Nodup ∧ ∀ p, S1 p = none → P (.obj p) (supd S1 p (.dK kvs))
  | none => False
section
variable {X : Cx} {pos : Pos} {k v : Expr} {ks : List (Option Expr)} {vs : List Expr} {dk dv : DE} {prs : List (DE × DE)}
theorem je_dnew : JE X (.Dict [] [] pos) dNewD := je_of pe_dnewK fun σ H Q h0_ => El54 h0_ fun ρ I S F P rs ok h q => fun p hp =>
  q _ _ _ _ _ (h p (ok.freshS hp)) (Same.refl I) (ok.newD hp RepF.nilK) (by simp only [Rep])
abbrev JPs (X : Cx) (pos : Pos) (keys : List (Option Expr)) (values : List Expr) (prs : List (DE × DE)) : Prop := PPs X pos keys values (prs.map fun p => (upE X.K p.1, upE X.K p.2))
theorem jps_nil : JPs X pos [] [] [] := pps_nil
theorem jps_cons (hk : JE X k dk) (hv : JE X v dv) (hr : JPs X pos ks vs prs) : JPs X pos (some k :: ks) (v :: vs) ((dk, dv) :: prs) := pps_cons hk hv hr
def RepP (K : PySem.W.Frag) (I : Hp) : List (D × D) → List (V × V) → Prop
  | [], ws => ws = []
  | p :: r, ws => ∃ u v w, ws = (u, v) :: w ∧ Rep K I p.1 u ∧ Rep K I p.2 v ∧ RepP K I r w
theorem up_pairs {K : PySem.W.Frag} {F : Hp} {σ : L2.St} : ∀ (prs : List (DE × DE)) {ρ : DSt} {I H : Hp} {S : Store} {P : List (D × D) → Store → Prop} {Q : List (V × V) → Hp → Prop}, RepS K I ρ σ → Ok K I S F H → dPrs prs ρ S P →
    (∀ ps S' ws I' H', P ps S' → Same I I' → Ok K I' S' F H' → RepP K I' ps ws → Q ws H') → tPairs (prs.map fun p => (upE K p.1, upE K p.2)) σ H Q
  | [], ρ, I, H, S, P, Q, rs, ok, h, q => q _ _ _ _ _ h (Same.refl I) ok (by simp only [RepP])
  | t :: r, ρ, I, H, S, P, Q, rs, ok, h, q => by
    show upE K t.1 σ H fun x H1 => upE K t.2 σ H1 fun y H2 => tPairs (r.map fun p => (upE K p.1, upE K p.2)) σ H2 fun ps H3 => Q ((x, y) :: ps) H3
    exact ⟨ρ, I, S, F, _, rs, ok, h, fun x S1 v I1 H1 h1 e1 ok1 r1 => ⟨ρ, I1, S1, F, _, rs.mono e1, ok1, h1, fun y S2 w I2 H2 h2 e2 ok2 r2 =>
      up_pairs r (rs.mono (e1.trans e2)) ok2 h2 fun ps S3 ws I3 H3 h3 e3 ok3 r3 => q _ _ _ _ _ h3 ((e1.trans e2).trans e3) ok3 (by
        simp only [RepP]
        exact ⟨v, w, ws, rfl, (r1.mono e2).mono e3, r2.mono e3, r3⟩)⟩⟩
theorem dkvsOf_rep {K : PySem.W.Frag} {I : Hp} : ∀ {ps : List (D × D)} {kvs : List (Key × D)} {ws : List (V × V)}, RepP K I ps ws → dkvsOf ps = some kvs → ∃ vs : List (Key × V), ws = vs.map (fun kv => (kV kv.1, kv.2)) ∧ RepF K I kvs vs
  | [], kvs, ws, h, e => by
    simp only [RepP] at h
    simp only [dkvsOf, Option.some.injEq] at e
    subst h e
    exact ⟨[], rfl, RepF.nilK⟩
  | (x, y) :: r, kvs, ws, h, e => by
    simp only [RepP] at h
    obtain ⟨u, v, w, rfl, h1, h2, h3⟩ := h
    unfold dkvsOf at e
    cases e1 : keyOf x with
    | none => rw [e1] at e; cases e
    | some k =>
      cases e2 : dkvsOf r with
      | none => rw [e1, e2] at e; cases e
      | some js =>
        rw [e1, e2] at e
        cases e
        obtain ⟨vs, rfl, rf⟩ := dkvsOf_rep h3 e2
        rw [keyOf_eq e1] at h1
        exact ⟨(k, v) :: vs, by rw [kD_of h1]; rfl, RepF.consK (p := (k, y)) h2 rf⟩
theorem mergeK_nd {vs : List (Key × V)} (h : (vs.map (·.1)).Nodup) : mergeK [] vs = vs := by
  have : ∀ (more acc : List (Key × V)), (more.map (·.1)).Nodup → (∀ k ∈ more.map (·.1), k ∉ acc.map (·.1)) → mergeK acc more = acc ++ more := by
    intro more
    induction more with
    | nil => intro acc _ _; simp [mergeK]
    | cons p r ih =>
      intro acc h h2
      simp only [List.map_cons, List.nodup_cons] at h
      have hn : L2.putK acc p.1 p.2 = acc ++ [(p.1, p.2)] := by
        unfold L2.putK
        have : ¬ (acc.any fun kv => decide (kv.1 = p.1)) = true := by
          intro z
          rw [List.any_eq_true] at z
          obtain ⟨x, hx, e⟩ := z
          exact h2 p.1 (by simp) (List.mem_map.2 ⟨x, hx, of_decide_eq_true e⟩)
        rw [if_neg this]
      show mergeK (L2.putK acc p.1 p.2) r = _
      rw [hn, ih _ h.2 fun k hk => ?_]
      · simp
      · simp only [List.map_append, List.mem_append, not_or]
        refine ⟨h2 k (by simp [hk]), ?_⟩
        simp only [List.map_cons, List.map_nil, List.mem_singleton]
        intro e
        subst e
        exact h.1 hk
  simpa using this vs [] h (by simp)
theorem je_disp (h : JPs X pos ks vs prs) (hall : ks.all (·.isSome) = true := by rfl) (hl : ks.length = vs.length := by rfl) (h0 : ks ≠ [] := by exact fun z => nomatch z) (h15 : ks.length ≤ 15 := by decide) : JE X (.Dict ks vs pos) (dDisp prs) :=
  je_of (pe_disp h hall hl h0 h15) fun σ H Q h0_ => El54 h0_ fun ρ I S F P rs ok h q => by
    intro p hp
    have hF : (upd F p (.dK [])) p = some (.dK []) := upd_same
    have ok1 : Ok X.K I S (upd F p (.dK [])) (upd H p (.dK [])) := ok.newF hp ⟨fun y z => (by cases z), fun y z => (by cases z)⟩
    have hn : F p = none := ok.freshF hp
    refine up_pairs prs rs ok1 h fun ps S1 ws I1 H1 h1 e1 ok2 r1 => ?_
    split at h1
    · rename_i kvs hk
      obtain ⟨vs', ew, rf⟩ := dkvsOf_rep r1 hk
      have hd := (ok2.f p _ hF)
      refine ⟨hd.1, vs', ew, by rw [rf.lenK]; exact h1.1, ?_⟩
      rw [mergeK_nd (by rw [rf.keysK]; exact h1.2.1)]
      have ok3 := ok2.writeF (o' := .dK vs') hF ⟨fun y z => (by cases z), fun y z => (by cases z)⟩
      rw [upd_upd] at ok3
      have ok4 := ok3.showD (kvs := kvs) upd_same rf
      refine q _ _ _ _ _ (h1.2.2 p hd.2.2.1) e1 (ok4.less fun a x ea => ?_) (by simp only [Rep])
      have ne : a ≠ p := fun z => by rw [z, hn] at ea; cases ea
      show (if a = p then none else upd F p (.dK vs') a) = some x
      rw [if_neg ne, upd_ne ne]; exact ea
    · exact h1.elim
end

/-! ### locks -/
/-- what is to hold behind a lock of p -/
def lockEnds (DD : DEnds) (p : Addr) (o : Obj) (vs : List (Key × V)) (kvs : List (Key × D)) : DEnds where
  nx := fun ρ S => S p = some (.dZ o vs kvs) ∧ DD.nx ρ (supd S p (.dK kvs))
  rt := fun x S => S p = some (.dZ o vs kvs) ∧ DD.rt x (supd S p (.dK kvs))
  bk := fun ρ S => S p = some (.dZ o vs kvs) ∧ DD.bk ρ (supd S p (.dK kvs))
  ct := fun ρ S => S p = some (.dZ o vs kvs) ∧ DD.ct ρ (supd S p (.dK kvs))
def dLock (t : DS) : DS := fun DD ρ S => t DD ρ S ∨ ∃ p kvs, S p = some (.dK kvs) ∧ ∀ o vs, t (lockEnds DD p o vs kvs) ρ (supd S p (.dZ o vs kvs))
def dLockE (t : DE) : DE := fun ρ S P => t ρ S P ∨ ∃ p kvs, S p = some (.dK kvs) ∧ ∀ o vs, t ρ (supd S p (.dZ o vs kvs)) fun x S' => S' p = some (.dZ o vs kvs) ∧ P x (supd S' p (.dK kvs))
section
variable {K : PySem.W.Frag} {I F H : Hp} {S : Store}
theorem Ok.lockD (ok : Ok K I S F H) {p : Addr} {kvs : List (Key × D)} {vs : List (Key × V)} (o : Obj) (e : S p = some (.dK kvs)) (hh : H p = some (.dK vs)) (r : RepF K I kvs vs) : Ok K I (supd S p (.dZ o vs kvs)) F (upd H p (.frz o (.dK vs))) :=
  ok.write e (fun y z => by rw [hh] at z; cases z) ⟨upd_same, r⟩
theorem Ok.unlockD (ok : Ok K I S F H) {p : Addr} {kvs : List (Key × D)} {vs : List (Key × V)} {o : Obj} (e : S p = some (.dZ o vs kvs)) : H p = some (.frz o (.dK vs)) ∧ Ok K I (supd S p (.dK kvs)) F (upd H p (.dK vs)) := by
  obtain ⟨_, h1, h2⟩ := ok.s p _ e
  exact ⟨h1, ok.write e (fun y z => by rw [h1] at z; cases z) ⟨vs, upd_same, h2⟩⟩
variable {X : Cx} {st : Stmt} {e : Expr} {t : DS} {d : DE}
theorem ps_or {a b : TS} (h : PS X st a) (h' : PS X st b) : PS X st (fun D σ H => a D σ H ∨ b D σ H) := ⟨fun pins s σ H D I hw => hw.elim (h.run pins s σ H D I) (h'.run pins s σ H D I)⟩
theorem pe_orE {a b : TE} (h : PE X e a) (h' : PE X e b) : PE X e (fun σ H Q => a σ H Q ∨ b σ H Q) := ⟨fun pins s σ H Q I hw => hw.elim (h.run pins s σ H Q I) (h'.run pins s σ H Q I)⟩
theorem js_lock (h : JS X st t) : JS X st (dLock t) := js_of (ps_or h (ps_lock h)) fun D σ H h0_ => El54 h0_ fun ρ I S F DD rs ok h q => by
  rcases h with h | ⟨p, kvs, e, h⟩
  · exact .inl ⟨ρ, I, S, F, DD, rs, ok, h, q⟩
  · obtain ⟨vs, hh, r⟩ := ok.dkAt e
    refine .inr ⟨p, _, hh, trivial, fun od => ⟨ρ, I, _, F, _, rs, ok.lockD od e hh r, h od vs, ?_⟩⟩
    refine ⟨fun ρ1 S1 σ1 I1 H1 h1 e1 ok1 rs1 => ?_, fun x S1 v I1 H1 h1 e1 ok1 r1 => ?_, fun ρ1 S1 σ1 I1 H1 h1 e1 ok1 rs1 => ?_, fun ρ1 S1 σ1 I1 H1 h1 e1 ok1 rs1 => ?_⟩
    · obtain ⟨z, ok2⟩ := ok1.unlockD h1.1
      exact ⟨z, q.nx _ _ _ _ _ h1.2 e1 ok2 rs1⟩
    · obtain ⟨z, ok2⟩ := ok1.unlockD h1.1
      exact ⟨z, q.rt _ _ _ _ _ h1.2 e1 ok2 r1⟩
    · obtain ⟨z, ok2⟩ := ok1.unlockD h1.1
      exact ⟨z, q.bk _ _ _ _ _ h1.2 e1 ok2 rs1⟩
    · obtain ⟨z, ok2⟩ := ok1.unlockD h1.1
      exact ⟨z, q.ct _ _ _ _ _ h1.2 e1 ok2 rs1⟩
theorem je_lock (h : JE X e d) : JE X e (dLockE d) := je_of (pe_orE h (pe_lock h)) fun σ H Q h0_ => El54 h0_ fun ρ I S F P rs ok h q => by
  rcases h with h | ⟨p, kvs, e, h⟩
  · exact .inl ⟨ρ, I, S, F, P, rs, ok, h, q⟩
  · obtain ⟨vs, hh, r⟩ := ok.dkAt e
    refine .inr ⟨p, _, hh, trivial, fun od => ⟨ρ, I, _, F, _, rs, ok.lockD od e hh r, h od vs, fun x S1 v I1 H1 h1 e1 ok1 r1 => ?_⟩⟩
    obtain ⟨z, ok2⟩ := ok1.unlockD h1.1
    exact ⟨z, q _ _ _ _ _ h1.2 e1 ok2 r1⟩
end

/-! ### a locked dict walked -/
/-- its keys -/
def dItKeys (d : DE) : DI := fun ρ S P => d ρ S fun x S1 => ∃ a o vs kvs, x = .obj a ∧ S1 a = some (.dZ o vs kvs) ∧ P (kvs.map fun kv => kD kv.1) (some fun S => S a = some (.dZ o vs kvs)) S1
/-- its pairs, its values -/
def dItItems (d : DE) : DI := fun ρ S P => d ρ S fun x S1 => ∃ a o vs kvs, x = .obj a ∧ S1 a = some (.dZ o vs kvs) ∧ P (kvs.map fun kv => .tup [kD kv.1, kv.2]) (some fun S => S a = some (.dZ o vs kvs)) S1
def dItVals (d : DE) : DI := fun ρ S P => d ρ S fun x S1 => ∃ a o vs kvs, x = .obj a ∧ S1 a = some (.dZ o vs kvs) ∧ P (kvs.map fun kv => kv.2) (some fun S => S a = some (.dZ o vs kvs)) S1
section
variable {X : Cx} {tg e : Expr} {d : DE} {apos cpos : Pos}
theorem ji_keys (he : JE X e d) : JI X tg e (dItKeys d) := ji_of (pi_keys he) fun σ H R h0_ => El54 h0_ fun ρ I S F P rs ok h q => ⟨ρ, I, S, F, _, rs, ok, h, fun x S1 v I1 H1 ⟨a, o, vs, kvs, ex, es, h1⟩ e1 ok1 r1 => by
  subst ex
  obtain ⟨_, hh, rf⟩ := ok1.s a _ es
  refine ⟨a, o, r1.obj_of, .inl ⟨vs, hh, q _ _ _ _ _ _ h1 e1 ok1 ⟨fun I2 S2 F2 H2 e2 ok2 pk i d hd => ?_, fun I2 S2 F2 H2 e2 ok2 pk i hi => ?_⟩⟩⟩
  · obtain ⟨_, hh2, rf2⟩ := ok2.s a _ (show S2 a = _ from pk)
    rw [List.getElem?_map] at hd
    cases e3 : kvs[i]? with
    | none => rw [e3] at hd; cases hd
    | some p =>
      rw [e3] at hd
      cases hd
      obtain ⟨u, hu, _⟩ := rf2.getK e3
      refine ⟨⟨hh2, by rw [List.getElem?_eq_some_iff] at hu; exact hu.1⟩, fun y H3 hy => ?_⟩
      obtain ⟨rfl, k, w, hk, rfl⟩ := hy
      rw [hu] at hk
      cases hk
      exact ⟨I2, Same.refl I2, ok2, kD_rep _⟩
  · obtain ⟨_, hh2, rf2⟩ := ok2.s a _ (show S2 a = _ from pk)
    refine ⟨hh2, ?_⟩
    rw [rf2.lenK]
    rw [List.length_map] at hi
    omega⟩
end
end DL

/-! Dict comprehensions over data: one for, two fors. -/
namespace DL
open PySem PySem.Spec PyProof.Rows L2

/-! ### two fors, by the hand layer's parts -/
section
variable {X : Cx} {kx vx tg iter tg1 iter1 : Expr} {ifs ifs1 : List Expr} {scope : Scope} {pos : Pos}
/-- what the block does behind the first clause, from its slots, its heap -/
def tInD (wi1 : TI) (g1 : TG) (tt1 : TT) (tk tv : TE) (own1 : List Nat) (D : Addr) : L2.St → Hp → (Hp → Prop) → Prop := fun σ H Nx =>
  wi1 σ H fun J H4 => ∃ V1 : Nat → Nat → Hp → Prop, (∃ m, V1 0 m H4) ∧ ∀ j k H5, V1 j k H5 →
    (J.stop j H5 ∧ Nx H5) ∨ (J.go j H5 ∧ ∃ N1 : Hp → Prop, (∀ H6, N1 H6 → ∃ k', k' < k ∧ V1 (j + 1) k' H6) ∧ ∀ y H6, J.yld j H5 y H6 → g1 y (wipe σ own1) H6 fun σ3 H7 => wipe σ3 own1 = wipe σ own1 ∧ tt1 σ3 H7 fun b H8 =>
      if b = true then tk σ3 H8 fun ky H9 => tv σ3 H9 fun z H10 => ∃ kvs k, ky = kV k ∧ H10 D = some (.dK kvs) ∧ kvs.length < sizeLine ∧ N1 (upd H10 D (.dK (L2.putK kvs k z))) else N1 H8)
def tDc2 (wi : TI) (g : TG) (tt : TT) (wi1 : TI) (g1 : TG) (tt1 : TT) (tk tv : TE) (own own1 : List Nat) : TE := fun σ H Q => wi σ H fun J H1 => ∀ D, H1 D = none → ∃ V0 : Nat → Nat → Hp → Prop, (∃ m, V0 0 m (upd H1 D (.dK []))) ∧ ∀ i m H2, V0 i m H2 →
  (J.stop i H2 ∧ Q (.ref D) H2) ∨ (J.go i H2 ∧ ∃ N0 : Hp → Prop, (∀ H3, N0 H3 → ∃ m', m' < m ∧ V0 (i + 1) m' H3) ∧ ∀ x H3, J.yld i H2 x H3 → g x (wipe σ own) H3 fun σ2 H4 => wipe σ2 own = wipe σ own ∧ tt σ2 H4 fun b H5 =>
    if b = true then tInD wi1 g1 tt1 tk tv own1 D σ2 H5 N0 else N0 H5)
abbrev dc2E (kx vx tg iter tg1 iter1 : Expr) (ifs ifs1 : List Expr) (scope : Scope) (pos : Pos) : Expr := .DictComp kx vx [⟨tg, iter, ifs, 0⟩, ⟨tg1, iter1, ifs1, 0⟩] scope pos
/-- the tests of a clause -/
abbrev testsOf (cs : List Expr) (env : Env) : Sem Bool := forIn cs true fun c r => if r = true then do let ok ← isTrue c env (eval c env); pure (ForInStep.yield ok) else pure (ForInStep.yield r)
theorem turn_outD (it acc : Value) (env : Env) : compTurn (dc2E kx vx tg iter tg1 iter1 ifs ifs1 scope pos) 0 it acc env = (do
      standAt iter.pos
      match ← pyNext it with
      | none => pure (.done .next)
      | some u => (do
        letOwnedTupleGo tg it u
        assign tg env u
        let mut good := true
        for t in ifs do
          if good then good ← isTrue t env (eval t env)
        if good then
          let src ← eval iter1 env
          standAt iter1.pos
          let src ← foldedSetIterable iter1 env src
          let _ ← runOwn (.compStart (dc2E kx vx tg iter tg1 iter1 ifs ifs1 scope pos) 1 (← holding [src] (pyIter src)) acc env) env
        again (.compLoop (dc2E kx vx tg iter tg1 iter1 ifs ifs1 scope pos) 0 it acc env))) := by rfl
theorem turn_inD (it : Value) (D : Addr) (env : Env) : compTurn (dc2E kx vx tg iter tg1 iter1 ifs ifs1 scope pos) 1 it (.ref D) env = (do
      standAt iter1.pos
      match ← pyNext it with
      | none => pure (.done .next)
      | some u => (do
        letOwnedTupleGo tg1 it u
        assign tg1 env u
        let mut good := true
        for t in ifs1 do
          if good then good ← isTrue t env (eval t env)
        if good then
          (do
            let key ← eval kx env
            let val ← holding [key] (eval vx env)
            standAt { kx.pos with endLine := vx.pos.endLine, endCol := vx.pos.endCol }
            holding [key, val] (dictSet D key val))
        again (.compLoop (dc2E kx vx tg iter tg1 iter1 ifs ifs1 scope pos) 1 it (.ref D) env))) := by rfl
variable {prog : Program} {w : World} {A : Around} {R : Result → Shared → Prop} {s : Shared} {it acc : Value} {env : Env} {D : Addr}
abbrev nothing : Value → Shared → Prop := fun _ _ => False
theorem loop_outD (hs : ∀ x, foldedSetIterable iter1 env x = pure x) (Iv : Nat → Shared → Prop)
    (step : ∀ n s, Iv n s → wpAny (model prog w) A (pyNext it) (fun r s1 => match r with
      | none => R (.ok .next) s1
      | some u => wpAny (model prog w) A (letOwnedTupleGo tg it u) (fun _ s2 => wpAny (model prog w) A (assign tg env u) (fun _ s3 => wpAny (model prog w) A (testsOf ifs env) (fun good s4 =>
          if good = true then wpAny (model prog w) A (eval iter1 env) (fun x s5 => wpAny (model prog w) A (pyIter x) (fun it1 s6 => codeAny (model prog w) A (.compStart (dc2E kx vx tg iter tg1 iter1 ifs ifs1 scope pos) 1 it1 acc env)
            (fun r s7 => ∃ fl, r = .ok fl ∧ ∃ m, m < n ∧ Iv m s7) s6) nothing s5) nothing s4
          else ∃ m, m < n ∧ Iv m s4) nothing s3) nothing s2) nothing s1) nothing s)
    (n : Nat) (h : Iv n s) : codeAny (model prog w) A (.compLoop (dc2E kx vx tg iter tg1 iter1 ifs ifs1 scope pos) 0 it acc env) R s := by
  refine codeAny_loop rfl Iv (fun n s hI => ?_) n h
  refine wpAny_noted (show wpAny _ A (compTurn (dc2E kx vx tg iter tg1 iter1 ifs ifs1 scope pos) 0 it acc env) _ _ s from ?_)
  rw [turn_outD]
  refine wpAny_bind (wpAny_standAt (wpAny_bind (thnF (step n s hI) fun r s1 h1 => ?_)))
  match r, h1 with
  | none, h1 => exact wpAny_pure h1
  | some u, h1 =>
    refine wpAny_bind (thnF h1 fun _ s2 h2 => wpAny_bind (thnF h2 fun _ s3 h3 => wpAny_bind (thnF h3 fun good s4 h4 => ?_)))
    cases good with
    | false => exact wpAny_pure ⟨rfl, h4⟩
    | true =>
      refine wpAny_bind (thnF h4 fun x s5 h5 => wpAny_bind (wpAny_standAt (wpAny_bind (wpAny_of_eq (hs x) (wpAny_bind (wpAny_holding (thnF h5 fun it1 s6 h6 => ?_)))))))
      refine wpAny_bind (wpAny_runOwn ?_)
      rw [Around.mark_none]
      refine codeAny_mono h6 fun r s7 ⟨fl, er, h7⟩ => ?_
      subst er
      first
        | exact wpAny_pure ⟨rfl, h7⟩
        | exact wpAny_bind (wpAny_pure (wpAny_pure ⟨rfl, h7⟩))
theorem loop_inD (Iv : Nat → Shared → Prop)
    (step : ∀ n s, Iv n s → wpAny (model prog w) A (pyNext it) (fun r s1 => match r with
      | none => R (.ok .next) s1
      | some u => wpAny (model prog w) A (letOwnedTupleGo tg1 it u) (fun _ s2 => wpAny (model prog w) A (assign tg1 env u) (fun _ s3 => wpAny (model prog w) A (testsOf ifs1 env) (fun good s4 =>
          if good = true then wpAny (model prog w) A (eval kx env) (fun key s5 => wpAny (model prog w) A (eval vx env) (fun val s6 => wpAny (model prog w) A (dictSet D key val) (fun _ s7 => ∃ m, m < n ∧ Iv m s7) nothing s6) nothing s5) nothing s4
          else ∃ m, m < n ∧ Iv m s4) nothing s3) nothing s2) nothing s1) nothing s)
    (n : Nat) (h : Iv n s) : codeAny (model prog w) A (.compLoop (dc2E kx vx tg iter tg1 iter1 ifs ifs1 scope pos) 1 it (.ref D) env) R s := by
  refine codeAny_loop rfl Iv (fun n s hI => ?_) n h
  refine wpAny_noted (show wpAny _ A (compTurn (dc2E kx vx tg iter tg1 iter1 ifs ifs1 scope pos) 1 it (.ref D) env) _ _ s from ?_)
  rw [turn_inD]
  refine wpAny_bind (wpAny_standAt (wpAny_bind (thnF (step n s hI) fun r s1 h1 => ?_)))
  match r, h1 with
  | none, h1 => exact wpAny_pure h1
  | some u, h1 =>
    refine wpAny_bind (thnF h1 fun _ s2 h2 => wpAny_bind (thnF h2 fun _ s3 h3 => wpAny_bind (thnF h3 fun good s4 h4 => ?_)))
    cases good with
    | false => exact wpAny_pure ⟨rfl, h4⟩
    | true => exact wpAny_bind (wpAny_bind (thnF h4 fun key s5 h5 => wpAny_bind (wpAny_holding (thnF h5 fun val s6 h6 => wpAny_bind (wpAny_standAt (wpAny_holding (thnF h6 fun _ s7 h7 => wpAny_pure ⟨rfl, h7⟩)))))))
/-- where the second clause starts -/
theorem start_inD (h0 : codeAny (model prog w) A (.compLoop (dc2E kx vx tg iter tg1 iter1 ifs ifs1 scope pos) 1 it acc env) R s)
    (h : wpAny (model prog w) A (pyIter it) (fun it' s' => codeAny (model prog w) A (.compLoop (dc2E kx vx tg iter tg1 iter1 ifs ifs1 scope pos) 1 it' acc env) R s') nothing s) :
    codeAny (model prog w) A (.compStart (dc2E kx vx tg iter tg1 iter1 ifs ifs1 scope pos) 1 it acc env) R s := by
  refine codeAny_of_tree (wpAny_notedAt (show wpAny _ A (compStart (dc2E kx vx tg iter tg1 iter1 ifs ifs1 scope pos) 1 it acc env) _ _ s from ?_))
  unfold compStart
  refine (show wpAny _ A (ask >>= _) _ _ s from wpAny_bind (wpAny_askSetting (wpAny_ite ?_)))
  split
  · first
      | exact wpAny_pure (And.intro rfl h0)
      | exact wpAny_bind (wpAny_pure (wpAny_pure (And.intro rfl h0)))
  · refine wpAny_bind (wpAny_rule ?_)
    first
      | exact wpAny_bind (wpAny_standAt (wpAny_bind (thnF h fun it' s' h' => wpAny_pure (And.intro rfl h'))))
      | (show wpAny _ _ (standAt iter1.pos >>= _) _ _ s; exact wpAny_bind (wpAny_standAt (wpAny_bind (thnF h fun it' s' h' => wpAny_pure (And.intro rfl h')))))
end
section
variable {X : Cx} {kx vx tg iter tg1 iter1 : Expr} {ifs ifs1 : List Expr} {scope : Scope} {pos : Pos}
/-- an iterator's own things, as the block sees them: they may change -/
theorem blk_fp {s0 : Shared} {H0 : Hp} {ce : Env} {fp : List Addr} {σ' : L2.St} {H' : Hp} {s' : Shared} (J : Inv (X.blk s0 H0 scope ce fp) [] σ' H' s') (z : ∀ b ∈ fp, H' b = none) : ∀ b ∈ fp, FpOk (X.blk s0 H0 scope ce fp) [] H' b := by
  intro b hb
  have e1 := J.ok.exf b hb
  exact ⟨z b hb, e1.1, J.ok.exfs b hb, .inl hb, fun x c e => e1.2 x c e, fun p hp => by
    have hp' : p ∈ ([] : List (Addr × Obj)) ++ [] := hp
    simp at hp'⟩
/-- the second clause, run: from the slots σ the heap comes to Nx -/
theorem run_inD {s0 : Shared} {H0 : Hp} {ce : Env} {fp : List Addr} {pins : List (Addr × Obj)} {σ : L2.St} {H : Hp} {s : Shared} {wi1 : TI} {g1 : TG} {tt1 : TT} {tk tv : TE} {own1 : List Nat} {D : Addr} {Nx : Hp → Prop} (hc : X.calm = true)
    (pi1 : PI (X.blk s0 H0 scope ce fp) tg1 iter1 wi1) (pg1 : PG (X.blk s0 H0 scope ce fp) tg1 g1) (pt1 : PTs (X.blk s0 H0 scope ce fp) ifs1 tt1) (pk : PE (X.blk s0 H0 scope ce fp) kx tk) (pv : PE (X.blk s0 H0 scope ce fp) vx tv)
    (I : Inv (X.blk s0 H0 scope ce fp) pins σ H s) (h : tInD wi1 g1 tt1 tk tv own1 D σ H Nx) :
    wpAny (model X.prog X.w) X.A (eval iter1 ce) (fun x s1 => wpAny (model X.prog X.w) X.A (pyIter x) (fun it s2 => codeAny (model X.prog X.w) X.A (.compStart (dc2E kx vx tg iter tg1 iter1 ifs ifs1 scope pos) 1 it (.ref D) ce)
      (fun r s3 => ∃ fl, r = .ok fl ∧ ∃ H', Inv (X.blk s0 H0 scope ce fp) pins (wipe σ own1) H' s3 ∧ Nx H') s2) nothing s1) nothing s := by
  refine thnF (pi1.run pins s σ H _ I h) fun xv s1 hx => thnF hx fun itv s2 h2 => ?_
  obtain ⟨it, fq, tn, J, H2, e, I2, T, st, fo, V1, ⟨m0, v0⟩, turn⟩ := h2
  subst e
  have own : ∀ {H' : Hp}, (∀ b ∈ fq, H' b = none) → ∀ b ∈ fq, FpOk (X.blk s0 H0 scope ce fp) pins H' b := fun n b hb => ⟨n b hb, (fo b hb).2⟩
  have go : codeAny (model X.prog X.w) X.A (.compLoop (dc2E kx vx tg iter tg1 iter1 ifs ifs1 scope pos) 1 (.ref it) (.ref D) ce) (fun r s3 => ∃ fl, r = .ok fl ∧ ∃ H', Inv (X.blk s0 H0 scope ce fp) pins (wipe σ own1) H' s3 ∧ Nx H') s2 := by
    refine loop_inD (fun k s' => ∃ j H', Inv (X.blk s0 H0 scope ce fp) pins (wipe σ own1) H' s' ∧ tn j s'.heap ∧ (∀ b ∈ fq, H' b = none) ∧ V1 j k H') ?_ m0 ⟨0, H2, I2.weak (wipe_length _ _) (fun j v e => (wipe_some e).1), st, fun b hb => (fo b hb).1, v0⟩
    intro k s5 hs5
    obtain ⟨j, H5, I5, st5, n5, v5⟩ := hs5
    rcases turn j k H5 v5 with ⟨stop, nx⟩ | ⟨goes, N1, hN1, stp⟩
    · refine thnF (T.done (X.blk s0 H0 scope ce fp) rfl rfl rfl hc j _ s5 (wipe σ own1) H5 nothing I5 (own n5) st5 stop) fun r s6 hr => ?_
      obtain ⟨er, I6⟩ := hr
      subst er
      exact ⟨_, rfl, H5, I6, nx⟩
    · refine thnF (T.item (X.blk s0 H0 scope ce fp) rfl rfl rfl hc j _ s5 (wipe σ own1) H5 nothing I5 (own n5) st5 goes) fun r s6 hr => ?_
      obtain ⟨u, er, h6⟩ := hr
      subst er
      refine thnF h6 fun _ s7 h7 => ?_
      obtain ⟨x, H7, I7, r7, y7, st7, n7⟩ := h7
      have P7 := I7.pinned (own n7) (T.obj _ _ st7)
      refine thnF (pg1.run _ s7 (wipe σ own1) H7 x u _ P7 r7 (stp x H7 y7)) fun _ s8 h8 => ?_
      obtain ⟨σ8, H8, I8, w8, q8⟩ := h8
      refine thnF (pt1.run _ s8 σ8 H8 _ I8 q8) fun b s9 h9 => ?_
      obtain ⟨H9, I9, q9⟩ := h9
      have back : ∀ {s' : Shared} {H' : Hp}, Inv (X.blk s0 H0 scope ce fp) (pins ++ pinsAt fq s7.heap) σ8 H' s' → N1 H' → ∃ m, m < k ∧ ∃ j H', Inv (X.blk s0 H0 scope ce fp) pins (wipe σ own1) H' s' ∧ tn j s'.heap ∧ (∀ b ∈ fq, H' b = none) ∧ V1 j m H' := by
        intro s' H' J' nx
        obtain ⟨m', hm, v'⟩ := hN1 H' nx
        have kept : ∀ b ∈ fq, ∀ o, s7.heap.get? b = some o → s'.heap.get? b = some o ∧ H' b = none := fun b hb o e => by
          have z := J'.pin (b, o) (List.mem_append_right _ (List.mem_append_right _ (mem_pinsAt hb e)))
          exact ⟨z.1, z.2.1⟩
        refine ⟨m', hm, j + 1, H', J'.unpinned.weak (by rw [← w8, wipe_length]) (fun i v e => by rw [← w8] at e; exact (wipe_some e).1), T.keep _ _ _ st7 fun b hb o e => (kept b hb o e).1, fun b hb => ?_, v'⟩
        obtain ⟨o, e, _⟩ := T.obj _ _ st7 b hb
        exact (kept b hb o e).2
      cases b with
      | false => exact back I9 q9
      | true =>
        refine thnF (pk.run _ s9 σ8 H9 _ I9 q9) fun key s10 h10 => ?_
        obtain ⟨yk, H10, I10, r10, q10⟩ := h10
        refine thnF (pv.run _ s10 σ8 H10 _ I10 q10) fun val s11 h11 => ?_
        obtain ⟨yv, H11, I11, r11, kvs, kk, ek, hD, hz, nx⟩ := h11
        subst ek
        exact d_dictSet (X := X.blk s0 H0 scope ce fp) I11 hD hz r10 r11 fun s12 I12 => back I12 nx
  exact start_inD go (T.self X.A 0 _ _ _ st go)
theorem wipe_off {σ : L2.St} {i : Nat} {vs : List Nat} (h : i ∉ vs) : (wipe σ vs)[i]? = σ[i]? := by rw [wipe_get, if_neg h]
theorem dc2_core {pins : List (Addr × Obj)} {s : Shared} {σ : L2.St} {H : Hp} {Q : VK} {own : List (Str × Nat)} {own1 : List Nat} {pos' : Pos} {wi wi1 : TI} {g g1 : TG} {tt tt1 : TT} {tk tv : TE} {use : Option (Value → Sem Unit)} {Qf : Value → Shared → Prop}
    (hc : X.calm = true) (hN : X.N.Nodup) (I : Inv X pins σ H s) (hi : PI X tg iter wi) (ok : BlkOk X.N X.env.scope scope own) (hv : ∀ i ∈ own1, i ∈ own.map (·.2))
    (blk : ∀ (s : Shared) (H : Hp) (C : Addr) (cl : List (Str × Addr)) (fp : List Addr), PG (X.blk s H scope (compEnvC scope cl C X.env) fp) tg g ∧ PTs (X.blk s H scope (compEnvC scope cl C X.env) fp) ifs tt ∧ PI (X.blk s H scope (compEnvC scope cl C X.env) fp) tg1 iter1 wi1 ∧
      PG (X.blk s H scope (compEnvC scope cl C X.env) fp) tg1 g1 ∧ PTs (X.blk s H scope (compEnvC scope cl C X.env) fp) ifs1 tt1 ∧ PE (X.blk s H scope (compEnvC scope cl C X.env) fp) kx tk ∧ PE (X.blk s H scope (compEnvC scope cl C X.env) fp) vx tv)
    (hs : ∀ x, foldedSetIterable iter X.env x = pure x) (hs1 : ∀ env x, foldedSetIterable iter1 env x = pure x) (h : tDc2 wi g tt wi1 g1 tt1 tk tv (own.map (·.2)) own1 σ H Q)
    (fin : ∀ D C s' m H', Inv X pins σ H' s' → Q (.ref D) H' → s'.heap.Ns C m → FpOk X pins H' C → compPost (model X.prog X.w) X.A X.xe use Qf (.ref D) C (.ok .next) s') :
    wpAny (model X.prog X.w) X.A (comprehension (dc2E kx vx tg iter tg1 iter1 ifs ifs1 scope pos) scope X.env pos' newDict false (eval iter X.env) use) Qf X.xe s := by
  have fr : ∀ y ∈ scope.names, y.2 = .free → ∃ c, X.env.cells.lookup y.1 = some c := by
    intro y hy e
    exact (ok.free y hy e).elim (fun k => I.ok.has _ (.inl k)) fun k => I.ok.has _ (.inr k)
  refine wpAny_comprehension_free (use := use) rfl hs (closure_ok fr) ok.kind (fun y hy e => (ok.uniq y hy).trans (congrArg some e)) (thn (hi.run pins s σ H _ I h) fun xv s1 hx => thn hx fun itv s2 h2 => ?_)
  obtain ⟨it, fp, tn, J, H2, e, I2, T, st2, f2, q⟩ := h2
  subst e
  refine wpAny_newObj_type (newEnv_comp ?_)
  generalize hD : s2.heap.objs.size = D
  have hDn : H2 D = none := I2.hok.fresh (Nat.le_of_eq hD)
  obtain ⟨V0, ⟨m0, v0⟩, turn⟩ := q D hDn
  generalize hs3 : ({ s2 with heap := s2.heap.push { cls := .type "dict", data := .dict #[] } } : Shared) = s3
  have hp3 : s3.heap = s2.heap.push { cls := .type "dict", data := .dict #[] } := by rw [← hs3]
  have I3 : Inv X pins σ (upd H2 D (.dK [])) s3 := by
    have z := I2.laid (a := D) (o := .dK []) (t' := s2.toks) (h' := s2.heap.push { cls := .type "dict", data := .dict #[] }) (fun b o e => Heap.get?_push_of_some _ e) (Nat.le_of_eq hD) (by
      rw [← hD]
      exact dk_empty s2.heap I2.big)
    rw [← hs3]
    exact z
  have below : ∀ b ∈ fp, b < s2.heap.objs.size := fun b hb => let ⟨o, e, _⟩ := T.obj _ _ st2 b hb; Heap.lt_size e
  have f3 : ∀ b ∈ fp, FpOk X pins (upd H2 D (.dK [])) b ∧ b < s3.heap.objs.size := by
    intro b hb
    have lt := below b hb
    have ne : b ≠ D := fun z => Nat.ne_of_lt lt (z.trans hD.symm)
    exact ⟨⟨(upd_ne ne).trans (f2 b hb).1, (f2 b hb).2⟩, by rw [hp3, Heap.size_push]; exact Nat.lt_succ_of_lt lt⟩
  have I4 := block_start I3 ok hN f3
  have parts := blk s3 (upd H2 D (.dK [])) s3.heap.objs.size (cellsFrom (s3.heap.objs.size + 1) scope.names (cloFrom X.env.cells scope.names [])) fp
  have nfp : ∀ b ∈ fp, (upd H2 D (.dK [])) b = none := fun b hb => (f3 b hb).1.1
  have cL : (compEnvC scope (cellsFrom (s3.heap.objs.size + 1) scope.names (cloFrom X.env.cells scope.names [])) s3.heap.objs.size X.env).locals = s3.heap.objs.size := rfl
  show codeAny _ _ (.compStart (dc2E kx vx tg iter tg1 iter1 ifs ifs1 scope pos) 0 (.ref it) (.ref D) (compEnvC scope (cellsFrom (s3.heap.objs.size + 1) scope.names (cloFrom X.env.cells scope.names [])) s3.heap.objs.size X.env)) (compPost (model X.prog X.w) X.A X.xe use Qf (.ref D) s3.heap.objs.size) { s3 with heap := pushCells (s3.heap.push { cls := .type "dict", data := .dict #[] }) scope.names }
  generalize compEnvC scope (cellsFrom (s3.heap.objs.size + 1) scope.names (cloFrom X.env.cells scope.names [])) s3.heap.objs.size X.env = ce at I4 parts cL ⊢
  generalize upd H2 D (.dK []) = H3 at I3 I4 parts v0 nfp f3
  obtain ⟨pg, pt, pi1, pg1, pt1, pk, pv⟩ := parts
  have st4 : tn 0 (pushCells (s3.heap.push { cls := .type "dict", data := .dict #[] }) scope.names) := T.keep _ _ _ st2 fun b _ o e => pushCells_keeps _ _ _ _ (Heap.get?_push_of_some _ (by rw [hp3]; exact Heap.get?_push_of_some _ e))
  have loop : codeAny (model X.prog X.w) X.A (.compLoop (dc2E kx vx tg iter tg1 iter1 ifs ifs1 scope pos) 0 (.ref it) (.ref D) ce) (compPost (model X.prog X.w) X.A X.xe use Qf (.ref D) s3.heap.objs.size) { s3 with heap := pushCells (s3.heap.push { cls := .type "dict", data := .dict #[] }) scope.names } := by
    refine loop_outD (hs1 ce) (fun n s' => ∃ i H', Inv (X.blk s3 H3 scope ce fp) [] (wipe σ (own.map (·.2))) H' s' ∧ tn i s'.heap ∧ (∀ b ∈ fp, H' b = none) ∧ V0 i n H') ?_ m0 ⟨0, H3, I4, st4, nfp, v0⟩
    intro n s5 hs5
    obtain ⟨i, H5, I5, st5, n5, v5⟩ := hs5
    rcases turn i n H5 v5 with ⟨stop, qq⟩ | ⟨goes, N0, hN0, stp⟩
    · refine thnF (T.done (X.blk s3 H3 scope ce fp) rfl rfl rfl hc i [] s5 _ H5 nothing I5 (blk_fp I5 n5) st5 stop) fun r s6 hr => ?_
      obtain ⟨er, I6⟩ := hr
      subst er
      have I7 : Inv X pins σ H5 s6 := I3.call' (ch := fp) I6.os I6.base I6.hok I6.bare fun b hb => by
        have z := (f3 b hb).1
        exact ⟨z.2.2.2.1, z.2.1, z.2.2.2.2.1, z.2.2.2.2.2⟩
      have nC : H5 s3.heap.objs.size = none := cL ▸ (show H5 ce.locals = none from I6.free)
      obtain ⟨m, hn, _⟩ := I6.loc
      exact fin D s3.heap.objs.size s6 m H5 I7 qq (cL ▸ (show s6.heap.Ns ce.locals m from hn)) (I3.fpOk (Nat.le_refl _) nC)
    · refine thnF (T.item (X.blk s3 H3 scope ce fp) rfl rfl rfl hc i [] s5 _ H5 nothing I5 (blk_fp I5 n5) st5 goes) fun r s6 hr => ?_
      obtain ⟨u, er, h6⟩ := hr
      subst er
      refine thnF h6 fun _ s7 h7 => ?_
      obtain ⟨x, H7, I7, r7, y7, st7, n7⟩ := h7
      refine thnF (pg.run _ s7 _ H7 x u _ (I7.pinned (blk_fp I7 n7) (T.obj _ _ st7)) r7 (stp x H7 y7)) fun _ s8 h8 => ?_
      obtain ⟨σ8, H8, I8, w8, q8⟩ := h8
      refine thnF (pt.run _ s8 σ8 H8 _ I8 q8) fun b s9 h9 => ?_
      obtain ⟨H9, I9, q9⟩ := h9
      have l8 : (wipe σ (own.map (·.2))).length = σ8.length := by rw [← w8, wipe_length]
      have back : ∀ {σ9 : L2.St} {s' : Shared} {H' : Hp}, Inv (X.blk s3 H3 scope ce fp) ([] ++ pinsAt fp s7.heap) σ9 H' s' → (wipe σ (own.map (·.2))).length = σ9.length → (∀ (j : Nat) v, (wipe σ (own.map (·.2)))[j]? = some (some v) → σ9[j]? = some (some v)) → N0 H' →
          ∃ m, m < n ∧ ∃ i H', Inv (X.blk s3 H3 scope ce fp) [] (wipe σ (own.map (·.2))) H' s' ∧ tn i s'.heap ∧ (∀ b ∈ fp, H' b = none) ∧ V0 i m H' := by
        intro σ9 s' H' J' hl hk nx
        obtain ⟨m', hm, v'⟩ := hN0 H' nx
        have kept : ∀ b ∈ fp, ∀ o, s7.heap.get? b = some o → s'.heap.get? b = some o ∧ H' b = none := fun b hb o e => by
          have z := J'.pin (b, o) (List.mem_append_right _ (List.mem_append_right _ (mem_pinsAt hb e)))
          exact ⟨z.1, z.2.1⟩
        refine ⟨m', hm, i + 1, H', (J'.unpinned (pins := [])).weak hl hk, T.keep _ _ _ st7 fun b hb o e => (kept b hb o e).1, fun b hb => ?_, v'⟩
        obtain ⟨o, e, _⟩ := T.obj _ _ st7 b hb
        exact (kept b hb o e).2
      cases b with
      | false => exact back I9 l8 (fun j v e => by rw [← w8] at e; exact (wipe_some e).1) q9
      | true =>
        refine thnF (run_inD hc pi1 pg1 pt1 pk pv I9 q9) fun x1 s10 h10 => thnF h10 fun it1 s11 h11 => codeAny_mono h11 fun r s12 hr => ?_
        obtain ⟨fl, er, H12, I12, nx⟩ := hr
        refine ⟨fl, er, back I12 (l8.trans (wipe_length σ8 own1).symm) (fun j v e => ?_) nx⟩
        rw [← w8] at e
        obtain ⟨e1, e2⟩ := wipe_some e
        rw [wipe_off fun z => e2 (hv j z)]
        exact e1
  exact codeAny_compStart_dict loop (T.self X.A 0 _ _ _ st4 loop)
/-- what a comprehension made, stored under a local name -/
theorem post_store {pins : List (Addr × Obj)} {σ : L2.St} {H' : Hp} {s' : Shared} {DD : Ends} {D C : Addr} {m : Str → Option Value} {i : Nat} {y : Str} {py : Pos} (I' : Inv X pins σ H' s') (hN : X.N.Nodup) (hy : X.N[i]? = some y) (hyl : X.env.scope.names.lookup y = some .local)
    (q : DD.nx (σ.set i (some (.ref D))) H') (hn : s'.heap.Ns C m) (f : FpOk X pins H' C) : compPost (model X.prog X.w) X.A X.xe (some (assign (.Name y py) X.env)) (fun _ s'' => SP X pins DD .next s'') (.ref D) C (.ok .next) s' := by
  show wpAny _ _ (assign (.Name y py) X.env (.ref D)) _ _ _
  refine wpAny_assign_Name (store_ok2 (v := V.ref D) I' hN hy (.inl hyl) rfl (fun s2 I2 hs => ?_) (.inr hyl))
  obtain ⟨a, sb, ha⟩ := hs
  obtain ⟨g0, g1, g2, g3, g4, g5⟩ := f
  have ne : C ≠ a := ha.elim (fun z => z ▸ g1) fun z e => g4 y a z e.symm
  exact ⟨m, hn.sameBut sb ne, fun h3 sb3 => ⟨_, H', I2.turned (t' := s2.toks) (fun b o hb e => (sb3.2 b hb).trans e) g0 g1 g3 g4 g5, q⟩⟩
end
end DL

/-! Dict comprehensions as readings; len, list, sorted, dict, update of dicts. -/
namespace DL
open PySem PySem.Spec PyProof.Rows L2

/-! ### {k: v for t in xs if ..} -/
/-- over the data ds: W by the turn and the pairs so far -/
def DcN (t : Tgt) (tt : DT) (dk dv : DE) (P : D → Store → Prop) (ds : List D) (pin : Option (Store → Prop)) (ρ : DSt) (S1 : Store) : Prop :=
  ∃ W : Nat → List (Key × D) → Store → Prop, W 0 [] S1 ∧ (∀ i acc S, W i acc S → PinOk pin S) ∧
  (∀ i d acc S, ds[i]? = some d → W i acc S → ∃ ρ', t.put d (dwipe ρ t.slots) = some ρ' ∧ tt ρ' S fun b S2 => if b = true then dk ρ' S2 fun y S3 => dv ρ' S3 fun z S4 => ∃ k, keyOf y = some k ∧ acc.length < 100000 ∧ W (i + 1) (dPut acc k z) S4 else W (i + 1) acc S2) ∧
  ∀ acc S, W ds.length acc S → ∀ p, S p = none → P (.obj p) (supd S p (.dK acc))
def dDc (di : DI) (t : Tgt) (tt : DT) (dk dv : DE) : DE := fun ρ S P => di ρ S fun ds pin S1 => DcN t tt dk dv P ds pin ρ S1
def Dc2N (t : Tgt) (tt : DT) (di1 : DI) (t1 : Tgt) (tt1 : DT) (dk dv : DE) (P : D → Store → Prop) (ds : List D) (pin : Option (Store → Prop)) (ρ : DSt) (S1 : Store) : Prop :=
  ∃ W : Nat → List (Key × D) → Store → Prop, W 0 [] S1 ∧ (∀ i acc S, W i acc S → PinOk pin S) ∧
  (∀ i d acc S, ds[i]? = some d → W i acc S → ∃ ρ', t.put d (dwipe ρ (t.slots ++ t1.slots)) = some ρ' ∧ tt ρ' S fun b S2 => if b = true then di1 ρ' S2 fun ds1 pin1 S3 =>
    ∃ W1 : Nat → List (Key × D) → Store → Prop, W1 0 acc S3 ∧ (∀ j acc S, W1 j acc S → PinOk pin1 S) ∧
      (∀ j d1 acc1 S4, ds1[j]? = some d1 → W1 j acc1 S4 → ∃ ρ'', t1.put d1 (dwipe ρ' t1.slots) = some ρ'' ∧ tt1 ρ'' S4 fun b S5 => if b = true then dk ρ'' S5 fun y S6 => dv ρ'' S6 fun z S7 => ∃ k, keyOf y = some k ∧ acc1.length < 100000 ∧ W1 (j + 1) (dPut acc1 k z) S7 else W1 (j + 1) acc1 S5) ∧
      ∀ acc1 S4, W1 ds1.length acc1 S4 → W (i + 1) acc1 S4
    else W (i + 1) acc S2) ∧
  ∀ acc S, W ds.length acc S → ∀ p, S p = none → P (.obj p) (supd S p (.dK acc))
def dDc2 (di : DI) (t : Tgt) (tt : DT) (di1 : DI) (t1 : Tgt) (tt1 : DT) (dk dv : DE) : DE := fun ρ S P => di ρ S fun ds pin S1 => Dc2N t tt di1 t1 tt1 dk dv P ds pin ρ S1
theorem size_lt {n : Nat} (h : n < 100000) : n < sizeLine := Nat.lt_of_lt_of_le h (by decide)
theorem nohid_dK {vs : List (Key × V)} : NoHid (.dK vs) := ⟨fun y z => (by cases z), fun y z => (by cases z)⟩
section
variable {K : PySem.W.Frag} {I F H : Hp} {S : Store}
theorem Ok.hidePut (ok : Ok K I S (upd F p (.dK vs)) H) {vs' : List (Key × V)} : Ok K I S (upd F p (.dK vs')) (upd H p (.dK vs')) := by
  have z := ok.writeF (p := p) (o := .dK vs) (o' := .dK vs') upd_same nohid_dK
  rwa [upd_upd] at z
theorem Ok.hideShow (ok : Ok K I S (upd F p (.dK vs)) H) (n : F p = none) {kvs : List (Key × D)} (r : RepF K I kvs vs) : S p = none ∧ Ok K I (supd S p (.dK kvs)) F H := by
  refine ⟨(ok.f p _ upd_same).2.2.1, (ok.showD upd_same r).less fun a x ea => ?_⟩
  have ne : a ≠ p := fun z => by rw [z, n] at ea; cases ea
  show (if a = p then none else upd F p (.dK vs) a) = some x
  rw [if_neg ne, upd_ne ne]; exact ea
end
theorem up_dc {X : Cx} {di : DI} {t : Tgt} {tt : DT} {dk dv : DE} : ∀ σ H Q, upE X.K (dDc di t tt dk dv) σ H Q → tDc (upI X.K di) (upG X.K t) (upT X.K tt) (upE X.K dk) (upE X.K dv) t.slots σ H Q := fun σ H Q h0_ => El54 h0_ fun ρ I S F P rs ok h q => by
  refine ⟨ρ, I, S, F, _, rs, ok, h, fun ds pin S1 I1 H1 J hB e1 ok1 it => fun p hp => ?_⟩
  obtain ⟨W, w0, hpin, turn, fin⟩ := hB
  have fn := ok1.freshF hp
  refine ⟨fun i m H => m + i = ds.length ∧ ∃ I' S' acc vs, Same I1 I' ∧ Ok X.K I' S' (upd F p (.dK vs)) H ∧ RepF X.K I' acc vs ∧ W i acc S', ⟨ds.length, by simp, I1, S1, [], [], Same.refl I1, ok1.newF hp nohid_dK, RepF.nilK, w0⟩, ?_⟩
  rintro i m H2 ⟨em, I2, S2, acc, vs, e2, ok2, rl, w2⟩
  by_cases hi : i < ds.length
  · refine .inr ?_
    obtain ⟨g1, g2⟩ := it.go I2 S2 _ H2 e2 ok2 (hpin _ _ _ w2) i ds[i] (List.getElem?_eq_getElem hi)
    obtain ⟨ρ3, hput, hbody⟩ := turn i ds[i] acc S2 (List.getElem?_eq_getElem hi) w2
    refine ⟨g1, fun H' => ∃ I' S' acc vs, Same I1 I' ∧ Ok X.K I' S' (upd F p (.dK vs)) H' ∧ RepF X.K I' acc vs ∧ W (i + 1) acc S', fun H' h => ⟨m - 1, by omega, by omega, h⟩, fun x H3 hy => ?_⟩
    obtain ⟨I3, e3, ok3, r3⟩ := g2 x H3 hy
    refine ⟨dwipe ρ t.slots, ρ3, I3, S2, _, ds[i], ((rs.mono e1).mono (e2.trans e3)).wipe _, ok3, r3, hput, fun σ3 rs3 b3 => ⟨b3.wipe_sub fun i hi => hi, ?_⟩⟩
    refine ⟨ρ3, I3, S2, _, _, rs3, ok3, hbody, fun b S4 I4 H4 h4 e4 ok4 => ?_⟩
    cases b with
    | true =>
      rw [if_pos rfl] at h4 ⊢
      refine ⟨ρ3, I4, S4, _, _, rs3.mono e4, ok4, h4, fun y S5 u I5 H5 h5 e5 ok5 r5 => ⟨ρ3, I5, S5, _, _, rs3.mono (e4.trans e5), ok5, h5, fun z S6 v I6 H6 h6 e6 ok6 r6 => ?_⟩⟩
      obtain ⟨k, hk, hl, w6⟩ := h6
      have r5' := r5.mono e6
      rw [keyOf_eq hk] at r5
      have rl' := rl.mono (((e3.trans e4).trans e5).trans e6)
      refine ⟨vs, k, kD_of r5, (ok6.f p _ upd_same).1, size_lt (by rw [rl.lenK]; exact hl), I6, S6, dPut acc k z, L2.putK vs k v, (((e2.trans e3).trans e4).trans e5).trans e6, ok6.hidePut, rl'.putK r6, w6⟩
    | false =>
      rw [if_neg Bool.false_ne_true] at h4 ⊢
      exact ⟨I4, S4, acc, vs, ((e2.trans e3).trans e4), ok4, rl.mono (e3.trans e4), h4⟩
  · have e : i = ds.length := by omega
    subst e
    obtain ⟨sn, ok3⟩ := ok2.hideShow fn rl
    exact .inl ⟨it.stop I2 S2 _ H2 e2 ok2 (hpin _ _ _ w2) _ rfl, q _ _ _ _ _ (fin acc S2 w2 p sn) (e1.trans e2) ok3 (by simp only [Rep])⟩
theorem up_dc2 {X : Cx} {di di1 : DI} {t t1 : Tgt} {tt tt1 : DT} {dk dv : DE} : ∀ σ H Q, upE X.K (dDc2 di t tt di1 t1 tt1 dk dv) σ H Q → tDc2 (upI X.K di) (upG X.K t) (upT X.K tt) (upI X.K di1) (upG X.K t1) (upT X.K tt1) (upE X.K dk) (upE X.K dv) (t.slots ++ t1.slots) t1.slots σ H Q := fun σ H Q h0_ => El54 h0_ fun ρ I S F P rs ok h q => by
  refine ⟨ρ, I, S, F, _, rs, ok, h, fun ds pin S1 I1 H1 J hB e1 ok1 it => fun p hp => ?_⟩
  obtain ⟨W, w0, hpin, turn, fin⟩ := hB
  have fn := ok1.freshF hp
  refine ⟨fun i m H => m + i = ds.length ∧ ∃ I' S' acc vs, Same I1 I' ∧ Ok X.K I' S' (upd F p (.dK vs)) H ∧ RepF X.K I' acc vs ∧ W i acc S', ⟨ds.length, by simp, I1, S1, [], [], Same.refl I1, ok1.newF hp nohid_dK, RepF.nilK, w0⟩, ?_⟩
  rintro i m H2 ⟨em, I2, S2, acc, vs, e2, ok2, rl, w2⟩
  by_cases hi : i < ds.length
  · refine .inr ?_
    obtain ⟨g1, g2⟩ := it.go I2 S2 _ H2 e2 ok2 (hpin _ _ _ w2) i ds[i] (List.getElem?_eq_getElem hi)
    obtain ⟨ρ3, hput, hbody⟩ := turn i ds[i] acc S2 (List.getElem?_eq_getElem hi) w2
    refine ⟨g1, fun H' => ∃ I' S' acc vs, Same I1 I' ∧ Ok X.K I' S' (upd F p (.dK vs)) H' ∧ RepF X.K I' acc vs ∧ W (i + 1) acc S', fun H' h => ⟨m - 1, by omega, by omega, h⟩, fun x H3 hy => ?_⟩
    obtain ⟨I3, e3, ok3, r3⟩ := g2 x H3 hy
    refine ⟨dwipe ρ (t.slots ++ t1.slots), ρ3, I3, S2, _, ds[i], ((rs.mono e1).mono (e2.trans e3)).wipe _, ok3, r3, hput, fun σ3 rs3 b3 => ⟨b3.wipe_sub fun i hi => List.mem_append_left _ hi, ?_⟩⟩
    refine ⟨ρ3, I3, S2, _, _, rs3, ok3, hbody, fun b S4 I4 H4 h4 e4 ok4 => ?_⟩
    cases b with
    | true =>
      rw [if_pos rfl] at h4 ⊢
      refine ⟨ρ3, I4, S4, _, _, rs3.mono e4, ok4, h4, fun ds1 pin1 S5 I5 H5 J1 h5 e5 ok5 it1 => ?_⟩
      obtain ⟨W1, v0, vpin, vturn, vfin⟩ := h5
      refine ⟨fun j k H => k + j = ds1.length ∧ ∃ I' S' acc vs, Same I5 I' ∧ Ok X.K I' S' (upd F p (.dK vs)) H ∧ RepF X.K I' acc vs ∧ W1 j acc S', ⟨ds1.length, by simp, I5, S5, acc, vs, Same.refl I5, ok5, rl.mono ((e3.trans e4).trans e5), v0⟩, ?_⟩
      rintro j k H6 ⟨ek, I6, S6, acc6, vs6, e6, ok6, rl6, w6⟩
      by_cases hj : j < ds1.length
      · refine .inr ?_
        obtain ⟨g3, g4⟩ := it1.go I6 S6 _ H6 e6 ok6 (vpin _ _ _ w6) j ds1[j] (List.getElem?_eq_getElem hj)
        obtain ⟨ρ7, hput7, hbody7⟩ := vturn j ds1[j] acc6 S6 (List.getElem?_eq_getElem hj) w6
        refine ⟨g3, fun H' => ∃ I' S' acc vs, Same I5 I' ∧ Ok X.K I' S' (upd F p (.dK vs)) H' ∧ RepF X.K I' acc vs ∧ W1 (j + 1) acc S', fun H' h => ⟨k - 1, by omega, by omega, h⟩, fun x H7 hy7 => ?_⟩
        obtain ⟨I7, e7, ok7, r7⟩ := g4 x H7 hy7
        refine ⟨dwipe ρ3 t1.slots, ρ7, I7, S6, _, ds1[j], (rs3.mono (((e4.trans e5).trans e6).trans e7)).wipe _, ok7, r7, hput7, fun σ7 rs7 b7 => ⟨b7.wipe_sub fun i hi => hi, ?_⟩⟩
        refine ⟨ρ7, I7, S6, _, _, rs7, ok7, hbody7, fun b S8 I8 H8 h8 e8 ok8 => ?_⟩
        cases b with
        | true =>
          rw [if_pos rfl] at h8 ⊢
          refine ⟨ρ7, I8, S8, _, _, rs7.mono e8, ok8, h8, fun y S9 u I9 H9 h9 e9 ok9 r9 => ⟨ρ7, I9, S9, _, _, rs7.mono (e8.trans e9), ok9, h9, fun z S10 v I10 H10 h10 e10 ok10 r10 => ?_⟩⟩
          obtain ⟨kk, hk, hl, w10⟩ := h10
          rw [keyOf_eq hk] at r9
          have rl' := rl6.mono (((e7.trans e8).trans e9).trans e10)
          exact ⟨vs6, kk, kD_of r9, (ok10.f p _ upd_same).1, size_lt (by rw [rl6.lenK]; exact hl), I10, S10, dPut acc6 kk z, L2.putK vs6 kk v, (((e6.trans e7).trans e8).trans e9).trans e10, ok10.hidePut, rl'.putK r10, w10⟩
        | false =>
          rw [if_neg Bool.false_ne_true] at h8 ⊢
          exact ⟨I8, S8, acc6, vs6, ((e6.trans e7).trans e8), ok8, rl6.mono (e7.trans e8), h8⟩
      · have e : j = ds1.length := by omega
        subst e
        exact .inl ⟨it1.stop I6 S6 _ H6 e6 ok6 (vpin _ _ _ w6) _ rfl, I6, S6, acc6, vs6, (((e2.trans e3).trans e4).trans e5).trans e6, ok6, rl6, vfin acc6 S6 w6⟩
    | false =>
      rw [if_neg Bool.false_ne_true] at h4 ⊢
      exact ⟨I4, S4, acc, vs, ((e2.trans e3).trans e4), ok4, rl.mono (e3.trans e4), h4⟩
  · have e : i = ds.length := by omega
    subst e
    obtain ⟨sn, ok3⟩ := ok2.hideShow fn rl
    exact .inl ⟨it.stop I2 S2 _ H2 e2 ok2 (hpin _ _ _ w2) _ rfl, q _ _ _ _ _ (fin acc S2 w2 p sn) (e1.trans e2) ok3 (by simp only [Rep])⟩
section
variable {X : Cx} {kx vx tg iter tg1 iter1 : Expr} {ifs ifs1 : List Expr} {scope : Scope} {pos spos : Pos} {di di1 : DI} {t t1 : Tgt} {tt tt1 : DT} {dk dv : DE}
/-- in every block of this scope -/
abbrev InBlk (X : Cx) (scope : Scope) (φ : Cx → Prop) : Prop := ∀ (s : Shared) (H : Hp) (C : Addr) (cl : List (Str × Addr)) (fp : List Addr), φ (X.blk s H scope (compEnvC scope cl C X.env) fp)
theorem je_dc (own : List (Str × Nat)) (hc : X.calm = true) (hN : X.N.Nodup) (hi : JI X tg iter di) (ok : BlkOk X.N X.env.scope scope own) (ho : own.map (·.2) = t.slots) (hg : InBlk X scope fun Y => JG Y tg t) (ht : InBlk X scope fun Y => JTs Y ifs tt)
    (hk : InBlk X scope fun Y => JE Y kx dk) (hv : InBlk X scope fun Y => JE Y vx dv) (hs : ∀ x, foldedSetIterable iter X.env x = pure x := by intro _; rfl) : JE X (.DictComp kx vx [⟨tg, iter, ifs, 0⟩] scope pos) (dDc di t tt dk dv) :=
  je_of (pe_dc hc hN hi ok hg ht hk hv hs) fun σ H Q h => by
    rw [ho]
    exact up_dc σ H Q h
theorem use_dict (gens : List Comprehension) (env : Env) (u : Value → Sem Unit) : evalThenUse (.DictComp kx vx gens scope pos) env u = (do
    let _ ← comprehension (.DictComp kx vx gens scope pos) scope env (firstIterPos gens pos) newDict (firstAsync gens) (firstIter gens env) (some u)) := rfl
theorem blk_all {own : List (Str × Nat)} (hg : InBlk X scope fun Y => JG Y tg t) (ht : InBlk X scope fun Y => JTs Y ifs tt) (hi1 : InBlk X scope fun Y => JI Y tg1 iter1 di1) (hg1 : InBlk X scope fun Y => JG Y tg1 t1) (ht1 : InBlk X scope fun Y => JTs Y ifs1 tt1)
    (hk : InBlk X scope fun Y => JE Y kx dk) (hv : InBlk X scope fun Y => JE Y vx dv) (s : Shared) (H : Hp) (C : Addr) (cl : List (Str × Addr)) (fp : List Addr) :
    PG (X.blk s H scope (compEnvC scope cl C X.env) fp) tg (upG X.K t) ∧ PTs (X.blk s H scope (compEnvC scope cl C X.env) fp) ifs (upT X.K tt) ∧ PI (X.blk s H scope (compEnvC scope cl C X.env) fp) tg1 iter1 (upI X.K di1) ∧
      PG (X.blk s H scope (compEnvC scope cl C X.env) fp) tg1 (upG X.K t1) ∧ PTs (X.blk s H scope (compEnvC scope cl C X.env) fp) ifs1 (upT X.K tt1) ∧ PE (X.blk s H scope (compEnvC scope cl C X.env) fp) kx (upE X.K dk) ∧ PE (X.blk s H scope (compEnvC scope cl C X.env) fp) vx (upE X.K dv) :=
  ⟨hg s H C cl fp, ht s H C cl fp, hi1 s H C cl fp, hg1 s H C cl fp, ht1 s H C cl fp, hk s H C cl fp, hv s H C cl fp⟩
theorem js_setDc2 (i : Nat) {y : Str} {py : Pos} (own : List (Str × Nat)) (ho : own.map (·.2) = t.slots ++ t1.slots) (hN : X.N.Nodup) (hy : X.N[i]? = some y) (hyl : X.env.scope.names.lookup y = some .local) (hsw : swapsWith (dc2E kx vx tg iter tg1 iter1 ifs ifs1 scope pos) (some (.Name y py)) spos.line X.env = pure true)
    (hi : JI X tg iter di) (ok : BlkOk X.N X.env.scope scope own) (hc : X.calm = true) (hg : InBlk X scope fun Y => JG Y tg t) (ht : InBlk X scope fun Y => JTs Y ifs tt)
    (hi1 : InBlk X scope fun Y => JI Y tg1 iter1 di1) (hg1 : InBlk X scope fun Y => JG Y tg1 t1) (ht1 : InBlk X scope fun Y => JTs Y ifs1 tt1) (hk : InBlk X scope fun Y => JE Y kx dk) (hv : InBlk X scope fun Y => JE Y vx dv)
    (hs : ∀ x, foldedSetIterable iter X.env x = pure x := by intro _; rfl) (hs1 : ∀ env x, foldedSetIterable iter1 env x = pure x := by intro _ _; rfl) : JS X (.Assign [.Name y py] (dc2E kx vx tg iter tg1 iter1 ifs ifs1 scope pos) spos) (dSet i (dDc2 di t tt di1 t1 tt1 dk dv)) := by
  refine ⟨fun pins s σ H DD I hw => ?_⟩
  obtain ⟨ρ, I0, S, F, D0, rs, ok0, h, q⟩ := hw
  have hq := up_dc2 (X := X) (di := di) (t := t) (tt := tt) (di1 := di1) (t1 := t1) (tt1 := tt1) (dk := dk) (dv := dv) σ H (fun x H1 => DD.nx (σ.set i (some x)) H1) ⟨ρ, I0, S, F, _, rs, ok0, h, fun x S1 v I1 H1 h1 e1 ok1 r1 => q.nx _ _ _ _ _ h1 e1 ok1 ((rs.mono e1).set i r1)⟩
  rw [← ho] at hq
  rw [exec_Assign_Name_used _ _ _ _ hsw]
  refine wpAny_bind (wpAny_standAt (wpAny_bind ?_))
  rw [use_dict]
  refine wpAny_bind (thn (dc2_core (Qf := fun _ s' => SP X pins DD .next s') (own1 := t1.slots) (use := some (assign (.Name y py) X.env)) hc hN I hi ok (fun i hi => by rw [ho]; exact List.mem_append_right _ hi) (blk_all (own := own) hg ht hi1 hg1 ht1 hk hv) hs hs1 hq
    fun D C s' m H' I' z hn f => post_store I' hN hy hyl z hn f) fun _ s' hz => wpAny_pure (wpAny_pure hz))
theorem swd_true {gs : List Comprehension} {py : Pos} {y : Str} {l : Nat} {env : Env} (hk : env.scope.kind = .function) (hy : env.scope.names.lookup y = some .local) (hl : (py.line == pos.line) = true)
    (ha : (scope.names.any fun (n, k) => n == y && (k == .local || k == .cell)) = false) : swapsWith (.DictComp kx vx gs scope pos) (some (.Name y py)) l env = pure true := by
  have e1 : env.kindOf y = some .local := hy
  have e2 : env.blockKind = .function := by unfold Env.blockKind; rw [hk]; rfl
  unfold swapsWith
  simp only [e1, e2, ha, Expr.pos, hl]
  rfl
end

/-! ### len(d), list(d), dict(d), dict of pairs, sorted(d), d.update(d) -/
def cLenD : DC := fun xs S P => match xs with
  | [x] => (match dctOf S x with
    | some kvs => P (.int kvs.length) S
    | none => False)
  | _ => False
def cListD : DC := fun xs S P => match xs with
  | [x] => (match dctOf S x with
    | some kvs => P (.lst (kvs.map fun kv => kD kv.1)) S
    | none => False)
  | _ => False
def cListDM : DC := fun xs S P => match xs with
  | [x] => (match dctOf S x with
    | some kvs => ∀ p, S p = none → P (.obj p) (supd S p (.lst (kvs.map fun kv => kD kv.1)))
    | none => False)
  | _ => False
def cDictD : DC := fun xs S P => match xs with
  | [x] => (match dctOf S x with
    | some kvs => ∀ p, S p = none → P (.obj p) (supd S p (.dK kvs))
    | none => False)
  | _ => False
def pairsOf : List D → Option (List (Key × D))
  | [] => some []
  | .tup [x, y] :: r => match keyOf x, pairsOf r with
    | some k, some ks => some ((k, y) :: ks)
    | _, _ => none
  | _ => none
def cDictP : DC := fun xs S P => match xs with
  | [x] => (match (lstOf S x).bind pairsOf with
    | some kvs => kvs.length ≤ 100000 ∧ ∀ p, S p = none → P (.obj p) (supd S p (.dK (dMrg [] kvs)))
    | none => False)
  | _ => False
def dDUpd (dd de : DE) : DE := fun ρ S P => dd ρ S fun x S1 => (∃ a es, x = .obj a ∧ S1 a = some (.dK es)) ∧ de ρ S1 fun y S2 => ∃ a b kvs more, x = .obj a ∧ y = .obj b ∧ a ≠ b ∧ S2 a = some (.dK kvs) ∧ dctOf S2 y = some more ∧ kvs.length + more.length ≤ 100000 ∧
  P .non (supd S2 a (.dK (dMrg kvs more)))
theorem rep_ints {K : PySem.W.Frag} {I : Hp} : ∀ ys : List Int, RepL K I (ys.map .int) (ys.map V.int)
  | [] => RepL.nil
  | _ :: r => RepL.cons rep_int (rep_ints r)
theorem pairs_rep {K : PySem.W.Frag} {I H : Hp} (e : Same I H) : ∀ {xs : List D} {kvs : List (Key × D)} {us : List V}, RepL K I xs us → pairsOf xs = some kvs → ∃ (ps : List Addr) (vs : List (Key × V)), us = ps.map V.ref ∧ Paired (fun p kv => SqT K H p [kV kv.1, kv.2]) ps vs ∧ RepF K I kvs vs
  | [], kvs, us, h, z => by
    simp only [RepL] at h
    simp only [pairsOf, Option.some.injEq] at z
    subst h z
    exact ⟨[], [], rfl, .nil, RepF.nilK⟩
  | x :: r, kvs, us, h, z => by
    simp only [RepL] at h
    obtain ⟨v, w, rfl, h1, h2⟩ := h
    unfold pairsOf at z
    split at z
    · rename_i eq; cases eq
    · rename_i a b r' eq
      cases eq
      cases e1 : keyOf a with
      | none => rw [e1] at z; cases z
      | some k =>
        cases e2 : pairsOf r with
        | none => rw [e1, e2] at z; cases z
        | some ks =>
          rw [e1, e2] at z
          cases z
          obtain ⟨ps, vs, rfl, pr, rf⟩ := pairs_rep e h2 e2
          obtain ⟨p, xs, rfl, ht, rl⟩ := h1.tup_of
          obtain ⟨u1, u2, rfl, ra, rb⟩ := rl.inv2
          rw [keyOf_eq e1] at ra
          rw [kD_of ra] at ht
          exact ⟨p :: ps, (k, u2) :: vs, rfl, .cons (sqT_same e ht) pr, RepF.consK (p := (k, b)) rb rf⟩
    · cases z
section
variable {X : Cx}
theorem call_lenR : CallR X (.builtin "len") (fun xs H Q => ∃ a kvs, xs = [V.ref a] ∧ Rd H a (.dK kvs) ∧ Q (.int kvs.length) H) := by
  intro pins s σ H xs us Q I r h
  obtain ⟨a, kvs, ex, ha, q⟩ := h
  subst ex
  obtain ⟨u, eu, ru⟩ := vals1 r
  subst eu
  cases ru
  exact d_len I ha fun t s' I' => ⟨.int kvs.length, H, I', ⟨t, rfl⟩, q⟩
theorem mt_dupd : MtR X "dict.update" (fun x xs H Q => ∃ a b kvs more, x = .ref a ∧ xs = [.ref b] ∧ a ≠ b ∧ H a = some (.dK kvs) ∧ Rd H b (.dK more) ∧ kvs.length + more.length ≤ sizeLine ∧ Q .non (upd H a (.dK (mergeK kvs more)))) := by
  intro pins s σ H x xs v us Q I rx rv h
  obtain ⟨a, b, kvs, more, ex, ev, ne, ea, eb, hl, q⟩ := h
  subst ex ev
  obtain rfl : v = Value.ref a := rx
  obtain ⟨u, eu, ru⟩ := vals1 rv
  subst eu
  obtain rfl : u = Value.ref b := ru
  obtain ⟨za, hda, va, ka, da⟩ := dk_of I.hok ea
  obtain ⟨zb, hdb, vb, kb, db⟩ := dk_rd I.hok eb
  refine call_meetsIn PySem.F.slot_dict_update da.typeIs PySem.F.entry_dict_update (PySem.F.args_dict_update_2 _ _) (meets_dict_update (mixKind X.prog X.w) a b ne hdb) ⟨va, vb, da, db, by rw [← ka.length, ← kb.length]; exact hl, fun h' dd dm hs => ?_⟩
  have hlen : (mergeK kvs more).length ≤ sizeLine := Nat.le_trans (length_mergeK more kvs) hl
  exact ⟨.non, _, d_write (t' := s.toks) I (by rw [ea]; exact True.intro) hs (let ⟨o, _, _, ho, _⟩ := dd; ⟨o, ho⟩) (dk_new hlen hda (kb.merge ka) dd), rfl, q⟩
variable {K : PySem.W.Frag}
theorem i_lenD : ImpC K (fun xs H Q => ∃ a kvs, xs = [V.ref a] ∧ Rd H a (.dK kvs) ∧ Q (.int kvs.length) H) cLenD := by
  intro xs vs I S F H P Q ok r h q
  match xs, h with
  | [x], h =>
    obtain ⟨v, rfl, rv⟩ := r.inv1
    unfold cLenD at h
    simp only at h
    split at h
    · rename_i kvs e
      obtain ⟨a, ws, rfl, hd, rf⟩ := dct_rd ok rv e
      refine ⟨a, ws, rfl, hd, ?_⟩
      rw [rf.lenK]
      exact q _ _ _ _ _ h (Same.refl I) ok rep_int
    · exact h.elim
theorem i_dictP : ImpC K (fun xs H Q => ∃ (a : Addr) (ps : List Addr) (kvs : List (Key × V)), xs = [.ref a] ∧ SqL K H a (ps.map V.ref) ∧ Paired (fun p kv => SqT K H p [kV kv.1, kv.2]) ps kvs ∧ ∀ p, H p = none → Q (.ref p) (upd H p (.dK (mergeK [] kvs)))) cDictP := by
  intro xs vs I S F H P Q ok r h q
  match xs, h with
  | [x], h =>
    obtain ⟨v, rfl, rv⟩ := r.inv1
    unfold cDictP at h
    simp only at h
    split at h
    · rename_i kvs e
      cases e2 : lstOf S x with
      | none => rw [e2] at e; cases e
      | some ds =>
        rw [e2] at e
        obtain ⟨a, us, rfl, hs, rl⟩ := lst_sq ok rv e2
        obtain ⟨ps, ws, rfl, pr, rf⟩ := pairs_rep ok.same rl e
        exact ⟨a, ps, ws, rfl, hs, pr, fun p hp => q _ _ _ _ _ (h.2 p (ok.freshS hp)) (Same.refl I) (ok.newD hp (repF_mrgK rf RepF.nilK)) (by simp only [Rep])⟩
    · exact h.elim
variable {a e o : Expr} {pos p apos cpos : Pos} {ds : DA} {dd de : DE}
theorem je_lenD (hm : X.mg "len" = none) (ha : JA X [a] ds) (hg : Gl X "len" := by rfl) (hs : starEach [a] X.env = [(false, eval a X.env)] := by rfl) : JE X (.Call (.Name "len" p) [a] [] pos) (dCB cLenD ds) := je_callB call_lenR i_lenD hg hm b_len ha (hs := hs) (hpl := by rfl)
theorem je_dictP (hm : X.mg "dict" = none) (hc : X.calm = true) (ha : JA X [a] ds) (hg : Gl X "dict" := by rfl) (hs : starEach [a] X.env = [(false, eval a X.env)] := by rfl) : JE X (.Call (.Name "dict" p) [a] [] pos) (dCB cDictP ds) := je_callTy (call_dictP hc) i_dictP hg hm b_dict ha (hs := hs) (hpl := by rfl)
theorem je_dupd (ho : JE X o dd) (ha : JE X e de) (hbase : attributeBase o "update" X.env (eval o X.env) = eval o X.env := by rfl) (hs0 : starEach [e] X.env = [(false, eval e X.env)] := by rfl)
    (hfew : ((backTo cpos (starEach [e] X.env)).all (fun x => !x.1) && (backToKw cpos (keywordEach [] X.env)).all (fun x => x.1.isSome) && decide ([e].length + ([] : List Keyword).length + (if ([] : List Keyword).isEmpty then 0 else 1) < 30)) = true := by rfl)
    (hline : (apos.endLine == cpos.line) = true := by rfl) : JE X (.Call (.Attribute o "update" apos) [e] [] cpos) (dDUpd dd de) :=
  je_of (pe_bm PySem.F.plainAttrs_dict PySem.F.slot_dict_update PySem.F.type_dict_update mt_dupd ho (pa_cons ha pa_nil hs0) hbase hfew hline (hs := hs0) (hplain := by rfl)) fun σ H Q h0_ => El54 h0_ fun ρ I S F P rs ok hh q =>
    ⟨ρ, I, S, F, _, rs, ok, hh, fun x S1 v I1 H1 ⟨⟨a0, es, ex, e2⟩, h2⟩ e1 ok1 r1 => by
      subst ex
      obtain ⟨ys, q2, _⟩ := ok1.dkAt e2
      cases r1.obj_of
      refine ⟨.inr (.inr (.inl ⟨rfl, .inl ⟨ys, q2⟩⟩)), ρ, I1, S1, F, _, rs.mono e1, ok1, h2, fun y S2 w I2 H2 h3 e3 ok2 r2 => ?_⟩
      obtain ⟨b, c, kvs, more, ex, ey, ne, ea, eb, hl, h4⟩ := h3
      cases ex
      subst ey
      obtain ⟨zs, q4, rf⟩ := ok2.dkAt ea
      obtain ⟨c', ws, ec, hd, rf2⟩ := dct_rd ok2 r2 eb
      cases r2.obj_of
      cases ec
      exact ⟨a0, c, zs, ws, rfl, rfl, ne, q4, hd, by rw [rf.lenK, rf2.lenK]; exact line5 hl, q _ _ _ _ _ h4 (e1.trans e3) (ok2.writeD ea q4 (repF_mrgK rf2 rf)) rep_non⟩⟩
end
end DL

/-! xs[:0:-1], defs with a keyword default. -/
namespace L2
open PySem PySem.Spec PyProof.Rows PySem.W
section
variable {X : Cx} {a : Expr} {ta : TE} {p p2 p1 p3 pos pos2 : Pos}
theorem pick_map (vs : Array Value) : ∀ {l : List Nat}, (∀ j ∈ l, j < vs.size) → l.filterMap (vs[·]?) = l.map fun j => vs.getD j .none
  | [], _ => rfl
  | j :: l, h => by
    have lt := h j (by simp)
    rw [List.filterMap_cons, List.map_cons, pick_map vs fun k hk => h k (by simp [hk]), Array.getElem?_eq_getElem lt]
    simp [Array.getD, lt]
/-- what xs[:0:-1] picks -/
theorem pick_back (vs : Array Value) : slicePick vs none (some 0) (some (-1)) = (vs.toList.drop 1).reverse.toArray := by
  have b : sliceBounds none (some 0) (some (-1)) vs.size = ((vs.size : Int) - 1, max (-1) (min 0 ((vs.size : Int) - 1)), -1) := rfl
  unfold slicePick
  rw [b]
  show ((sliceRange ((vs.size : Int) - 1) (max (-1) (min 0 ((vs.size : Int) - 1))) (-1)).filterMap (vs[·]?)).toArray = _
  have rg : sliceRange ((vs.size : Int) - 1) (max (-1) (min 0 ((vs.size : Int) - 1))) (-1) = (List.range (vs.size - 1)).map fun k => vs.size - 1 - k := by
    unfold sliceRange
    rw [if_neg (by decide : ¬ ((-1 : Int) > 0))]
    by_cases h : (vs.size : Int) - 1 > max (-1) (min 0 ((vs.size : Int) - 1))
    · have e : ((vs.size : Int) - 1 - max (-1) (min 0 ((vs.size : Int) - 1)) - -1 - 1) / (- -1) = ((vs.size - 1 : Nat) : Int) := by
        rw [show (- -1 : Int) = 1 by decide, Int.ediv_one]
        omega
      simp only [h, if_true, e, Int.toNat_natCast]
      refine List.map_congr_left fun k hk => ?_
      have := List.mem_range.mp hk
      omega
    · have e : vs.size - 1 = 0 := by omega
      simp only [h, if_false, e]
      rfl
  rw [rg]
  congr 1
  apply List.ext_getElem?
  intro i
  by_cases hi : i < vs.size - 1
  · rw [pick_map _ fun j hj => ?_]
    · rw [List.getElem?_map, List.getElem?_map, List.getElem?_range hi, List.getElem?_reverse (by simp; omega), List.getElem?_drop]
      simp only [List.length_drop, Array.length_toList, Option.map_some]
      have lt : vs.size - 1 - i < vs.size := by omega
      rw [show 1 + (vs.size - 1 - 1 - i) = vs.size - 1 - i by omega, Array.getElem?_toList, Array.getElem?_eq_getElem lt]
      simp [Array.getD, lt]
    · obtain ⟨k, hk, rfl⟩ := List.mem_map.mp hj
      have := List.mem_range.mp hk
      omega
  · rw [List.getElem?_eq_none, List.getElem?_eq_none]
    · simp; omega
    · refine Nat.le_trans (List.length_filterMap_le _ _) ?_
      simp; omega
def tBack (K : PySem.W.Frag) (te : TE) : TE := fun σ H Q => te σ H fun x H1 => ∃ a xs, x = .ref a ∧ SqL K H1 a xs ∧ ∀ p, H1 p = none → Q (.ref p) (upd H1 p (.lst (xs.drop 1).reverse))
theorem vals_drop1 {xs : List V} {us : List Value} (r : Vals xs us) : Vals (xs.drop 1).reverse (us.drop 1).reverse := (r.drop 1).reverse
theorem pe_back {k k0 : Nat} {p0 : Pos} (he : PE X a ta) : PE X (.Subscript a (.Slice none (some (.Constant (.int 0) k0 p0)) (some (.UnaryOp .USub (.Constant (.int 1) k p1) p2)) p3) pos) (tBack X.K ta) := by
  refine ⟨fun pins s σ H Q I h => Subscript_ (thn (he.run pins s σ H _ I h) fun v s1 ⟨x, H1, I1, r1, a', xs, ex, hx, q⟩ => ?_)⟩
  subst ex
  cases r1
  have up : PO X (some (.Constant (.int 0) k0 p0)) (tPart (tC (.int 0))) := po_some pe_int
  have st : PO X (some (.UnaryOp .USub (.Constant (.int 1) k p1) p2)) (tPart (tUn (rU fun i => .int (-i)) (tC (.int 1)))) := po_some (pe_un un_neg pe_int)
  refine wpAny_Slice (thn (po_none.run pins s1 σ H1 (fun o H2 => o = none ∧ H2 = H1) I1 ⟨rfl, rfl⟩) fun vl s2 ⟨l, H2, I2, pl, el, e2⟩ => ?_)
  subst el e2
  refine thn (up.run pins s2 σ H2 (fun o H3 => o = some 0 ∧ H3 = H2) I2 ⟨0, rfl, rfl, rfl⟩) fun vu s3 ⟨u, H3, I3, pu, eu, e3⟩ => ?_
  subst eu e3
  refine thn (st.run pins s3 σ H3 (fun o H4 => o = some (-1) ∧ H4 = H3) I3 ⟨1, rfl, -1, rfl, rfl, rfl⟩) fun vs s4 ⟨o, H4, I4, ps, eo, e4⟩ => ?_
  subst eo e4
  have I5 : Inv X pins σ H4 { s4 with heap := s4.heap.push { cls := .type "slice", data := .fields #[vl, vu, vs] } } := I4.kept (t' := s4.toks) fun b ob z => Heap.get?_push_of_some _ z
  obtain ⟨its, r, ht, hz⟩ := I5.list hx
  have len := r.length
  show wpAny (model X.prog X.w) X.A (subscriptTail a (.Slice none (some (.Constant (.int 0) k0 p0)) (some (.UnaryOp .USub (.Constant (.int 1) k p1) p2)) p3) (.ref a') (.ref s4.heap.objs.size)) (EP X pins σ Q) X.xe { s4 with heap := s4.heap.push { cls := .type "slice", data := .fields #[vl, vu, vs] } }
  refine tail_any (ops := [.ref a', .ref s4.heap.objs.size]) ht.isList.typeIs (PySem.slot_list_getitem.lookup) ?_ (by with_unfolding_all rfl)
  refine wpAny_getItem_list_slice ht.isList (Heap.IsSliceOf.new _ vl vu vs) pl pu ps (by decide) ?_ (by rw [List.size_toArray]; omega)
  rw [pick_back]
  have shape : (xs.drop 1).reverse.length ≤ sizeLine := by rw [List.length_reverse, List.length_drop]; omega
  exact ⟨.ref _, _, I5.laid (t' := s4.toks) (o := .lst (xs.drop 1).reverse) (fun b ob z => Heap.get?_push_of_some _ z) (Nat.le_refl _) ⟨shape, _, 0, vals_drop1 r, Heap.get?_push_size _ rfl⟩, rfl, q _ (I5.hok.fresh (Nat.le_refl _))⟩
end
end L2
namespace DL
open PySem PySem.Spec PyProof.Rows L2
def dBack (d : DE) : DE := fun ρ S P => d ρ S fun x S1 => match lstOf S1 x with
  | some ds => P (.lst (ds.drop 1).reverse) S1
  | none => False
section
variable {X : Cx} {a : Expr} {es : List Expr} {da : DE} {ds : DA} {p p1 p2 p3 pos pos2 : Pos}
theorem je_back {k k0 : Nat} {p0 : Pos} (he : JE X a da) : JE X (.Subscript a (.Slice none (some (.Constant (.int 0) k0 p0)) (some (.UnaryOp .USub (.Constant (.int 1) k p1) p2)) p3) pos) (dBack da) :=
  je_of (pe_back he) fun σ H Q h0_ => El54 h0_ fun ρ I S F P rs ok h q => ⟨ρ, I, S, F, _, rs, ok, h, fun x S1 v I1 H1 h1 e1 ok1 r1 => by
    split at h1
    · rename_i ds e
      obtain ⟨a, xs, rfl, hs, rl⟩ := lst_sq ok1 r1 e
      exact ⟨a, xs, rfl, hs, fun p hp => q _ _ _ _ _ h1 (e1.trans (same_new (ok1.freshI hp))) (ok1.newI hp) (rep_new_lst (ok1.freshI hp) (rl.drop 1).rev)⟩
    · exact h1.elim⟩
end
end DL

/-! sorted(d), d a dict of any many ints as keys; sorted(xs) of ints. -/
namespace L2
open PySem PySem.Spec PyProof.Rows PySem.W
/-- what the collected keys are -/
theorem keys_ints {vs : List (Key × Value)} {ks : List Int} {acc : List Value} (hk : vs.map (·.1) = ks.map Sum.inl) (len : acc.length = ks.length) (h : ∀ (j : Nat) (v : Value), acc[j]? = some v → ∃ k x, vs[j]? = some (k, x) ∧ keyIs k v = true) : IntsAre acc ks := by
  refine ints_each len fun j v e => ?_
  obtain ⟨k, x, e1, e2⟩ := h j v e
  have e3 : (ks.map (Sum.inl (β := Str)))[j]? = some k := by
    rw [← hk, List.getElem?_map, e1]
    rfl
  rw [List.getElem?_map] at e3
  cases e4 : ks[j]? with
  | none => rw [e4] at e3; exact nomatch e3
  | some y =>
    rw [e4] at e3
    cases e3
    rcases keyIs_shape e2 with ⟨i, t, ei, ev⟩ | ⟨z, t, ez, ev⟩
    · cases ei
      exact ⟨y, t, rfl, ev⟩
    · exact nomatch ez
theorem call_sortedDB {X : Cx} (hcalm : X.calm = true) : CallR X (.builtin "sorted") (fun xs H Q => ∃ (a : Addr) (kvs : List (Key × V)) (ks : List Int), xs = [.ref a] ∧ Rd H a (.dK kvs) ∧ kvs.map (·.1) = ks.map Sum.inl ∧
    ∀ (ys : List Int) (p : Addr), ys.Perm ks → ys.Pairwise (· ≤ ·) → H p = none → Q (.ref p) (upd H p (.lst (ys.map V.int)))) := by
  intro pins s σ H xs us Q I r h
  obtain ⟨a, kvs, ks, ex, hd, hks, q⟩ := h
  subst ex
  obtain ⟨u, eu, ru⟩ := vals1 r
  subst eu
  cases ru
  obtain ⟨size, notSys, vs, rel, dd⟩ := dk_rd I.hok hd
  obtain ⟨ep, at1⟩ := dd.dictAt
  have lv : vs.length = kvs.length := rel.length.symm
  have lk : kvs.length = ks.length := by simpa using congrArg List.length hks
  refine Calls.call_function_entry PyProof.Rows.kind_sorted PyProof.Rows.plain_sorted PyProof.Rows.entry_sorted (PyProof.Rows.args_sorted1 _) ?_
  unfold Builtin.«sorted»
  refine wpAny_bind (m := checkCount "sorted" 1 1 _) (wpAny_pure (wpAny_bind (PySem.W.kdu_collect (A := X.A.in1) (PySem.W.kdl_dict (knd := mixKind X.prog X.w) (kvs := vs) (ep := ep) notSys) (I.ok.hd hcalm) at1 (by rw [lv]; exact size) fun h' tk acc hk hacc => ?_)))
  have la : acc.toList.length = ks.length := by rw [Array.length_toList, hacc.1, lv, lk]
  have big : acc.toList.length ≤ sizeLine := by rw [la, ← lk]; exact size
  have ia : IntsAre acc.toList ks := keys_ints (rel.keys.symm.trans hks) la fun j v e => hacc.2 j v (by rw [← Array.getElem?_toList]; exact e)
  have I1 : Inv X pins σ H { s with heap := h', toks := tk } := I.kept hk
  refine wpAny_bind (wpAny_newList ?_ big)
  have at2 : (h'.push (seqObj "list" acc.toList.toArray 0)).get? h'.objs.size = some (seqObj "list" acc.toList.toArray 0) := Heap.get?_push_size _ rfl
  show wpAny _ _ _ _ _ { s with heap := h'.push (seqObj "list" acc.toList.toArray 0), toks := tk }
  refine wpAny_bind (wpAny_holding (wpAny_call_entry PyProof.Rows.slot_list_sort ⟨_, at2, rfl⟩ PyProof.Rows.entry_list_sort
    (SrtO.list_sort_ord (s := { s with heap := h'.push (seqObj "list" acc.toList.toArray 0), toks := tk }) SrtO.swo_int at2 big (fun h2 => SrtO.ints_sortable ia h2) fun out h1 h2 => ⟨.none, rfl, ?_⟩) (PyProof.Rows.args_list_sort _)))
  obtain ⟨k1, k2, k3⟩ := SrtO.ints_out ia h1 h2
  obtain ⟨ep', he'⟩ := PyProof.Rows.sortedHeap_at (vs := acc.toList) (out := out.toArray) at2
  have len : ((out.map SrtO.iv).map V.int).length ≤ sizeLine := by rw [List.length_map, k2.length_eq, ← la]; exact big
  have I2 := I1.laid (a := h'.objs.size) (o := .lst ((out.map SrtO.iv).map V.int)) (t' := tk) (fun b u e => by
    have hb : b < h'.objs.size := Heap.lt_size e
    exact (PyProof.Rows.sortedHeap_old (Nat.ne_of_lt hb) (by rw [size_push']; exact Nat.lt_succ_of_lt hb)).trans (Heap.get?_push_of_some _ e)) (Nat.le_refl _) ⟨len, out, ep', vals_of_ints k1, he'⟩
  exact wpAny_pure ⟨_, rfl, .ref h'.objs.size, _, I2, rfl, q _ _ k2 k3 (I1.hok.fresh (Nat.le_refl _))⟩
end L2
namespace DL
open PySem PySem.Spec PyProof.Rows L2
/-- ints as keys -/
def cSortDB : DC := fun xs S P => match xs with
  | [x] => (match dctOf S x with
    | some kvs => ∃ ks : List Int, kvs.map (·.1) = ks.map Sum.inl ∧ ∀ ys : List Int, ys.Perm ks → ys.Pairwise (· ≤ ·) → P (.lst (ys.map .int)) S
    | none => False)
  | _ => False
/-- sorted(xs) of ints -/
def cSortL : DC := fun xs S P => match xs with
  | [x] => (match (lstOf S x).bind dInts with
    | some ks => ∀ ys : List Int, ys.Perm ks → ys.Pairwise (· ≤ ·) → P (.lst (ys.map .int)) S
    | none => False)
  | _ => False
section
variable {X : Cx} {K : PySem.W.Frag} {a : Expr} {pos p : Pos} {ds : DA}
theorem i_sortDB : ImpC K (fun xs H Q => ∃ (a : Addr) (kvs : List (Key × V)) (ks : List Int), xs = [.ref a] ∧ Rd H a (.dK kvs) ∧ kvs.map (·.1) = ks.map Sum.inl ∧ ∀ (ys : List Int) (p : Addr), ys.Perm ks → ys.Pairwise (· ≤ ·) → H p = none → Q (.ref p) (upd H p (.lst (ys.map V.int)))) cSortDB := by
  intro xs vs I S F H P Q ok r h q
  match xs, h with
  | [x], h =>
    obtain ⟨v, rfl, rv⟩ := r.inv1
    unfold cSortDB at h
    simp only at h
    split at h
    · rename_i kvs e
      obtain ⟨ks, hk, h⟩ := h
      obtain ⟨a, ws, rfl, hd, rf⟩ := dct_rd ok rv e
      exact ⟨a, ws, ks, rfl, hd, by rw [rf.keysK]; exact hk, fun ys p h1 h2 hp => q _ _ _ _ _ (h ys h1 h2) (same_new (ok.freshI hp)) (ok.newI hp) (rep_new_lst (ok.freshI hp) (rep_ints ys))⟩
    · exact h.elim
theorem je_sortDB (hm : X.mg "sorted" = none) (hc : X.calm = true) (ha : JA X [a] ds) (hg : Gl X "sorted" := by rfl) (hs : starEach [a] X.env = [(false, eval a X.env)] := by rfl) : JE X (.Call (.Name "sorted" p) [a] [] pos) (dCB cSortDB ds) := je_callB (call_sortedDB hc) i_sortDB hg hm b_sorted ha (hs := hs) (hpl := by rfl)
theorem i_sortL : ImpC K (rSortedI K) cSortL := by
  intro xs vs I S F H P Q ok r h q
  match xs, h with
  | [x], h =>
    obtain ⟨v, rfl, rv⟩ := r.inv1
    unfold cSortL at h
    simp only at h
    split at h
    · rename_i ns e
      obtain ⟨l, rfl, hs⟩ := lstInts ok rv e
      exact ⟨l, ns, rfl, hs, fun ys p h1 h2 hp => q _ _ _ _ _ (h ys h1 h2) (same_new (ok.freshI hp)) (ok.newI hp) (rep_new_lst (ok.freshI hp) (rep_ints ys))⟩
    · exact h.elim
theorem je_sortL (hm : X.mg "sorted" = none) (ha : JA X [a] ds) (hg : Gl X "sorted" := by rfl) (hs : starEach [a] X.env = [(false, eval a X.env)] := by rfl) : JE X (.Call (.Name "sorted" p) [a] [] pos) (dCB cSortL ds) := je_callB cr_sortedI i_sortL hg hm b_sorted ha (hs := hs) (hpl := by rfl)
end
end DL

/-! sorted(set(xs)) of ints. -/
namespace L2
open PySem PySem.Spec PyProof.Rows PySem.W
section
variable {P : Program} {w : World} {A : Around} {E : Value → Shared → Prop} {s : Shared}
/-- a set just made -/
abbrev bareSet (w : World) : Obj := { cls := .type "set", dict := none, data := .set #[] 0 (.fresh 0 0 (!w.params.followText "set-order")) }
/-- set(xs), xs a list of ints -/
theorem set_of_list {a : Addr} {vs : Array Value} (ns : List Int) {Q : Value → Shared → Prop} (calm : A.handled = none) (la : s.heap.IsList a vs) (hit : IntsAre vs.toList ns) (few : ns.length + 1 < scanBound)
    (q : ∀ (h' : Heap) (tk c : Nat), SetR w h' s.heap.objs.size (fun j => decide (j ∈ ns)) c → c ≤ ns.length → (∀ b o, s.heap.get? b = some o → h'.get? b = some o) → Q (.ref s.heap.objs.size) { s with heap := h', toks := tk }) :
    wpAny (model P w) A (call (.type "set") [.ref a]) Q E s := by
  have size : vs.size = ns.length := (Array.length_toList (xs := vs)).symm.trans (IntsAre.length hit)
  obtain ⟨mc, mt, mro⟩ := F.called_set.mro
  have c1 := F.called_set.made
  have c2 := F.called_set.sub
  refine wpAny_call (codeAny_of_tree (show wpAny _ _ (callAny (.type "set") _) _ _ _ from wpAny_pure ⟨Code.quiet_builtin _ (by decide +kernel), codeAny_builtin F.entry_type_call ?_⟩))
  rw [Around.under_plain (weight_type_call_type "set" [.ref a] []) rfl]
  have c3 := F.called_set.notType
  have c4 := F.called_set.canCreate
  have c5 := F.typeCall_set_1 (.ref a)
  repeat any_goals first | assumption | wp_step
  refine codeAny_mono (code_set_led1 (.ref a) (E := E) (Q₁ := fun u s1 => u = .ref s.heap.objs.size ∧ s1 = { s with heap := s.heap.push (bareSet w) }) ⟨rfl, rfl⟩) fun r s1 hr => ?_
  match r, hr with
  | .error _, hr => exact hr
  | .ok .next, hr => exact hr.elim
  | .ok .brk, hr => exact hr.elim
  | .ok .cont, hr => exact hr.elim
  | .ok (.ret u), hr =>
    obtain ⟨eu, es⟩ := hr
    subst eu es
    have at1 : (s.heap.push (bareSet w)).get? s.heap.objs.size = some (bareSet w) := Heap.get?_push_size _ rfl
    have ty1 : Shared.TypeIs { s with heap := s.heap.push (bareSet w) } (.ref s.heap.objs.size) "set" := ⟨_, at1, rfl⟩
    have i1 := F.called_set.init.lookup
    have i2 := F.called_set.init.bind (.ref s.heap.objs.size)
    repeat any_goals first | assumption | wp_step
    refine codeAny_mono (codeAny_call_builtin (R := wants (fun r s2 => r = .none ∧ ∃ h' tk c, s2 = { s with heap := h', toks := tk } ∧ SetR w h' s.heap.objs.size (fun j => decide (j ∈ ns)) c ∧ c ≤ ns.length ∧ (∀ b o, s.heap.get? b = some o → h'.get? b = some o)) E) F.called_set.init.plain F.entry_set_init (check_set_init_1 ty1 ?_)) fun r2 s2 hr2 => ?_
    · obtain ⟨ol, lo, lc, ln, ld⟩ := la
      obtain ⟨xc, xd, xdat, xs⟩ := ol
      simp only at lc ld
      subst lc ld
      have lo1 : (s.heap.push (bareSet w)).get? a = some { cls := .type "list", dict := xd, data := .seq vs ln, slots := xs } := Heap.get?_push_of_some _ lo
      have z1 := F.sub_list_set
      have z2 := F.sub_list_frozenset
      have z3 : (Value.type "list" == Value.type "dict") = false := by decide
      have la1 : (s.heap.push (bareSet w)).IsList a vs := ⟨_, lo1, rfl, ln, rfl⟩
      unfold Builtin.«set.__init__» noKeywords Builtin.Frozenset.updateFrom
      generalize hI : pyIter = itr
      wp_walk
      subst hI
      refine wpAny_pyIter_list la1 (wpAny_bind (wpAny_runValue ?_))
      have below : a < s.heap.objs.size := Heap.lt_size lo
      have quiet : A.in1.in1.in1.handled = none := by simp [calm]
      have grown : (s.heap.push (bareSet w)).objs.size = s.heap.objs.size + 1 := Heap.size_push ..
      have ne1 : a ≠ (s.heap.push (bareSet w)).objs.size := fun z => Nat.ne_of_lt (Nat.lt_succ_of_lt below) (z.trans grown)
      have ne2 : s.heap.objs.size ∉ [(s.heap.push (bareSet w)).objs.size, a] := by
        intro z
        rcases List.mem_cons.mp z with e | z
        · exact Nat.ne_of_lt (Nat.lt_succ_self _) (e.trans grown)
        · exact Nat.ne_of_lt below (List.mem_singleton.mp z).symm
      have vals : ∀ (i : Nat) (v : Value), vs[i]? = some v → ∃ k t, ns[i]? = some k ∧ v = .int k t := by
        intro i v hv
        have lt : i < ns.length := by rw [← size]; exact (Array.getElem?_eq_some_iff.mp hv).1
        obtain ⟨t, e⟩ := PyProof.Rows.IntsAre.int_at hit i v (by rw [Array.getElem?_toList]; exact hv)
        rw [List.getD_eq_getElem?_getD, List.getElem?_eq_getElem lt] at e
        exact ⟨ns[i], t, List.getElem?_eq_getElem lt, e⟩
      refine set_update_ints ((Walks.list quiet _ a ne1 vs).toS) s.heap.objs.size ne2 ns size few vals (vs.size - 0) 0 _ (by omega) (Nat.zero_le _) ⟨⟨_, Heap.get?_push_size _ rfl, rfl, rfl⟩, (la1.push _)⟩ ⟨0, Nat.le_refl 0, setR_new_at (Heap.get?_push_of_some _ at1)⟩ ?_
      intro s' c' mv hc' hS'
      obtain ⟨h', g2, d2, t2, o2⟩ := s'
      have eg : g2 = s.gens := mv.gens
      have ed : d2 = s.drawn := mv.drawn
      have eo : o2 = s.os := mv.os
      subst eg ed eo
      refine (show wpAny _ _ _ _ _ _ from wpAny_pure (show wpAny _ _ (ret Value.none) _ _ _ from wpAny_pure ⟨rfl, h', t2, c', rfl, hS', by omega, fun b o e => ?_⟩))
      have lb : b < s.heap.objs.size := Heap.lt_size e
      refine mv.heap b o (fun z => ?_) (Heap.get?_push_of_some _ (Heap.get?_push_of_some _ e))
      rcases List.mem_cons.mp z with e | z
      · exact Nat.ne_of_lt lb e
      · exact Nat.ne_of_lt (Nat.lt_succ_of_lt lb) ((List.mem_singleton.mp z).trans grown)
    · match r2, hr2 with
      | .error _, hr2 => exact hr2
      | .ok .next, hr2 => exact hr2.elim
      | .ok .brk, hr2 => exact hr2.elim
      | .ok .cont, hr2 => exact hr2.elim
      | .ok (.ret r), hr2 =>
        obtain ⟨er, h', tk, c, e2, hS', hc', hk'⟩ := hr2
        subst er e2
        repeat any_goals first | assumption | wp_step
        exact q _ _ _ hS' hc' hk'
end
section
variable {X : Cx} {a : Expr} {ta : TE} {p p2 p1 p3 pos pos2 : Pos}
/-- sorted(set(xs)): fewer than 64 unlike numbers -/
def tSortSet (K : PySem.W.Frag) (ta : TE) : TE := fun σ H Q => ta σ H fun x H1 => ∃ (l : Addr) (ns : List Int), x = .ref l ∧ SqL K H1 l (ns.map V.int) ∧ ns.length ≤ 4000 ∧ (∀ c : List Int, c.Nodup → (∀ k, k ∈ c → k ∈ ns) → c.length < 64) ∧
  ∀ (ys : List Int) (r : Addr), ys.Pairwise (· < ·) → (∀ k, k ∈ ys ↔ k ∈ ns) → H1 r = none → Q (.ref r) (upd H1 r (.lst (ys.map V.int)))
theorem pe_sortSet (hc : X.calm = true) (hg : Gl X "sorted") (hm : X.mg "sorted" = none) (hg2 : Gl X "set") (hm2 : X.mg "set" = none) (ha : PE X a ta)
    (na : starEach [a] X.env = (false, eval a X.env) :: starEach [] X.env := by rfl) : PE X (.Call (.Name "sorted" p) [.Call (.Name "set" p2) [a] [] pos2] [] pos) (tSortSet X.K ta) := by
  refine ⟨fun pins s σ H Q I h => ?_⟩
  refine Call_ (ld_blt I hg hm PyProof.Rows.boot_sorted (PyProof.Rows.callWith_builtin1 (PyProof.Rows.args_cons ?_ rfl) rfl rfl))
  refine Call_ (ld_blt I hg2 hm2 PyProof.Rows.boot_set (PyProof.Rows.callWith_type1 (PyProof.Rows.args_cons (thn (ha.run pins s σ H _ I h) fun v s1 ⟨x, H1, I1, r1, q1⟩ => PyProof.Rows.args_nil ?_) na) na rfl))
  obtain ⟨l, ns, rfl, hq, hl, h64, q1⟩ := q1
  cases r1
  obtain ⟨its, r, pl, hz⟩ := I1.list hq
  have calm := I1.ok.hd hc
  refine set_of_list ns calm pl.isList (by simpa using RZ.intsAre_vals r) (by unfold scanBound; omega) fun h' tk c R _ hk => PyProof.Rows.args_nil ?_
  have I2 : Inv X pins σ H1 { s1 with heap := h', toks := tk } := I1.kept fun b o e => hk b o e
  have hc64 : c < 64 := by
    obtain ⟨o, es, ep, t, ho, hex, hd, g, nd, hm', hb, hf, hn, _⟩ := R
    have := h64 (es.toList.map keyOf) nd fun k hk => of_decide_eq_true ((hm' k).2 hk)
    rw [List.length_map, Array.length_toList, hn] at this
    exact this
  refine sorted_set (s := { s1 with heap := h', toks := tk }) R calm hc64 fun s' r' out cc ys k g o hp hg' hi hs hm' hl' => ?_
  have len : (ys.map V.int).length ≤ sizeLine := by rw [List.length_map, hl', sizeLine_eq]; omega
  have free : H1 r' = none := I2.hok.fresh hp
  have J : Inv X pins σ (upd H1 r' (.lst (ys.map V.int))) { s' with os := s1.os } :=
    I2.call' (s' := { s' with os := s1.os }) (ch := []) rfl (Un.laid k hp free) (I2.hok.laid k hp ⟨len, out.toList, cc, vals_of_ints hi, hg'⟩) (by show AllBare s'.gens; rw [g]; exact I2.bare) (fun _ z => nomatch z)
  have same : s' = { s' with os := s1.os } := by
    cases s'
    simp only at o
    subst o
    rfl
  rw [same]
  exact ⟨.ref r', _, J, rfl, q1 ys r' hs (fun k => (hm' k).trans (by simp)) free⟩
end
end L2
namespace DL
open PySem PySem.Spec PyProof.Rows L2
def dSortSet (d : DE) : DE := fun ρ S P => d ρ S fun x S1 => match (lstOf S1 x).bind dInts with
  | some ns => ns.length ≤ 4000 ∧ (∀ c : List Int, c.Nodup → (∀ k, k ∈ c → k ∈ ns) → c.length < 64) ∧ ∀ ys : List Int, ys.Pairwise (· < ·) → (∀ k, k ∈ ys ↔ k ∈ ns) → P (.lst (ys.map .int)) S1
  | none => False
section
variable {X : Cx} {a : Expr} {es : List Expr} {da : DE} {ds : DA} {p p1 p2 p3 pos pos2 : Pos}
theorem je_sortSet (hm : X.mg "sorted" = none) (hm2 : X.mg "set" = none) (ha : JE X a da) (hg : Gl X "sorted" := by rfl) (hg2 : Gl X "set" := by rfl) (hc : X.calm = true := by rfl)
    (na : starEach [a] X.env = (false, eval a X.env) :: starEach [] X.env := by rfl) : JE X (.Call (.Name "sorted" p) [.Call (.Name "set" p2) [a] [] pos2] [] pos) (dSortSet da) :=
  je_of (pe_sortSet hc hg hm hg2 hm2 ha na) fun σ H Q h0_ => El54 h0_ fun ρ I S F P rs ok h q => ⟨ρ, I, S, F, _, rs, ok, h, fun x S1 v I1 H1 h1 e1 ok1 r1 => by
    split at h1
    · rename_i ns e
      obtain ⟨l, rfl, hs⟩ := lstInts ok1 r1 e
      exact ⟨l, ns, rfl, hs, h1.1, h1.2.1, fun ys r z1 z2 hr => q _ _ _ _ _ (h1.2.2 ys z1 z2) (e1.trans (same_new (ok1.freshI hr))) (ok1.newI hr) (rep_new_lst (ok1.freshI hr) (rep_ints ys))⟩
    · exact h1.elim⟩
end
end DL

/-! xs[::-1] of a tuple. -/
namespace L2
open PySem PySem.Spec PyProof.Rows PySem.W
section
variable {X : Cx} {a : Expr} {ta : TE} {p p2 p1 p3 pos pos2 : Pos} {s : Shared} {prog : Program} {w : World} {A : Around} {E : Value → Shared → Prop}
end
end L2
namespace DL
open PySem PySem.Spec PyProof.Rows L2
section
variable {X : Cx} {a : Expr} {da : DE} {p p1 p2 p3 pos : Pos}
end
end DL

/-! Rows by names: sorted of texts, of tuples that begin with unlike texts, of a dict's items. -/
namespace WS
open PySem PySem.W PySem.Calls PyProof.Rows PyProof.V PySem.Spec
/-! ### ranks of texts -/
def below (x y : Str) : Bool := decide (x.cps.toList < y.cps.toList)
/-- how many of some texts are below one -/
def rank (xs : List Str) (x : Str) : Int := (xs.filter fun y => below y x).length
/-! ### tuples that begin with a text -/
def First (h : Heap) (v : Value) (y : Str) : Prop := ∃ (a : Addr) (t : Tok) (rest : List Value), v = .ref a ∧ IsTup h a (Value.str y t :: rest).toArray
def firstTx (h : Heap) (v : Value) : Str := DT.txOf (DT.seqAt0 h (DT.refOf (some v)))
theorem First.tx {h : Heap} {v : Value} {y : Str} (x : First h v y) : firstTx h v = y := by
  obtain ⟨a, t, rest, rfl, h1⟩ := x
  show DT.txOf (DT.seqAt0 h a) = y
  rw [DT.seqAt0_of h1]
  rfl
theorem First.keeps {h h' : Heap} {v : Value} {y : Str} (x : First h v y) (k : ∀ b o, h.get? b = some o → o.cls = .type "tuple" → h'.get? b = some o) : First h' v y := by
  obtain ⟨a, t, rest, e, ⟨o, ho, hc, r⟩⟩ := x
  exact ⟨a, t, rest, e, ⟨o, k _ _ ho hc, hc, r⟩⟩
section
variable {prog : Program} {w : World} {A : Around} {E : Value → Shared → Prop} {s : Shared}
end
end WS
namespace WS
open PySem PySem.W PySem.Calls PyProof.Rows PyProof.V PySem.Spec
section
variable {prog : Program} {w : World} {A : Around} {E : Value → Shared → Prop} {s : Shared}
end
end WS
namespace DL
open PySem PySem.Spec PyProof.Rows L2
section
variable {X : Cx}
end
end DL

/-! sorted(d.items()), d a dict whose keys are texts. -/
namespace DL
open PySem PySem.Spec PyProof.Rows L2
section
variable {X : Cx}
end
end DL

/-! Rows by names, as data: sorted, join, clear, for with a starred target. -/
namespace DL
open PySem PySem.Spec PyProof.Rows L2
def dStrs : List D → Option (List Str)
  | [] => some []
  | .str x :: ds => match dStrs ds with
    | some xs => some (x :: xs)
    | none => none
  | _ => none
/-- sorted(d.items()), fewer than 64 texts as keys -/
def dSortIt (d : DE) : DE := fun ρ S P => d ρ S fun x S1 => ∃ (a : Addr) (ks : List (Str × D)), x = .obj a ∧ S1 a = some (.dK (ks.map fun e => (Sum.inr e.1, e.2))) ∧ ks.length < 64 ∧ (ks.map (·.1)).Nodup ∧
  ∀ ps : List (Str × D), ps.Perm ks → ps.Pairwise (fun a b => WS.below a.1 b.1 = true) → P (.lst (ps.map fun e => .tup [.str e.1, e.2])) S1
section
variable {X : Cx} {K : PySem.W.Frag} {a o : Expr} {pos p apos ip : Pos} {ds : DA} {da db d : DE}
open Classical in
/-! ### xs.clear() -/
def dClear (a : DE) : DE := fun ρ S P => a ρ S fun x S1 => match x with
  | .obj l => (match S1 l with
    | some (.lst ds) => P .non (supd S1 l (.lst []))
    | _ => False)
  | _ => False
/-! ### "..".join(xs) -/
def dJoin (d1 d2 : DE) : DE := fun ρ S P => d1 ρ S fun x S1 => match x with
  | .str z => d2 ρ S1 fun y S2 => match (lstOf S2 y).bind dStrs with
    | some ys => (ys.map (·.length)).sum + ys.length * z.length ≤ 16777216 ∧ P (.str (Str.join z ys)) S2
    | none => False
  | _ => False

end
end DL

/-! len(o) of an own instance; a new list that may change or not; sorted(..) as a list that changes. -/
namespace DL
open PySem PySem.Spec PyProof.Rows L2
section
variable {prog : Program} {w : World} {A : Around} {E : Value → Shared → Prop} {s : Shared} {K : PySem.W.Frag} {x C f : Addr} {ox : Obj} {od : Option Obj}
end
section
variable [CT] {X : Cx}
def dLenO (c : Nat) (sp : DSp) (a : DE) : DE := fun ρ S P => a ρ S fun x S1 => ∃ p fs, x = .obj p ∧ S1 p = some (.ins (CT.at_ c) fs) ∧ sp [.obj p] S1 fun y S2 => ∃ i : Int, y = .int i ∧ 0 ≤ i ∧ i < 2 ^ 63 ∧ P (.int i) S2
end
section
variable {X : Cx} {K : PySem.W.Frag} {a e : Expr} {pos p : Pos} {ds : DA} {d : DE}
/-- z[lo:hi] of a text -/
def dSlT (d : DE) (lo hi : DO) : DE := fun ρ S P => d ρ S fun x S1 => lo ρ S1 fun l S2 => hi ρ S2 fun u S3 => match x with
  | .str z => z.length ≤ 100000 ∧ P (.str (cutS z l u)) S3
  | _ => False
end
end DL

/-! min(xs, key=lambda x: ..): the lambda is made, its code object found in the table or laid there. -/
namespace LamD
open PySem PySem.Spec PyProof.Rows L2 LamX NdefX
/-- a lambda's words, its code object; it captures nothing -/
structure LF where
  qual : Str
  params : Arguments
  body : Expr
  scope : Scope
  c : Addr
/-- the object at f is the lambda F -/
def LamO (f : Addr) (F : LF) : HO := .ext fun h => ∃ (pm ctv : Value), h.get? f = some (PySem.W.kla_obj "<lambda>" F.qual F.params F.body F.scope [] pm F.c ctv)
/-- what the making of a lambda does to the heap: its code object found in the table, or laid there -/
structure LamStep (P : Addr) (q : Str) (f : Addr) (F : LF) (H H1 : Hp) : Prop where
  nf : H f = none
  ex : (∃ pos ps, H P = some (.tbl ps) ∧ codeAmong pos ps.toList = some (.ref F.c) ∧ H1 = upd H f (LamO f F)) ∨
    (∃ (pos : Pos) (ps : Array Value), H P = some (.tbl ps) ∧ TriplesOk ps.toList ∧ H F.c = none ∧ F.c ≠ f ∧ H1 = upd (upd (upd H P (.tbl (ps ++ #[rawInt pos.line, rawInt pos.col, .ref F.c]))) F.c (CodeO F.c q)) f (LamO f F))
section
variable {X : Cx} {pins : List (Addr × Obj)} {σ : L2.St} {H : Hp} {s : Shared}
end
end LamD
namespace DL
open PySem PySem.Spec PyProof.Rows L2 LamX LamD
theorem supd_id {S : Store} {p : Addr} {m : MO} (e : S p = some m) : supd S p m = S := by
  funext z
  unfold supd
  split
  · rename_i h; subst h; exact e.symm
  · rfl
end DL

/-! The law's end where a lambda's table of code objects may grow; a method that makes a lambda. -/
namespace LamD
open PySem PySem.Spec PyProof.Rows L2 LamX
end LamD
namespace DL
open PySem PySem.Spec PyProof.Rows L2 LamX LamD
section
variable {P : Program} {w : World} {K : PySem.W.Frag} {mg : Str → Option Value} {base : Heap}
end
end DL
namespace DL
open PySem PySem.Spec PyProof.Rows L2
section
variable [CT] {X : Cx} {a b e : Expr} {c : Nat} {f g k x y z : Str} {pos p1 p2 p3 p4 p5 p6 pt pt2 : Pos} {da db dc : DE} {kt k2}
end
end DL

/-! Own exception classes over any built-in one: made by their own __init__. -/
namespace XF
open PySem
/-- the __init__ of a built-in exception class, which is BaseException's -/
structure Ix (B initId : String) : Prop where
  slot : Slot B (Str.ofString "__init__") initId
  entry : entryFor table initId = some Builtin.«BaseException.__init__»
  split : splitId initId = some (B, "__init__")
  kind : builtinKind initId = some Manifest.AttrKind.slot
  row : Manifest.signature? initId = some { machinery := Manifest.Machinery.positional, full := "*", short := B, receiver := Manifest.Receiver.self, params := [{ name := "args", kind := Manifest.ParamKind.varPos, required := false }] }
  star : (B != "*") = true
theorem Ix.of {B newId initId : String} {bm : List Value} (F : ExcBaseFacts B newId initId bm) : Ix B initId := ⟨F.init, F.initEntry, F.initSplit, F.initKind, F.initRow, F.noStar⟩
/-- what a built-in exception class is known by: the class N of its __new__, its own __init__, its classes bmB -/
structure Bx (B initId N newId : String) (bmB : List Value) : Prop where
  fb : ∃ initN bmN, ExcBaseFacts N newId initN bmN
  ix : Ix B initId
  sf : StoreFacts B bmB "object.__setattr__" "object"
  ty : typeOf (.type B) = pure (.type "type")
  st : Manifest.isStub B = false
  hi : PySem.W.handedIn (.builtin initId) = true
  cN : bmB.contains (.type N) = true
  cB : bmB.contains (.type B) = true
  nA : bmB.contains (.type "AttributeError") = false
  nN : bmB.contains (.type "NameError") = false
open Builtin Builtin.ObjectAttr PySem.HandSPX
section
variable {M : Model} {A : Around} {E : Value → Shared → Prop} {h : Heap} {g : Array GenState} {d : Drawn} {t : Nat} {os : OsState}
variable {nm q : Str} {C N : Addr} {bs bm bmB : List Value} {hdct : Bool} {sn : List Str} {sub : List Value} {ab : Bool} {col : Option Bool} {dd : Option Addr} {k0 k1 k2 k3 k5 : Option Value} {B BN newId initId : String}
end
section
variable {prog : Program} {w : World} {A : Around} {E : Value → Shared → Prop} {R : Result → Shared → Prop} {h : Heap} {g : Array GenState} {d : Drawn} {t : Nat} {os : OsState}
variable {nm q : Str} {C N : Addr} {bs bm bmB : List Value} {hdct : Bool} {sn : List Str} {sub : List Value} {ab : Bool} {col : Option Bool} {dd : Option Addr} {k0 k1 k2 k3 k5 : Option Value} {B BN newId initId : String}
end
end XF
namespace DG
open PySem PySem.Spec PyProof.Rows L2 XF
/-- an own class over such a one -/
structure Ox (K : PySem.W.Frag) (C : Addr) (B initId BN newId : String) (bmB : List Value) : Prop where
  bx : Bx B initId BN newId bmB
  xi : PySem.W.excInitIn K C bmB newId = true
  xo : PySem.W.excOver K C bmB = true
  hd : PySem.W.hasDictIn K C = true
  sa : PySem.W.findIn K (.ref C) "__setattr__" = some (some (.builtin "object.__setattr__"))
  exC : PySem.W.subIn K (.ref C) (.type "BaseException") = some true
  tyC : PySem.W.typeIn K (.ref C) = some (.type "type")
  kC : PySem.W.keepIn K (.ref C) = true
section
open PySem.W PySem.Calls PySem.HandSPX Builtin Builtin.ObjectAttr
variable {prog : Program} {w : World} {A : Around} {R : Result → Shared → Prop} {hp : Heap} {g : Array GenState} {d : Drawn} {t : Nat} {os : OsState} {B initId BN newId : String} {bmB : List Value}
end
section
variable {X : Cx} {pins : List (Addr × Obj)} {σ : L2.St} {H : Hp} {s : Shared} {a C dx : Addr} {f : Str} {y : V} {u : Value} {Q : Unit → Shared → Prop} {E : Value → Shared → Prop} {A : Around} {B initId BN newId : String} {bmB : List Value}
end
section
variable {X : Cx} {o e : Expr} {es : List Expr} {to te : TE} {ta : TA} {f : Str} {p p' p1 p2 pos : Pos} {B initId BN newId : String} {bmB : List Value} {BS : Str}
end
section
variable {X : Cx} {e : Expr} {es : List Expr} {ta : TA} {p pos : Pos} {B initId BN newId : String} {bmB : List Value}
end
/-! ### the two kinds of such an __init__ -/
/-- self, y: y is kept under the name g -/
def spX1 (K : PySem.W.Frag) (B initId BN newId : String) (bmB : List Value) (g : Str) : Sp := fun vs H Q _ => ∃ (a C : Addr) (v : V), vs = [.ref a, v] ∧ Ox K C B initId BN newId bmB ∧ PySem.W.takerIn K C g = some none ∧ H a = some (exo a C none) ∧
  ∀ dx, H dx = none → dx ≠ a → Q .non (upd (upd H dx (exd dx [(g, v)])) a (exo a C (some dx)))
def spX0 (K : PySem.W.Frag) (B initId BN newId : String) (bmB : List Value) : Sp := fun vs H Q _ => ∃ (a C : Addr), vs = [.ref a] ∧ Ox K C B initId BN newId bmB ∧ H a = some (exo a C none) ∧ Q .non H
section
variable {P : Program} {w : World} {K : PySem.W.Frag} {mg : Str → Option Value} {base : Heap} {B initId BN newId : String} {bmB : List Value} {BS x y g qual : Str} {st : Stmt} {f : Addr} {fd : FuncData}
end
end DG

/-! try / except: what was caught is known from then on. -/
namespace DG
open PySem PySem.Spec PyProof.Rows L2
section
variable {X : Cx} {pins : List (Addr × Obj)} {σ : L2.St} {H : Hp} {s : Shared} {a : Addr} {o : HO}
end
/-- one clause: what its test tells of a class, the name's slot, its suite -/
structure HX where
  mt : Value → Option Bool
  i : Option Nat
  ts : Addr → Value → Option Addr → TS
/-- the test of a clause -/
def TestX (X : Cx) (te : Expr) (mt : Value → Option Bool) : Prop := ∀ (a : Addr) (oe : Obj) (pn : List (Addr × Obj)) (σ : L2.St) (H : Hp) (s : Shared) (Q : Bool → Shared → Prop) (E : Value → Shared → Prop) (b : Bool) (cls : Value), Inv (X.suite a ((a, oe) :: pn)) [] σ H s →
  PySem.W.Looks (model X.prog X.w) s.heap (typeOf (.ref a)) cls → mt cls = some b → (∀ h', s.heap.StaysIn h' → Q b { s with heap := h' }) →
  wpAny (model X.prog X.w) (X.A.mark (some (.ref a))) (eval te X.env) (fun c s₁ => wpAny (model X.prog X.w) (X.A.mark (some (.ref a))) (excMatches (.ref a) c) Q E s₁) E s
section
variable {X : Cx}
theorem Names.suite {x : Str} {c : Value} {a : Addr} {pn : List (Addr × Obj)} (h : Names X x c) : Names (X.suite a pn) x c := h
end
/-- the clauses -/
inductive HdX (X : Cx) : List ExceptHandler → List HX → Prop
  | nil : HdX X [] []
  | only {te : Expr} {mt : Value → Option Bool} {ts : Addr → Value → Option Addr → TS} {b₀ : Stmt} {suite : List Stmt} {pos' : Pos} {hds : List ExceptHandler} {l : List HX} (ht : TestX X te mt)
      (hsu : ∀ (a : Addr) (oe : Obj) (cls : Value) (d : Option Addr) (pn : List (Addr × Obj)), Zc cls d oe → (∃ vs, oe.data = .fields vs) → PSs (X.suite a ((a, oe) :: pn)) (b₀ :: suite) (ts a cls d)) (r : HdX X hds l) :
      HdX X (.ExceptHandler (some te) none (b₀ :: suite) pos' :: hds) (⟨mt, none, ts⟩ :: l)
  | as {te : Expr} {mt : Value → Option Bool} {ts : Addr → Value → Option Addr → TS} {n : Str} {i : Nat} {b₀ : Stmt} {suite : List Stmt} {pos' : Pos} {hds : List ExceptHandler} {l : List HX} (hi : X.N[i]? = some n) (hln : X.env.kindOf n = some .local) (ht : TestX X te mt)
      (hsu : ∀ (a : Addr) (oe : Obj) (cls : Value) (d : Option Addr) (pn : List (Addr × Obj)), Zc cls d oe → (∃ vs, oe.data = .fields vs) → PSs (X.suite a ((a, oe) :: pn)) (b₀ :: suite) (ts a cls d)) (r : HdX X hds l) :
      HdX X (.ExceptHandler (some te) (some n) (b₀ :: suite) pos' :: hds) (⟨mt, some i, ts⟩ :: l)
section
variable {X : Cx} {body : List Stmt} {h₀ : ExceptHandler} {hds : List ExceptHandler} {l : List HX} {pos : Pos} {tb : WX → TS} {Wout : WX}
end
end DG

/-! Data: statements that may raise, defs that may, try. -/
namespace DG
open PySem PySem.Spec PyProof.Rows L2
section
variable {X : Cx} {CX : CXT} {k : Nat} {f C : Addr} {fd : FuncData} {ps : List Str} {sp : Sp} {E : L2.St → XK} {x m : Str} {p pos apos : Pos} {e o : Expr} {es : List Expr} {ta : TE} {t : TA}
end
end DG
namespace DL
open PySem PySem.Spec PyProof.Rows L2
abbrev DX := Nat → Option Addr → DSt → Store → Prop
section
variable [CT] {K : PySem.W.Frag} {I I' F : Hp}
def SeesW (K : PySem.W.Frag) (I F : Hp) (xc : DX) (W : WX) : Prop := ∀ n d ρ S' σ I' H', xc n d ρ S' → Same I I' → Ok K I' S' F H' → RepS K I' ρ σ → W (.ref (CT.at_ n)) d σ H'
theorem SeesW.mono {xc : DX} {W : WX} (h : SeesW K I F xc W) (e : Same I I') : SeesW K I' F xc W := fun n d ρ S' σ I2 H' q e2 => h n d ρ S' σ I2 H' q (e.trans e2)
theorem SeesW.no {W : WX} : SeesW K I F (fun _ _ _ _ => False) W := fun _ _ _ _ _ _ _ h => h.elim
end
section
variable [CT]
variable {X : Cx} {W : WX} {pos : Pos} {st : Stmt} {sts : List Stmt} {t u : DS} {e : Expr} {de : DE} {dc : DT}
/-- the class number n, called x, is made of one thing, kept as g -/
structure Mk1 (P : Program) (w : World) (K : PySem.W.Frag) (mg : Str → Option Value) (base : Heap) (n : Nat) (x g : Str) : Prop where
  m : mg x = some (.ref (CT.at_ n))
  ex : ∃ B initId BN newId bmB f fd y, DG.Ox K (CT.at_ n) B initId BN newId bmB ∧ PySem.W.findIn K (.ref (CT.at_ n)) "__init__" = some (some (.ref f)) ∧ PySem.W.typeIn K (.ref f) = some (.type "function") ∧
    DG.FnG P w K mg base CX0 1 f fd ["self", y] (DG.spX1 K B initId BN newId bmB g) ∧ Binds K fd ["self", y] [] ∧ PySem.W.takerIn K (CT.at_ n) g = some none
structure Mk0 (P : Program) (w : World) (K : PySem.W.Frag) (mg : Str → Option Value) (base : Heap) (n : Nat) (x : Str) : Prop where
  m : mg x = some (.ref (CT.at_ n))
  ex : ∃ B initId BN newId bmB f fd, DG.Ox K (CT.at_ n) B initId BN newId bmB ∧ PySem.W.findIn K (.ref (CT.at_ n)) "__init__" = some (some (.ref f)) ∧ PySem.W.typeIn K (.ref f) = some (.type "function") ∧
    DG.FnG P w K mg base CX0 1 f fd ["self"] (DG.spX0 K B initId BN newId bmB) ∧ Binds K fd ["self"] []
end
/-! ### defs that may raise -/
abbrev DPX := Nat → Option Addr → Store → Prop
abbrev DSpX := List D → Store → (D → Store → Prop) → DPX → Prop
section
variable [CT]
def SeesE (K : PySem.W.Frag) (I F : Hp) (px : DPX) (E : XK) : Prop := ∀ n d S' I' H', px n d S' → Same I I' → Ok K I' S' F H' → E (.ref (CT.at_ n)) d H'
def upSpX (K : PySem.W.Frag) (d : DSpX) : Sp := fun vs H Q E => ∃ ds I S F P px, RepL K I ds vs ∧ Ok K I S F H ∧ d ds S P px ∧ Sees K I F P Q ∧ SeesE K I F px E
abbrev FnX (P : Program) (w : World) (K : PySem.W.Frag) (mg : Str → Option Value) (base : Heap) (k : Nat) (f : Addr) (fd : FuncData) (ps : List Str) (sp : DSpX) : Prop := DG.FnG P w K mg base (L2.CX P w) k f fd ps (upSpX K sp)
/-! ### calls of such -/
abbrev DEX := DSt → Store → (D → Store → Prop) → DPX → Prop
structure DoesX (P : Program) (w : World) (K : PySem.W.Frag) (mg : Str → Option Value) (base : Heap) (k : Nat) (x : Str) (ps : List Str) (f : Addr) (fd : FuncData) (sp : DSpX) : Prop where
  g : mg x = some (.ref f)
  kp : PySem.W.keepIn K (.ref f) = true
  b : Binds K fd ps []
  ok : FnX P w K mg base k f fd ps sp
structure DoesMX (P : Program) (w : World) (K : PySem.W.Frag) (mg : Str → Option Value) (base : Heap) (k : Nat) (c : Nat) (m : Str) (ps : List Str) (f : Addr) (fd : FuncData) (sp : DSpX) : Prop where
  cl : Cls K (CT.at_ c)
  mt : Meth K (CT.at_ c) m f
  b : Binds K fd ps []
  ok : FnX P w K mg base k f fd ps sp
variable {X : Cx} {W : WX} {pos apos p : Pos} {e o a : Expr} {es : List Expr} {da : DE} {ds : DA} {k j c : Nat} {x m : Str} {ps : List Str} {f : Addr} {fd : FuncData} {sp : DSpX} {de : DEX}
/-! ### try -/
/-- a clause: the classes it takes, its name's slot, its suite by the exception's place and its dict's -/
structure HD where
  ms : List Nat
  i : Option Nat
  su : Addr → Option Addr → DS
inductive HdD (X : Cx) (ns : List Nat) : List ExceptHandler → List HD → Prop
  | nil : HdD X ns [] []
  | only {te : Expr} {mt : Value → Option Bool} {ms : List Nat} {su : DS} {b₀ : Stmt} {suite : List Stmt} {pos' : Pos} {hds : List ExceptHandler} {l : List HD} (ht : DG.TestX X te mt) (hm : ∀ n, n ∈ ns → mt (.ref (CT.at_ n)) = some (decide (n ∈ ms)))
      (hsu : ∀ (a : Addr) (oe : Obj) (pn : List (Addr × Obj)), JSs (X.suite a ((a, oe) :: pn)) (b₀ :: suite) su) (r : HdD X ns hds l) :
      HdD X ns (.ExceptHandler (some te) none (b₀ :: suite) pos' :: hds) (⟨ms, none, fun _ _ => su⟩ :: l)
  | as {te : Expr} {mt : Value → Option Bool} {ms : List Nat} {su : Addr → Option Addr → DS} {nm : Str} {i : Nat} {b₀ : Stmt} {suite : List Stmt} {pos' : Pos} {hds : List ExceptHandler} {l : List HD} (hi : X.N[i]? = some nm) (hln : X.env.kindOf nm = some .local)
      (ht : DG.TestX X te mt) (hm : ∀ n, n ∈ ns → mt (.ref (CT.at_ n)) = some (decide (n ∈ ms)))
      (hsu : ∀ (a : Addr) (oe : Obj) (n : Nat) (d : Option Addr) (pn : List (Addr × Obj)), n ∈ ns → Zc (.ref (CT.at_ n)) d oe → (∃ vs, oe.data = .fields vs) → JSs (X.suite a ((a, oe) :: pn)) (b₀ :: suite) (su a d)) (r : HdD X ns hds l) :
      HdD X ns (.ExceptHandler (some te) (some nm) (b₀ :: suite) pos' :: hds) (⟨ms, some i, su⟩ :: l)
end
end DL

/-! What is asked of caught errors: their fields, isinstance. -/
namespace DL
open PySem PySem.Spec PyProof.Rows L2
/-- what the written part says of an own exception class -/
structure XkC (K : PySem.W.Frag) (C : Addr) : Prop where
  f : XfC K C
  cl : (PySem.W.clsIn K C).isSome = true
  ha : PySem.W.findIn K (.ref C) "__class__" = some (some (.builtin "object.__class__"))
  hn : PySem.W.specialIn K (.builtin "object.__class__") "__get__" = some (some (.builtin "getset_descriptor.__get__"))
  ht : PySem.W.takesIn K (.builtin "object.__class__") = some true
  hm : PySem.W.mroIn K C (.type "object") = some true
section
variable [CT] {X : Cx}
structure IxC (K : PySem.W.Frag) (u : Value) (tab : List (Nat × Bool)) : Prop where
  n : PySem.W.kitOne K (.type "NoneType") u = some false
  t : ∀ n b, tab.lookup n = some b → PySem.W.kitOne K (.ref (CT.at_ n)) u = some b ∧ XkC K (CT.at_ n)
end
section
variable [CT] {K : PySem.W.Frag} {u : Value} {tab : List (Nat × Bool)}
end
end DL


/-! Sets of keys: set comprehensions, set(list of texts), how many there are. -/
namespace L2
open PySem PySem.Spec PyProof.Rows PpSet
section
variable {κ : Type} [DecidableEq κ] {l : List κ} {k z : κ}
end
/-! ### set(list of texts) -/
section
variable {prog : Program} {w : World} {A : Around} {Rs : Result → Shared → Prop} {it : Addr} {fq fw : List Addr} {Gs : Array GenState → Array GenState → Prop} {n : Nat} {P : Nat → Value → Prop} {Sts : Nat → Shared → Prop}
end
section
variable {prog : Program} {w : World} {A : Around} {E0 : Value → Shared → Prop} {s : Shared}
set_option maxHeartbeats 8000000 in
end
section
variable {X : Cx}
end
section
variable {X : Cx}
end
end L2

namespace DL
open PySem PySem.Spec PyProof.Rows L2
section
variable {X : Cx} {pos p p2 q : Pos} {a : Expr} {da : DE}
end
section
variable {X : Cx} {K : PySem.W.Frag} {a o : Expr} {pos p apos ip : Pos} {ds : DA} {da db d : DE}
open Classical in
end
end DL

/-! A list gives its last. -/
namespace DL
open PySem PySem.Spec PyProof.Rows L2
def dPop (a : DE) : DE := fun ρ S P => a ρ S fun x S1 => match x with
  | .obj l => (match S1 l with
    | some (.lst ds) => ∃ d, ds[ds.length - 1]? = some d ∧ P d (supd S1 l (.lst ds.dropLast))
    | _ => False)
  | _ => False
section
variable {X : Cx} {K : PySem.W.Frag} {a o : Expr} {pos p apos ip : Pos} {ds : DA} {da db d : DE}
theorem je_pop (ha : JE X o da) (hbase : attributeBase o "pop" X.env (eval o X.env) = eval o X.env := by rfl)
    (hline : (apos.endLine == pos.line) = true := by rfl) : JE X (.Call (.Attribute o "pop" apos) [] [] pos) (dPop da) :=
  je_of (pe_bm0 PySem.F.plainAttrs_list PySem.F.slot_list_pop PySem.F.type_list_pop mt_pop ha hbase hline) fun σ H Q h0_ => El54 h0_ fun ρ I S F P rs ok hh q =>
    ⟨ρ, I, S, F, _, rs, ok, hh, fun x S1 v I1 H1 h1 e1 ok1 r1 => by
      split at h1
      · rename_i l
        split at h1
        · rename_i ds e2
          obtain ⟨_, ys, q2, rl⟩ := ok1.s l _ e2
          cases r1.obj_of
          obtain ⟨d, hd, h2⟩ := h1
          obtain ⟨v, hv, rv⟩ := rl.get hd
          have hl := rl.len
          have rt := rl.take (ds.length - 1)
          rw [← List.dropLast_eq_take] at rt
          rw [← hl, ← List.dropLast_eq_take] at rt
          refine ⟨.inl ⟨rfl, ys, .of q2⟩, l, ys, v, rfl, rfl, q2, by rw [hl]; exact hv, q _ _ _ _ _ h2 e1 (ok1.writeL e2 rt) rv⟩
        · exact h1.elim
      · exact h1.elim⟩
end
end DL

/-! Targets that are places of dicts, alone or among others: a, d[k] = x, y. -/
namespace DL
open PySem PySem.Spec PyProof.Rows L2
/-- a target, as data -/
abbrev DG1 := D → DSt → Store → (DSt → Store → Prop) → Prop
section
variable {X : Cx} {a b o i e tg : Expr} {pos pos' : Pos} {dd dk de : DE} {t u : DG1} {n : Nat}
end
end DL

/-! min of a list of pairs of a number and a list of texts: one whose number is least. -/
namespace DL
open PySem PySem.Spec PyProof.Rows L2
section
variable {X : Cx}
end
section
variable {K : PySem.W.Frag}
end
section
variable {X : Cx} {pos p : Pos} {a : Expr} {ds : DA}
end
end DL

/-! d != e of two dicts that are alike. -/
namespace DL
open PySem PySem.Spec PyProof.Rows L2
section
variable {X : Cx}
end
section
variable {X : Cx} {pos : Pos} {a b : Expr} {da db : DE}
end
end DL

/-! isinstance of a caught one by several own classes at once. -/
namespace DL
open PySem PySem.Spec PyProof.Rows L2
section
variable [CT] {X : Cx}
end
end DL

/-! try: suite / finally: suite, where nothing raises. -/
namespace DL
open PySem PySem.Spec PyProof.Rows L2
/-! ### == and != of own instances -/
section
open PySem.W
variable {prog : Program} {w : World} {A : Around} {E : Value → Shared → Prop} {s : Shared} {K : PySem.W.Frag} {x C f L : Addr} {h₀ : Heap} {m : Str → Option Value} {ox : Obj} {od : Option Obj}
end
section
variable [CT] {X : Cx}
variable {pos : Pos} {a b : Expr} {da db : DE} {c k j : Nat} {ps : List Str} {f : Addr} {fd : FuncData} {sp : DSp}
end
/-! ### isinstance(o, C), of the class C itself -/
structure IsiC (K : PySem.W.Frag) (C : Addr) : Prop where
  ha : PySem.W.findIn K (.ref C) "__class__" = some (some (.builtin "object.__class__"))
  hn : PySem.W.specialIn K (.builtin "object.__class__") "__get__" = some (some (.builtin "getset_descriptor.__get__"))
  ht : PySem.W.takesIn K (.builtin "object.__class__") = some true
  hm : PySem.W.mroIn K C (.type "object") = some true
section
variable [CT] {X : Cx}
end
end DL

/-! sorted(..) of texts, alike ones too. -/
namespace DL
open PySem PySem.Spec PyProof.Rows L2
section
variable {X : Cx} {K : PySem.W.Frag} {a e : Expr} {pos p : Pos} {ds : DA} {d : DE}
end
/-! ### o.m(k = v, ..) -/
section
variable [CT] {X : Cx} {o : Expr} {c : Nat} {m : Str} {pos apos : Pos} {da : DE} {dk : DA} {k j : Nat} {ps ks : List Str} {f : Addr} {fd : FuncData} {sp : DSp} {perm : List Nat} {kws : List Keyword}
end
end DL

/-! A text, walked sign by sign. -/
namespace DL
open PySem PySem.Spec PyProof.Rows L2
section
variable {X : Cx} {K : PySem.W.Frag} {tg a e : Expr} {pos p : Pos} {da : DE}
end
end DL

/-! sorted(d, reverse=b) of a dict of few texts: its keys in some order. -/
namespace DL
open PySem PySem.Spec PyProof.Rows L2
section
variable {X : Cx}
end
section
variable [CT] {X : Cx}
variable {pos : Pos} {a b : Expr} {da db : DE} {c k j : Nat} {ps : List Str} {f : Addr} {fd : FuncData} {sp : DSp}
end
end DL

/-! list(d.items()); x or y of numbers and None. -/
namespace DL
open PySem PySem.Spec PyProof.Rows L2
section
variable {X : Cx} {K : PySem.W.Frag} {a b e o : Expr} {rest : List Expr} {pos p apos ip : Pos} {da db d : DE}
open Classical in
end
end DL

/-! d | e of dicts. -/
namespace DL
open PySem PySem.Spec PyProof.Rows L2
section
variable {prog : Program} {w : World} {K : Type} [DecidableEq K]
end
section
variable {X : Cx} {K : PySem.W.Frag}
variable {a b : Expr} {pos : Pos} {da db : DE}
end
end DL

/-! d |= e of dicts. -/
namespace DL
open PySem PySem.Spec PyProof.Rows L2
section
variable {prog : Program} {w : World} {K : Type} [DecidableEq K]
end
section
variable {X : Cx} {K : PySem.W.Frag}
variable {e : Expr} {pos : Pos} {de : DE}
end
end DL

/-! tuple * int, 0 and 1 too. -/
namespace L2
open PySem PySem.Spec PyProof.Rows
section
variable {X : Cx}
end
end L2
namespace DL
open PySem PySem.Spec PyProof.Rows L2
section
variable {X : Cx} {pos : Pos} {a b : Expr} {da db : DE}
end
end DL

/-! text > text -/
namespace DL
open PySem PySem.Spec PyProof.Rows L2
section
variable {X : Cx} {pos : Pos} {a b : Expr} {da db : DE}
end
end DL

/-! Dicts whose keys are tuples made in the run. -/
namespace DL
open PySem PySem.Spec PyProof.Rows L2
mutual
def weakD : D → D
  | .tq ds => .tup (weakL ds)
  | .tup ds => .tup (weakL ds)
  | x => x
def weakL : List D → List D
  | [] => []
  | d :: ds => weakD d :: weakL ds
end
theorem weakD_int (i : Int) : weakD (.int i) = .int i := by unfold weakD; rfl
theorem weakD_str (i : Str) : weakD (.str i) = .str i := by unfold weakD; rfl
theorem weakD_non : weakD .non = .non := by unfold weakD; rfl
theorem weakD_bl (b : Bool) : weakD (.bl b) = .bl b := by unfold weakD; rfl
theorem weakD_obj (b : Addr) : weakD (.obj b) = .obj b := by unfold weakD; rfl
theorem weakD_lst (b : List D) : weakD (.lst b) = .lst b := by unfold weakD; rfl
theorem weakD_tq (ds : List D) : weakD (.tq ds) = .tup (weakL ds) := by rw [weakD]
theorem weakD_tup (ds : List D) : weakD (.tup ds) = .tup (weakL ds) := by rw [weakD]
theorem weakL_nil : weakL [] = [] := by rw [weakL]
theorem weakL_cons (d : D) (ds : List D) : weakL (d :: ds) = weakD d :: weakL ds := by rw [weakL]
theorem weakL_map {α : Type} {f : α → D} (h : ∀ a, weakD (f a) = f a) : ∀ l : List α, weakL (l.map f) = l.map f
  | [] => weakL_nil
  | a :: l => by rw [List.map_cons, weakL_cons, h, weakL_map h l]
theorem weakL_ints (l : List Int) : weakL (l.map .int) = l.map .int := weakL_map weakD_int l
mutual
theorem rep_weakD {K : PySem.W.Frag} {I : Hp} : ∀ (x : D) (v : V), Rep K I x v → Rep K I (weakD x) v
  | .tq ds, v, r => by
    obtain ⟨a, xs, rfl, h, rl⟩ := r.tq_of
    rw [weakD_tq]
    simp only [Rep]
    exact ⟨a, xs, rfl, .inl h, rep_weakL ds xs rl⟩
  | .tup ds, v, r => by
    obtain ⟨a, xs, rfl, h, rl⟩ := r.tup_of
    rw [weakD_tup]
    simp only [Rep]
    exact ⟨a, xs, rfl, h, rep_weakL ds xs rl⟩
  | .non, v, r => by rw [weakD_non]; exact r
  | .bl _, v, r => by rw [weakD_bl]; exact r
  | .int _, v, r => by rw [weakD_int]; exact r
  | .str _, v, r => by rw [weakD_str]; exact r
  | .obj _, v, r => by rw [weakD_obj]; exact r
  | .lst _, v, r => by rw [weakD_lst]; exact r
  | .ty _, v, r => by unfold weakD; exact r
  | .ext _, v, r => by unfold weakD; exact r
theorem rep_weakL {K : PySem.W.Frag} {I : Hp} : ∀ (ds : List D) (vs : List V), RepL K I ds vs → RepL K I (weakL ds) vs
  | [], vs, r => by rw [weakL_nil]; exact r
  | d :: ds, vs, r => by
    simp only [RepL] at r
    obtain ⟨v, w, rfl, h1, h2⟩ := r
    rw [weakL_cons]
    simp only [RepL]
    exact ⟨v, w, rfl, rep_weakD d v h1, rep_weakL ds w h2⟩
end
/-- a tuple, wherever it came from -/
def dWk (d : DE) : DE := fun ρ S P => d ρ S fun x S1 => P (weakD x) S1
def dTupQ (a : DA) : DE := fun ρ S P => a ρ S fun xs S1 => xs.length ≤ 100000 ∧ P (.tq xs) S1
/-- tuple(a list) -/
def cTupleQ : DC := fun xs S P => match xs with
  | [x] => match lstOf S x with
    | some ds => P (.tq ds) S
    | none => False
  | _ => False
section
variable {X : Cx} {pos : Pos} {e : Expr} {d : DE} {es : List Expr} {ds : DA}
end
/-! ### keys -/
def tkOf : D → Option (List Key)
  | .tq ds => keysOf ds
  | _ => none
section
variable {K : PySem.W.Frag} {I I' F H : Hp} {S : Store}
def tctOf (S : Store) : D → Option (List (List Key × D))
  | .obj a => match S a with
    | some (.dT kvs) => some kvs
    | some (.dU _ _ kvs) => some kvs
    | _ => none
  | _ => none
end
/-! ### d[k], k in d, d[k] = x -/
def dTGet : D2 := fun x y S P => match tctOf S x, tkOf y with
  | some kvs, some k => (match dVal kvs k with
    | some d => P d S
    | none => False)
  | _, _ => False
def dTIn (neg : Bool) : D2 := fun y x S P => match tctOf S x, tkOf y with
  | some kvs, some k => P (.bl (if neg then !(dVal kvs k).isSome else (dVal kvs k).isSome)) S
  | _, _ => False
def dTPut (dd dk dv : DE) : DS := fun DD ρ S => dv ρ S fun z S1 => dd ρ S1 fun x S2 => dk ρ S2 fun y S3 => ∃ a kvs k, x = .obj a ∧ S3 a = some (.dT kvs) ∧ tkOf y = some k ∧ kvs.length < 100000 ∧ DD.nx ρ (supd S3 a (.dT (dPut kvs k z)))
section
variable {X : Cx} {pos pos' apos cpos : Pos} {o i e f value : Expr} {dd dk dv dx : DE} {n : Nat}
end
/-! ### {}, {k: v}, len(d), list(d) -/
def dTNew : DE := fun _ S P => ∀ p, S p = none → P (.obj p) (supd S p (.dT []))
def dTOne (dk dv : DE) : DE := fun ρ S P => dk ρ S fun x S1 => dv ρ S1 fun y S2 => ∃ k, tkOf x = some k ∧ ∀ p, S2 p = none → P (.obj p) (supd S2 p (.dT [(k, y)]))
section
variable {X : Cx} {pos : Pos} {ke ve : Expr} {dk dv : DE} {n : Nat}
end
def dFrzT (d : DE) : DE := fun ρ S P => d ρ S fun x S1 => ∃ a kvs, x = .obj a ∧ ((S1 a = some (.dT kvs) ∧ ∀ o vs, P (.obj a) (supd S1 a (.dU o vs kvs))) ∨ ((∃ o vs, S1 a = some (.dU o vs kvs)) ∧ P (.obj a) S1))
/-- its keys, its pairs -/
def tkD (k : List Key) : D := .tq (k.map kD)
def dTKeys (d : DE) : DI := fun ρ S P => d ρ S fun x S1 => ∃ a o vs kvs, x = .obj a ∧ S1 a = some (.dU o vs kvs) ∧ P (kvs.map fun kv => tkD kv.1) (some fun S => S a = some (.dU o vs kvs)) S1
def dTItems (d : DE) : DI := fun ρ S P => d ρ S fun x S1 => ∃ a o vs kvs, x = .obj a ∧ S1 a = some (.dU o vs kvs) ∧ P (kvs.map fun kv => .tup [tkD kv.1, kv.2]) (some fun S => S a = some (.dU o vs kvs)) S1
/-- the same, keys as plain tuples (to be unpacked) -/
def tuD (k : List Key) : D := .tup (k.map kD)
def dTKeysU (d : DE) : DI := fun ρ S P => d ρ S fun x S1 => ∃ a o vs kvs, x = .obj a ∧ S1 a = some (.dU o vs kvs) ∧ P (kvs.map fun kv => tuD kv.1) (some fun S => S a = some (.dU o vs kvs)) S1
def dTItemsU (d : DE) : DI := fun ρ S P => d ρ S fun x S1 => ∃ a o vs kvs, x = .obj a ∧ S1 a = some (.dU o vs kvs) ∧ P (kvs.map fun kv => .tup [tuD kv.1, kv.2]) (some fun S => S a = some (.dU o vs kvs)) S1
section
variable {P : Program} {w : World} {K : PySem.W.Frag} {d : Addr} {o : Obj} {es : Array DictEntry} {ep : Nat}
end
section
variable {X : Cx} {tg e : Expr} {td : TE} {apos cpos : Pos}
end
section
variable {X : Cx} {tg e : Expr} {d : DE} {apos cpos : Pos}
end
/-- len(d) -/
def cLenT : DC := fun xs S P => match xs with
  | [.obj a] => match S a with
    | some (.dT kvs) => P (.int kvs.length) S
    | _ => False
  | _ => False
/-- list(d): its keys -/
def cListT : DC := fun xs S P => match xs with
  | [x] => match tctOf S x with
    | some kvs => P (.lst (kvs.map fun kv => tkD kv.1)) S
    | none => False
  | _ => False
section
variable {X : Cx} {a : Expr} {p pos : Pos} {ds : DA}
end
end DL

/-! repr of a list that may change; sorted(d) as such. -/
namespace DL
open PySem PySem.Spec PyProof.Rows L2
/-- sorted(d), ints as keys, as a list that may change -/
def cSortDBM : DC := fun xs S P => match xs with
  | [x] => (match dctOf S x with
    | some kvs => ∃ ks : List Int, kvs.map (·.1) = ks.map Sum.inl ∧ ∀ ys : List Int, ys.Perm ks → ys.Pairwise (· ≤ ·) → ∀ p, S p = none → P (.obj p) (supd S p (.lst (ys.map .int)))
    | none => False)
  | _ => False
section
variable {X : Cx} {K : PySem.W.Frag} {a : Expr} {pos p : Pos} {ds : DA}
theorem i_sortDBM : ImpC K (fun xs H Q => ∃ (a : Addr) (kvs : List (Key × V)) (ks : List Int), xs = [.ref a] ∧ Rd H a (.dK kvs) ∧ kvs.map (·.1) = ks.map Sum.inl ∧ ∀ (ys : List Int) (p : Addr), ys.Perm ks → ys.Pairwise (· ≤ ·) → H p = none → Q (.ref p) (upd H p (.lst (ys.map V.int)))) cSortDBM := by
  intro xs vs I S F H P Q ok r h q
  match xs, h with
  | [x], h =>
    obtain ⟨v, rfl, rv⟩ := r.inv1
    unfold cSortDBM at h
    simp only at h
    split at h
    · rename_i kvs e
      obtain ⟨ks, hk, h⟩ := h
      obtain ⟨a, ws, rfl, hd, rf⟩ := dct_rd ok rv e
      exact ⟨a, ws, ks, rfl, hd, by rw [rf.keysK]; exact hk, fun ys p h1 h2 hp => q _ _ _ _ _ (h ys h1 h2 p (ok.freshS hp)) (Same.refl I) (ok.newM hp (rep_ints ys)) (by simp only [Rep])⟩
    · exact h.elim
theorem je_sortDBM (hm : X.mg "sorted" = none) (hc : X.calm = true) (ha : JA X [a] ds) (hg : Gl X "sorted" := by rfl) (hs : starEach [a] X.env = [(false, eval a X.env)] := by rfl) : JE X (.Call (.Name "sorted" p) [a] [] pos) (dCB cSortDBM ds) := je_callB (call_sortedDB hc) i_sortDBM hg hm b_sorted ha (hs := hs) (hpl := by rfl)
end
/-- what stands there -/
def shwO (S : Store) : D → D
  | .obj l => match S l with
    | some (.lst ds) => .lst ds
    | _ => .obj l
  | x => x
def cReprO : DC := fun xs S P => match xs with
  | [x] => Rpd 40 16000000 (shwO S x) ∧ P (.str (shownD (shwO S x))) S
  | _ => False
def rReprO (K : PySem.W.Frag) : List V → Hp → VK → Prop := fun xs H Q => ∃ (x : D) (v : V) (I : Hp) (S : Store) (F : Hp) (p : PyData), xs = [v] ∧ Ok K I S F H ∧ Rep K I x v ∧ Rp 40 16000000 (shwO S x) p ∧ Q (.str p.shown) H
theorem i_reprO {K : PySem.W.Frag} : ImpC K (rReprO K) cReprO := by
  intro xs vs I S F H P Q ok r h q
  unfold cReprO at h
  split at h
  · rename_i x
    obtain ⟨v, rfl, rv⟩ := r.inv1
    obtain ⟨⟨p, hp⟩, h⟩ := h
    unfold shownD at h
    rw [hp.e] at h
    exact ⟨_, v, I, S, F, p, rfl, ok, rv, hp, q _ _ _ _ _ h (Same.refl I) ok (by simp only [Rep])⟩
  · exact h.elim
theorem reads_O {X : Cx} {pins : List (Addr × Obj)} {σ : L2.St} {H I F : Hp} {S : Store} {s : Shared} (J : Inv X pins σ H s) (ok : Ok X.K I S F H) {x : D} {v : V} {u : Value} {p : PyData} (r : Rep X.K I x v) (rv : RelV v u) (h : pyD (shwO S x) = some p) : ∃ as, Reads s.heap u p as := by
  by_cases c : ∃ l ds, x = .obj l ∧ S l = some (.lst ds)
  · obtain ⟨l, ds, rfl, e⟩ := c
    unfold shwO at h
    simp only [e] at h
    simp only [pyD, Option.map_eq_some_iff] at h
    obtain ⟨ps, h, rfl⟩ := h
    obtain ⟨_, xs, eH, rl⟩ := ok.s l _ e
    cases r.obj_of
    cases rv
    obtain ⟨its, q, ⟨o, n, e1, e2, _, e3⟩, _⟩ := J.list (.of eH)
    obtain ⟨as, ra⟩ := reads_ofL J ok ds xs its ps rl q h
    exact ⟨_, .list e1 e2 e3 (by simpa using ra)⟩
  · have : shwO S x = x := by
      cases x with
      | obj l =>
        cases e : S l with
        | none => simp only [shwO, e]
        | some m =>
          cases m with
          | lst ds => exact absurd ⟨l, ds, rfl, e⟩ c
          | _ => simp only [shwO, e]
      | _ => rfl
    rw [this] at h
    exact reads_of J ok x v u p r rv h
theorem call_reprO {X : Cx} {k : Nat} (hr : DG.RoomG k X.A) : CallR X (.builtin "repr") (rReprO X.K) := by
  intro pins s σ H xs us Q J r h
  obtain ⟨x, v, I, S, F, p, rfl, ok, rx, hp, q⟩ := h
  obtain ⟨u, rfl, rv⟩ := vals1 r
  obtain ⟨as, ra⟩ := reads_O J ok rx rv hp.e
  have hz : p.shown.length ≤ sizeLine := Nat.le_trans hp.c (by decide)
  have fin : ∀ t tk h', (∀ b o, s.heap.get? b = some o → h'.get? b = some o) → EP X pins σ Q (.str p.shown t) { s with heap := h', toks := tk } := fun t tk h' hk => ⟨.str p.shown, H, J.kept (t' := tk) hk, ⟨t, rfl⟩, q⟩
  have hd := hp.d
  cases ra with
  | none => exact P.repr_of_none (fin _ _ _ fun _ _ e => e)
  | bool b => exact P.repr_of_bool (by cases b <;> exact fin _ _ _ fun _ _ e => e)
  | int i t => exact P.repr_of_int (by have := hp.s; simpa [PyData.showable] using this) (fin _ _ _ fun _ _ e => e)
  | str z t => exact P.repr_of_str (fin _ _ _ fun _ _ e => e) hz
  | list h1 h2 h3 h4 =>
    have := hr.r.units
    exact repr_of_reads' (.list h1 h2 h3 h4) hp.s (PyData.noDict_hsm (pyD_noDict _ _ hp.e)) hr.g (by omega) (fun _ _ e => e) (fun h' t tk hk => fin _ _ _ hk) hz
  | tuple h1 h2 h3 h4 =>
    have := hr.r.units
    exact repr_of_reads' (.tuple h1 h2 h3 h4) hp.s (PyData.noDict_hsm (pyD_noDict _ _ hp.e)) hr.g (by omega) (fun _ _ e => e) (fun h' t tk hk => fin _ _ _ hk) hz
  | dict h1 h2 h3 h4 h5 =>
    have := pyD_noDict _ _ hp.e
    simp [PyData.hasDict] at this
theorem je_reprO {X : Cx} {pos p : Pos} {a : Expr} {ds : DA} {k : Nat} (hr : DG.RoomG k X.A) (hm : X.mg "repr" = none) (ha : JA X [a] ds) (hg : Gl X "repr" := by rfl) (hs : starEach [a] X.env = [(false, eval a X.env)] := by rfl) : JE X (.Call (.Name "repr" p) [a] [] pos) (dCB cReprO ds) := je_callB (call_reprO hr) i_reprO hg hm b_repr ha (hs := hs) (hpl := by rfl)
end DL
namespace L2
open PySem PySem.Spec PyProof.Rows
/-- xs or y, of a list -/
def tOrL (K : PySem.W.Frag) (ta tb : TE) : TE := fun σ H Q => ta σ H fun x H1 => ∃ a xs, x = .ref a ∧ SqL K H1 a xs ∧ if xs = [] then tb σ H1 Q else Q x H1
theorem pe_orL {X : Cx} {a b : Expr} {rest : List Expr} {pos : Pos} {ta tb : TE} (ha : PE X a ta) (hb : PE X (.BoolOp .Or (b :: rest) pos) tb) : PE X (.BoolOp .Or (a :: b :: rest) pos) (tOrL X.K ta tb) := by
  refine ⟨fun pins s σ H Q I h => ?_⟩
  refine BoolOp_or (thn (ha.run pins s σ H _ I h) fun v s1 ⟨x, H1, I1, r1, q1⟩ => ?_)
  obtain ⟨l, xs, rfl, hl, q1⟩ := q1
  obtain rfl : v = Value.ref l := r1
  obtain ⟨its, q, ⟨o, n, e1, e2, e0, e3⟩, hz⟩ := I1.list hl
  have I2 : Inv X pins σ H1 { s1 with toks := s1.toks + 1 + 1 } := I1.kept (t' := s1.toks + 1 + 1) (h' := s1.heap) fun _ _ e => e
  have len : its.length = xs.length := q.length.symm
  refine wpAny_truthy_list (items := its.toArray) ⟨o, e1, e2, n, e3⟩ (by
    have h1 : sizeLine < 2 ^ 63 := by decide
    show (its.toArray.size : Int) < 2 ^ 63
    rw [List.size_toArray]
    omega) ?_
  cases xs with
  | nil =>
    have : its = [] := List.length_eq_zero_iff.mp len
    subst this
    rw [if_pos rfl] at q1
    exact hb.run pins _ σ H1 Q I2 q1
  | cons x xs =>
    cases its with
    | nil => simp at len
    | cons y ys =>
      rw [if_neg (by simp)] at q1
      exact ⟨.ref l, H1, I2, rfl, q1⟩
end L2
namespace DL
open PySem PySem.Spec PyProof.Rows L2
def dOrL (a b : DE) : DE := fun ρ S P => a ρ S fun x S1 => match lstOf S1 x with
  | some ds => if ds = [] then b ρ S1 P else P x S1
  | none => False
theorem je_orL {X : Cx} {pos : Pos} {a b : Expr} {rest : List Expr} {da db : DE} (ha : JE X a da) (hb : JE X (.BoolOp .Or (b :: rest) pos) db) : JE X (.BoolOp .Or (a :: b :: rest) pos) (dOrL da db) :=
  je_of (pe_orL ha hb) fun σ H Q h0_ => El54 h0_ fun ρ I S F P rs ok h q => ⟨ρ, I, S, F, _, rs, ok, h, fun x S1 v I1 H1 h1 e1 ok1 r1 => by
    split at h1
    · rename_i ds e
      obtain ⟨l, xs, rfl, hs, rl⟩ := lst_sq ok1 r1 e
      refine ⟨l, xs, rfl, hs, ?_⟩
      have len := rl.len
      by_cases c : ds = []
      · subst c
        have : xs = [] := List.length_eq_zero_iff.mp len
        rw [if_pos this]
        rw [if_pos rfl] at h1
        exact ⟨ρ, I1, S1, F, P, rs.mono e1, ok1, h1, q.mono e1⟩
      · have : xs ≠ [] := fun z => c (by rw [z] at len; exact List.length_eq_zero_iff.mp len.symm)
        rw [if_neg this]
        rw [if_neg c] at h1
        exact q _ _ _ _ _ h1 e1 ok1 r1
    · exact h1.elim⟩
end DL

/-! fractions as data, their sizes -/
namespace Lb
open PySem PySem.Spec PyProof.Rows L2 DL

theorem supd_same0 {S : Store} {p : Addr} {m : MO} : supd S p m p = some m := by unfold supd; rw [if_pos rfl]
theorem put_nm {i : Nat} {x : D} {ρ : DSt} : Tgt.put (.nm i) x ρ = some (ρ.set i (some x)) := by simp only [Tgt.put]
theorem put_tp {ts : List Tgt} {xs : List D} {ρ : DSt} : Tgt.put (.tp ts) (.tup xs) ρ = Tgt.putL ts xs ρ := by simp only [Tgt.put]
theorem put_tl {ts : List Tgt} {xs : List D} {ρ : DSt} : Tgt.put (.tp ts) (.lst xs) ρ = Tgt.putL ts xs ρ := by simp only [Tgt.put]
theorem putL_nil {ρ : DSt} : Tgt.putL [] [] ρ = some ρ := by simp only [Tgt.putL]
theorem putL_cons {t : Tgt} {ts : List Tgt} {x : D} {xs : List D} {ρ : DSt} : Tgt.putL (t :: ts) (x :: xs) ρ = (t.put x ρ).bind fun ρ' => Tgt.putL ts xs ρ' := by simp only [Tgt.putL]
def encR (q : Rat) : D := .tup [.int q.num, .int (q.den : Int)]
/-- so many bits at most -/
def Sz (n : Nat) (q : Rat) : Prop := q.num.natAbs < 2 ^ n ∧ q.den < 2 ^ n
theorem Sz.mono {n m : Nat} {q : Rat} (h : Sz n q) (hm : n ≤ m) : Sz m q := ⟨Nat.lt_of_lt_of_le h.1 (Nat.pow_le_pow_right (by decide) hm), Nat.lt_of_lt_of_le h.2 (Nat.pow_le_pow_right (by decide) hm)⟩
theorem sz_int {n : Nat} {k : Int} (h : k.natAbs < 2 ^ n) (h1 : 1 ≤ n := by decide) : Sz n (k : Rat) := ⟨h, by show 1 < 2 ^ n; exact Nat.one_lt_two_pow (by omega)⟩
theorem frac_num {a b : Int} (hb : b ≠ 0) : ((a : Rat) / (b : Rat)).num = b.sign * a / (Int.gcd a b : Int) ∧ (((a : Rat) / (b : Rat)).den : Int) = (b.natAbs : Int) / (Int.gcd a b : Int) := by
  rw [← Rat.divInt_eq_div, Rat.num_divInt, Rat.den_divInt, if_neg hb, Int.gcd_comm b a]
  exact ⟨rfl, by simp⟩
theorem gcd_pos_r {a b : Int} (hb : b ≠ 0) : 0 < (Int.gcd a b : Int) := by
  have := Int.gcd_pos_of_ne_zero_right a hb
  omega
theorem natAbs_div_le (a : Int) (g : Int) (hg : 0 < g) : (a / g).natAbs ≤ a.natAbs := by
  exact Int.natAbs_ediv_le_natAbs a g
/-- the size of a quotient of whole numbers -/
theorem sz_frac {n : Nat} {a b : Int} (hb : b ≠ 0) (h1 : a.natAbs < 2 ^ n) (h2 : b.natAbs < 2 ^ n) : Sz n ((a : Rat) / (b : Rat)) := by
  obtain ⟨e1, e2⟩ := frac_num (a := a) hb
  have hg := gcd_pos_r (a := a) hb
  have hdvd : (Int.gcd a b : Int) ∣ a := Int.gcd_dvd_left a b
  refine ⟨?_, ?_⟩
  · rw [e1]
    refine Nat.lt_of_le_of_lt (natAbs_div_le _ _ hg) ?_
    rw [Int.natAbs_mul]
    have : b.sign.natAbs ≤ 1 := by
      rcases Int.lt_trichotomy b 0 with h | h | h
      · simp [Int.sign_eq_neg_one_of_neg h]
      · exact absurd h hb
      · simp [Int.sign_eq_one_of_pos h]
    calc b.sign.natAbs * a.natAbs ≤ 1 * a.natAbs := Nat.mul_le_mul_right _ this
      _ < 2 ^ n := by omega
  · have : (((a : Rat) / (b : Rat)).den : Int).natAbs ≤ b.natAbs := by
      rw [e2]
      exact Nat.le_trans (natAbs_div_le _ _ hg) (by simp)
    omega
theorem rat_add (q r : Rat) : q + r = ((q.num * (r.den : Int) + r.num * (q.den : Int) : Int) : Rat) / (((q.den : Int) * (r.den : Int) : Int) : Rat) := by
  rw [← Rat.divInt_eq_div, Rat.add_def', ← Rat.divInt_ofNat, Int.natCast_mul]
theorem rat_sub (q r : Rat) : q - r = ((q.num * (r.den : Int) - r.num * (q.den : Int) : Int) : Rat) / (((q.den : Int) * (r.den : Int) : Int) : Rat) := by
  rw [← Rat.divInt_eq_div, Rat.sub_def', ← Rat.divInt_ofNat, Int.natCast_mul]
theorem rat_mul (q r : Rat) : q * r = ((q.num * r.num : Int) : Rat) / (((q.den : Int) * (r.den : Int) : Int) : Rat) := by
  rw [← Rat.divInt_eq_div, Rat.mul_def', ← Rat.divInt_ofNat, Int.natCast_mul]
theorem pow_bound {a b n m : Nat} (h1 : a < 2 ^ n) (h2 : b < 2 ^ m) : a * b < 2 ^ (n + m) := by
  rw [Nat.pow_add]
  exact Nat.mul_lt_mul'' h1 h2
theorem den_nz (q : Rat) : (q.den : Int) ≠ 0 := by have := q.den_pos; omega
theorem add_bound {q r : Rat} {n m : Nat} (h1 : Sz n q) (h2 : Sz m r) (s : Int) (hs : s.natAbs = 1) : (q.num * (r.den : Int) + s * (r.num * (q.den : Int))).natAbs < 2 ^ (n + m + 1) ∧ ((q.den : Int) * (r.den : Int)).natAbs < 2 ^ (n + m + 1) := by
  have a1 := pow_bound h1.1 h2.2
  have a2 := pow_bound h2.1 h1.2
  have a3 := pow_bound h1.2 h2.2
  have e : 2 ^ (n + m + 1) = 2 * 2 ^ (n + m) := by rw [Nat.pow_succ]; omega
  have e2 : 2 ^ (m + n) = 2 ^ (n + m) := by rw [Nat.add_comm]
  rw [e2] at a2
  constructor
  · refine Nat.lt_of_le_of_lt (Int.natAbs_add_le _ _) ?_
    rw [Int.natAbs_mul, Int.natAbs_mul, Int.natAbs_mul, hs]
    simp only [Int.natAbs_natCast, Nat.one_mul]
    omega
  · rw [Int.natAbs_mul]
    simp only [Int.natAbs_natCast]
    omega
theorem sz_add {q r : Rat} {n m : Nat} (h1 : Sz n q) (h2 : Sz m r) : Sz (n + m + 1) (q + r) := by
  rw [rat_add]
  have := add_bound h1 h2 1 rfl
  exact sz_frac (Int.mul_ne_zero (den_nz q) (den_nz r)) (by simpa using this.1) this.2
theorem sz_sub {q r : Rat} {n m : Nat} (h1 : Sz n q) (h2 : Sz m r) : Sz (n + m + 1) (q - r) := by
  rw [rat_sub]
  have := add_bound h1 h2 (-1) rfl
  exact sz_frac (Int.mul_ne_zero (den_nz q) (den_nz r)) (by
    have e : q.num * (r.den : Int) - r.num * (q.den : Int) = q.num * (r.den : Int) + -1 * (r.num * (q.den : Int)) := by omega
    rw [e]; exact this.1) this.2
theorem mul_bound {q r : Rat} {n m : Nat} (h1 : Sz n q) (h2 : Sz m r) : (q.num * r.num).natAbs < 2 ^ (n + m) ∧ ((q.den : Int) * (r.den : Int)).natAbs < 2 ^ (n + m) := by
  constructor
  · rw [Int.natAbs_mul]; exact pow_bound h1.1 h2.1
  · rw [Int.natAbs_mul]; simp only [Int.natAbs_natCast]; exact pow_bound h1.2 h2.2
theorem sz_mul {q r : Rat} {n m : Nat} (h1 : Sz n q) (h2 : Sz m r) : Sz (n + m) (q * r) := by
  rw [rat_mul]
  have := mul_bound h1 h2
  exact sz_frac (Int.mul_ne_zero (den_nz q) (den_nz r)) this.1 this.2
theorem log_lt {a n : Nat} (h : a < 2 ^ n) (hn : 0 < n) : a.log2 < n := PySem.Flt.log2_lt_of hn h
theorem mulS {i j : Int} (h : -(2 ^ 64) < i ∧ i < 2 ^ 64 := by omega) : MulB i j := .inl (.inl h)
theorem mulS2 {i j : Int} (h : -(2 ^ 64) < j ∧ j < 2 ^ 64 := by omega) : MulB i j := .inl (.inr h)
theorem divB {j : Int} {n : Nat} (h0 : j ≠ 0) (h1 : j.natAbs < 2 ^ n) (h : n ≤ 8999) : DivB j := by
  have a := log_lt (n := n + 1) (Nat.lt_trans h1 (Nat.pow_lt_pow_right (by decide) (by omega))) (by omega)
  exact ⟨h0, by omega⟩
theorem divS {j : Int} (h0 : j ≠ 0) (h : j.natAbs < 2 ^ 60 := by omega) : DivB j := divB (n := 60) h0 h (by decide)

/-! powers of a base -/
theorem zpow_of_nat (b : Rat) (n : Nat) : b ^ (n : Int) = b ^ n := rfl
theorem intpow_cast (b : Int) (n : Nat) : ((b ^ n : Int) : Rat) = (b : Rat) ^ n := by
  induction n with
  | zero => simp
  | succ n ih => rw [Int.pow_succ, Rat.pow_succ, Rat.intCast_mul, ih]
theorem encR_zpow_nn (b : Int) (k : Int) (h : 0 ≤ k) : encR ((b : Rat) ^ k) = .tup [.int (b ^ k.toNat), .int 1] := by
  have : (b : Rat) ^ k = ((b ^ k.toNat : Int) : Rat) := by
    rw [intpow_cast, ← zpow_of_nat]
    congr 1; omega
  rw [this]; rfl
theorem encR_zpow_neg (b : Int) (k : Int) (hb : 0 < b) (h : k < 0) : encR ((b : Rat) ^ k) = .tup [.int 1, .int (b ^ (-k).toNat)] := by
  have hp : 0 < b ^ (-k).toNat := Int.pow_pos hb
  have : (b : Rat) ^ k = ((1 : Int) : Rat) / ((b ^ (-k).toNat : Int) : Rat) := by
    rw [intpow_cast, ← zpow_of_nat]
    have e : k = -(((-k).toNat : Nat) : Int) := by omega
    conv => lhs; rw [e, Rat.zpow_neg]
    simp [Rat.div_def]
  obtain ⟨e1, e2⟩ := frac_num (a := 1) (b := b ^ (-k).toNat) (by omega)
  unfold encR
  rw [this, e1, e2]
  have s : (b ^ (-k).toNat).sign = 1 := Int.sign_eq_one_of_pos hp
  have g1 : Int.gcd 1 (b ^ (-k).toNat) = 1 := by simp
  rw [s, g1]
  have e3 : ((b ^ (-k).toNat).natAbs : Int) = b ^ (-k).toNat := by omega
  rw [e3]
  simp
theorem sz_zpow {b k : Int} (hb : 0 < b) (hb2 : b ≤ 16) : Sz (4 * k.natAbs + 1) ((b : Rat) ^ k) := by
  have key : ∀ n : Nat, (b ^ n).natAbs < 2 ^ (4 * n + 1) := fun n => by
    rw [Int.natAbs_pow]
    have h1 : b.natAbs ≤ 2 ^ 4 := by omega
    calc b.natAbs ^ n ≤ (2 ^ 4) ^ n := Nat.pow_le_pow_left h1 n
      _ = 2 ^ (4 * n) := by rw [Nat.pow_mul]
      _ < 2 ^ (4 * n + 1) := Nat.pow_lt_pow_right (by decide) (by omega)
  by_cases h : 0 ≤ k
  · have e := encR_zpow_nn b k h
    unfold encR at e
    simp only [D.tup.injEq, List.cons.injEq, D.int.injEq, and_true] at e
    have hk : k.toNat = k.natAbs := by omega
    refine ⟨by rw [e.1, hk]; exact key _, ?_⟩
    have : ((b : Rat) ^ k).den = 1 := by omega
    rw [this]
    exact Nat.one_lt_two_pow (by omega)
  · have e := encR_zpow_neg b k hb (by omega)
    unfold encR at e
    simp only [D.tup.injEq, List.cons.injEq, D.int.injEq, and_true] at e
    have hk : (-k).toNat = k.natAbs := by omega
    refine ⟨by rw [e.1]; exact Nat.one_lt_two_pow (by omega), ?_⟩
    have h2 := key k.natAbs
    rw [hk] at e
    have h3 : ((((b : Rat) ^ k).den : Int)).natAbs < 2 ^ (4 * k.natAbs + 1) := by rw [e.2]; exact h2
    omega
theorem atI_0 {α : Type} (a : α) (l : List α) : atI (a :: l) 0 = some a := by
  unfold atI ixN
  rw [if_pos (by decide), if_pos (by simp only [List.length_cons]; omega)]
  rfl
theorem atI_1 {α : Type} (a b : α) (l : List α) : atI (a :: b :: l) 1 = some b := by
  unfold atI ixN
  rw [if_pos (by decide), if_pos (by simp only [List.length_cons]; omega)]
  rfl
theorem atI_2 {α : Type} (a b c : α) (l : List α) : atI (a :: b :: c :: l) 2 = some c := by
  unfold atI ixN
  rw [if_pos (by decide), if_pos (by simp only [List.length_cons]; omega)]
  rfl
theorem atI_3 {α : Type} (a b c d : α) (l : List α) : atI (a :: b :: c :: d :: l) 3 = some d := by
  unfold atI ixN
  rw [if_pos (by decide), if_pos (by simp only [List.length_cons]; omega)]
  rfl
theorem eqB_ii {i j : Int} : dEqB (.int i) (.int j) = some (decide (i = j)) := rfl
theorem eqB_bb {i j : Bool} : dEqB (.bl i) (.bl j) = some (decide (i = j)) := rfl
theorem eqB_ss {i j : Str} : dEqB (.str i) (.str j) = some (decide (i = j)) := rfl
theorem eqB_nn : dEqB .non .non = some true := rfl
theorem eqB_ni {j : Int} : dEqB .non (.int j) = some false := rfl
theorem eqB_in {j : Int} : dEqB (.int j) .non = some false := rfl
theorem eqB_ns {j : Str} : dEqB .non (.str j) = some false := rfl
theorem eqB_sn {j : Str} : dEqB (.str j) .non = some false := rfl
theorem eqB_is {i : Int} {j : Str} : dEqB (.int i) (.str j) = some false := rfl
theorem eqB_si {i : Int} {j : Str} : dEqB (.str j) (.int i) = some false := rfl
theorem eqB_nb {j : Bool} : dEqB .non (.bl j) = some false := rfl
theorem eqB_bn {j : Bool} : dEqB (.bl j) .non = some false := rfl
theorem map_toNat_inj : ∀ (l m : List Char), l.map Char.toNat = m.map Char.toNat → l = m
  | [], [], _ => rfl
  | [], _ :: _, h => by simp at h
  | _ :: _, [], h => by simp at h
  | a :: l, b :: m, h => by
    simp only [List.map_cons, List.cons.injEq] at h
    rw [map_toNat_inj l m h.2, Char.toNat_inj.mp h.1]
theorem ofString_inj (a b : String) : (Str.ofString a = Str.ofString b) = (a = b) := by
  apply propext
  constructor
  · intro h
    rw [Str.ofString_eq_toList, Str.ofString_eq_toList] at h
    have h : List.map Char.toNat a.toList = List.map Char.toNat b.toList := congrArg (fun z : Str => z.cps.toList) h
    have : a.toList = b.toList := map_toNat_inj _ _ h
    exact String.ext this
  · intro h; rw [h]
local macro_rules | `(tactic| walk_at "dgo") => `(tactic| try simp only [dSeq, dSet, dPar, dOp, dUn, dVar, dC, dCB, dCons, dNil, dTup, dLst, dLstM, dIfS, dIf, dTest, dNot, dAnd, dOr, dAndV, dOrV, dNotV, dRet, dRetN, dEnd, dNext, dAdd, dSub, dMul, dFdiv, dMod, dPow, dNeg, dLt, dLe, dGt, dGe, dEq, dNe, eqB_ii, eqB_bb, eqB_ss, eqB_nn, eqB_ni, eqB_in, eqB_ns, eqB_sn, eqB_is, eqB_si, eqB_nb, eqB_bn, dIx, dIn, dIsN, dNotN, DL.isNon, cAbs, cMax2, cMin2, cInt, cLen, cList, cTuple, dIsB, dNotB, dPar3, ForN, LcN, pinOf, pin2, dEnum2, dAppend, supd_same0, isi_non_int, isi_non_bool, isi_non_str, isi_non_list, isi_non_tuple, isi_non_lt, isi_bl_int, isi_bl_bool, isi_bl_str, isi_bl_list, isi_bl_tuple, isi_bl_lt, isi_int_int, isi_int_bool, isi_int_str, isi_int_list, isi_int_tuple, isi_int_lt, isi_str_int, isi_str_bool, isi_str_str, isi_str_list, isi_str_tuple, isi_str_lt, isi_lst_int, isi_lst_bool, isi_lst_str, isi_lst_list, isi_lst_tuple, isi_lst_lt, isi_tup_int, isi_tup_bool, isi_tup_str, isi_tup_list, isi_tup_tuple, isi_tup_lt, dAug, dIAdd, dIMul, dDrop, dSl, dPart, dNoPart, dRevL, dCallK, dChainR, dAsg, put_nm, put_tp, put_tl, putL_nil, putL_cons, Option.bind, seqOf, lstOf, dFor, dLc, dLcM, dItSeq, dZip, dZipS, dEnum, dRng1, dRng2, dYes, dwipe, Tgt.slots, Tgt.slotsL,
  atI_0, atI_1, atI_2, atI_3, List.getElem?_cons_zero, List.getElem?_cons_succ, List.set_cons_zero, List.set_cons_succ, decide_eq_true_eq, List.length_cons, List.length_nil, List.cons_append, List.nil_append, List.append_nil, ofString_inj, String.reduceEq, decide_true, decide_false, reduceIte, Bool.false_eq_true, Bool.not_true, Bool.not_false, eqFlat, isFlat, List.any_cons, List.any_nil, List.all_cons, List.all_nil, Bool.or_false, Bool.or_true, Bool.false_or, Bool.true_or, Bool.and_true, Bool.true_and, true_and, and_true, Nat.reduceAdd, Nat.reduceLeDiff, Int.reduceLT, Int.reduceLE, Int.reduceNeg])
theorem abs_if (a : Int) : (if a < 0 then -a else a) = (a.natAbs : Int) := by split <;> omega
def sp_power : DSp := fun ds S P => ∃ b k : Int, ds = [.int b, .int k] ∧ 0 < b ∧ b ≤ 16 ∧ k.natAbs ≤ 900 ∧ P (encR ((b : Rat) ^ k)) S
def rd_power : DS :=
  (dSeq (dSet 2 (dC (.int 1)))
  (dSeq (dFor (dRng1 (dCons (dCB cAbs (dCons (dVar 1) dNil)) dNil)) (.nm 3) (dAug 2 dIMul (dVar 0)))
  (dRet (dIf (dTest (dOp dGe (dVar 1) (dC (.int 0)))) (dTup (dCons (dVar 2) (dCons (dC (.int 1)) dNil))) (dTup (dCons (dC (.int 1)) (dCons (dVar 2) dNil)))))))
def goal_power : Prop := ∀ (x0 x1 : D) (S : Store) (P : D → Store → Prop), sp_power [x0, x1] S P → rd_power (dEnd P) [some x0, some x1, none, none] S
theorem len_power : ∀ ds S P, sp_power ds S P → ds.length = 2 := by
  rintro ds S P ⟨a, b, rfl, _⟩; rfl
theorem vc_power : goal_power := by
  rintro x0 x1 S P ⟨b, k, e, h1, h2, h3, h⟩
  cases e
  unfold rd_power
  walk_at "dgo"
  rw [abs_if]
  refine ⟨by omega, by omega, fun i ρ S' => ∃ z, ρ = [some (.int b), some (.int k), some (.int (b ^ i)), z] ∧ S' = S, ⟨none, by simp, rfl⟩, ?_, ?_⟩
  · rintro i d ρ S' hd ⟨z, rfl, rfl⟩
    refine ⟨_, rfl, ?_⟩
    walk_at "dgo"
    refine ⟨mulS2, some d, ?_⟩
    rw [Int.pow_succ]
  · rintro ρ S' ⟨z, rfl, rfl⟩
    rw [rng_len]
    walk_at "dgo"
    by_cases hk : 0 ≤ k
    · rw [if_pos hk]
      rw [encR_zpow_nn b k hk] at h
      rw [show ((k.natAbs : Int)).toNat = k.toNat by omega]; exact h
    · rw [if_neg hk]
      rw [encR_zpow_neg b k h1 (by omega)] at h
      rw [show ((k.natAbs : Int)).toNat = (-k).toNat by omega]; exact h
/-! ### draws -/
def BoxAt (S : Store) (p : Addr) (n : Nat) : Prop := ∃ a s t : Int, S p = some (.lst [.int a, .int s, .int t]) ∧ 0 ≤ a ∧ 0 ≤ s ∧ s < 2 ^ 62 ∧ 0 ≤ t ∧ t ≤ n
def Drew (S S' : Store) (p : Addr) (n : Nat) : Prop := ∃ a s t : Int, S' = supd S p (.lst [.int a, .int s, .int t]) ∧ 0 ≤ a ∧ 0 ≤ s ∧ s < 2 ^ 62 ∧ 0 ≤ t ∧ t ≤ n
theorem supd_same {S : Store} {p : Addr} {m : MO} : supd S p m p = some m := by unfold supd; rw [if_pos rfl]
theorem supd_ne {S : Store} {p q : Addr} {m : MO} (h : q ≠ p) : supd S p m q = S q := by unfold supd; rw [if_neg h]
theorem supd_supd {S : Store} {p : Addr} {m m' : MO} : supd (supd S p m) p m' = supd S p m' := by
  funext q; unfold supd; split <;> rfl
theorem Drew.box {S S' : Store} {p : Addr} {n : Nat} (h : Drew S S' p n) : BoxAt S' p n := by
  obtain ⟨a, s, t, rfl, h⟩ := h
  exact ⟨a, s, t, supd_same, h⟩
theorem Drew.trans {S S1 S2 : Store} {p : Addr} {n m : Nat} (h : Drew S S1 p n) (h2 : Drew S1 S2 p m) : Drew S S2 p m := by
  obtain ⟨a, s, t, rfl, _⟩ := h
  obtain ⟨a, s, t, rfl, h⟩ := h2
  exact ⟨a, s, t, supd_supd, h⟩
theorem Drew.other {S S' : Store} {p q : Addr} {n : Nat} (h : Drew S S' p n) (hq : q ≠ p) : S' q = S q := by
  obtain ⟨a, s, t, rfl, _⟩ := h
  exact supd_ne hq
theorem Drew.mono {S S' : Store} {p : Addr} {n m : Nat} (h : Drew S S' p n) (hm : n ≤ m) : Drew S S' p m := by
  obtain ⟨a, s, t, e, h1, h2, h3, h4, h5⟩ := h
  exact ⟨a, s, t, e, h1, h2, h3, h4, by omega⟩
theorem BoxAt.mono {S : Store} {p : Addr} {n m : Nat} (h : BoxAt S p n) (hm : n ≤ m) : BoxAt S p m := by
  obtain ⟨a, s, t, e, h1, h2, h3, h4, h5⟩ := h
  exact ⟨a, s, t, e, h1, h2, h3, h4, by omega⟩
theorem BoxAt.refl {S : Store} {p : Addr} {n : Nat} (h : BoxAt S p n) : Drew S S p n := by
  obtain ⟨a, s, t, e, h⟩ := h
  refine ⟨a, s, t, ?_, h⟩
  funext q; unfold supd; split
  · rename_i z; rw [z, e]
  · rfl
def sp_Lcell_at : DSp := fun ds S P => ∃ (ns : List Int) (k : Int), ds = [.ext (ns.map .int), .int k] ∧ 0 ≤ k ∧ ∀ c, P (.int c) S
def rd_Lcell_at : DS :=
  (dSeq (dIfS (dTest (dOp dLt (dVar 1) (dCB cLen (dCons (dVar 0) dNil)))) (dRet (dOp dIx (dVar 0) (dVar 1))) dNext)
  (dRet (dC (.int 0))))
def goal_Lcell_at : Prop := ∀ (x0 x1 : D) (S : Store) (P : D → Store → Prop), sp_Lcell_at [x0, x1] S P → rd_Lcell_at (dEnd P) [some x0, some x1] S
theorem len_Lcell_at : ∀ ds S P, sp_Lcell_at ds S P → ds.length = 2 := by
  rintro ds S P ⟨a, b, rfl, _⟩; rfl
theorem atI_at {α : Type} {l : List α} {k : Int} (h0 : 0 ≤ k) (h1 : k < (l.length : Int)) : atI l k = l[k.toNat]? := by
  unfold atI ixN
  rw [if_pos h0, if_pos h1]
  rfl
theorem vc_Lcell_at : goal_Lcell_at := by
  rintro x0 x1 S P ⟨ns, k, e, h0, h⟩
  cases e
  unfold rd_Lcell_at
  walk_at "dgo"
  split
  · rename_i hk
    rw [atI_at h0 hk]
    rw [List.length_map] at hk
    have : k.toNat < ns.length := by omega
    rw [List.getElem?_map, List.getElem?_eq_getElem this]
    exact h _
  · exact h _
def sp_Lbox : DSp := fun ds S P => ∃ (ns : List Int) (k : Int), ds = [.ext (ns.map .int), .int k] ∧ 0 ≤ k ∧ k ≤ 1000 ∧ ∀ p S', S p = none → Drew S S' p 0 → P (.obj p) S'
def rd_Lbox : DS :=
  (dSeq (dSet 2 (dCB sp_Lcell_at (dCons (dVar 0) (dCons (dVar 1) dNil))))
  (dRet (dLstM (dCons (dOp dMul (dCB cAbs (dCons (dVar 2) dNil)) (dCB cInt (dCons (dOp dGe (dCB cAbs (dCons (dVar 2) dNil)) (dOp dPow (dC (.int 10)) (dC (.int 18)))) dNil))) (dCons (dOp dAdd (dOp dAdd (dOp dMod (dVar 2) (dC (.int 2305843009213693951))) (dOp dMul (dC (.int 39373)) (dVar 1))) (dC (.int 17))) (dCons (dC (.int 0)) dNil))))))
def goal_Lbox : Prop := ∀ (x0 x1 : D) (S : Store) (P : D → Store → Prop), sp_Lbox [x0, x1] S P → rd_Lbox (dEnd P) [some x0, some x1, none] S
theorem len_Lbox : ∀ ds S P, sp_Lbox ds S P → ds.length = 2 := by
  rintro ds S P ⟨a, b, rfl, _⟩; rfl
theorem vc_Lbox : goal_Lbox := by
  rintro x0 x1 S P ⟨ns, k, e, h0, h1, h⟩
  cases e
  unfold rd_Lbox
  walk_at "dgo"
  refine ⟨ns, k, rfl, h0, fun c => ?_⟩
  walk_at "dgo"
  refine ⟨⟨by decide, by decide, by decide⟩, mulS2 (by (repeat' split) <;> decide), mulS, fun p hp => h p _ hp ⟨_, _, 0, rfl, ?_, ?_, ?_, by decide, by decide⟩⟩
  · rw [abs_if]
    split <;> simp
  · have := Int.emod_nonneg c (show (2305843009213693951 : Int) ≠ 0 by decide)
    omega
  · have := Int.emod_lt_of_pos c (show (0 : Int) < 2305843009213693951 by decide)
    omega
def sp_Ltake : DSp := fun ds S P => ∃ (p : Addr) (size : Int) (n : Nat), ds = [.obj p, .int size] ∧ 0 < size ∧ size ≤ 2 ^ 40 ∧ BoxAt S p n ∧ n ≤ 1000000000 ∧ ∀ x S', 0 ≤ x → x < size → Drew S S' p (n + 1) → P (.int x) S'
def rd_Ltake : DS :=
  (dSeq (dIfS (dTest (dOp dGt (dOp dIx (dVar 0) (dC (.int 0))) (dC (.int 0)))) (dSeq (dSet 2 (dOp dMod (dOp dIx (dVar 0) (dC (.int 0))) (dVar 1)))
  (dSeq (dSetIx (dOp dFdiv (dOp dIx (dVar 0) (dC (.int 0))) (dVar 1)) (dVar 0) (dC (.int 0)))
  (dRet (dVar 2)))) dNext)
  (dSeq (dSetIx (dOp dAdd (dOp dIx (dVar 0) (dC (.int 2))) (dC (.int 1))) (dVar 0) (dC (.int 2)))
  (dSeq (dSet 3 (dOp dMod (dOp dMul (dOp dAdd (dOp dIx (dVar 0) (dC (.int 1))) (dOp dMul (dC (.int 48271)) (dOp dIx (dVar 0) (dC (.int 2))))) (dOp dAdd (dC (.int 39373)) (dOp dIx (dVar 0) (dC (.int 2))))) (dC (.int 2147483647))))
  (dSeq (dSet 4 (dOp dMod (dOp dMul (dOp dAdd (dOp dAdd (dVar 3) (dOp dIx (dVar 0) (dC (.int 2)))) (dOp dFdiv (dOp dIx (dVar 0) (dC (.int 1))) (dC (.int 1000003)))) (dOp dAdd (dOp dMod (dVar 3) (dC (.int 40009))) (dC (.int 7)))) (dC (.int 2147483629))))
  (dRet (dOp dMod (dOp dFdiv (dOp dMod (dOp dAdd (dOp dMul (dVar 4) (dC (.int 48271))) (dVar 3)) (dC (.int 2147483587))) (dC (.int 64))) (dVar 1)))))))
def goal_Ltake : Prop := ∀ (x0 x1 : D) (S : Store) (P : D → Store → Prop), sp_Ltake [x0, x1] S P → rd_Ltake (dEnd P) [some x0, some x1, none, none, none] S
theorem len_Ltake : ∀ ds S P, sp_Ltake ds S P → ds.length = 2 := by
  rintro ds S P ⟨a, b, n, rfl, _⟩; rfl
theorem vc_Ltake : goal_Ltake := by
  rintro x0 x1 S P ⟨p, size, n, e, h0, h1, ⟨a, s, t, eb, b1, b2, b3, b4, b5⟩, hn, h⟩
  cases e
  unfold rd_Ltake dSetIx
  walk_at "dgo"
  simp only [eb]
  walk_at "dgo"
  have hx : ∀ y : Int, 0 ≤ y % size ∧ y % size < size := fun y => ⟨Int.emod_nonneg y (by omega), Int.emod_lt_of_pos y h0⟩
  split
  · rename_i ha
    refine ⟨h0, divS (by omega) (by omega), ?_⟩
    have e0 : ixN (0 + 1 + 1 + 1) 0 = some 0 := rfl
    simp only [e0, List.set_cons_zero]
    walk_at "dgo"
    exact h _ _ (hx a).1 (hx a).2 ⟨_, _, _, rfl, by rw [Int.fdiv_eq_ediv_of_nonneg _ (by omega)]; exact Int.ediv_nonneg b1 (by omega), b2, b3, b4, by omega⟩
  · have e2 : ixN (0 + 1 + 1 + 1) 2 = some 2 := rfl
    simp only [e2, List.set_cons_zero, List.set_cons_succ]
    walk_at "dgo"
    try simp only [supd_same]
    walk_at "dgo"
    have ht : t ≤ 1000000000 := by
      have hn2 : n ≤ 1000000000 := hn
      omega
    generalize hy1 : (s + 48271 * (t + 1)) * (39373 + (t + 1)) = y1
    have m1 : 0 ≤ y1 % 2147483647 ∧ y1 % 2147483647 < 2147483647 := ⟨Int.emod_nonneg _ (by decide), Int.emod_lt_of_pos _ (by decide)⟩
    generalize y1 % 2147483647 = z1 at *
    have hd : 0 ≤ s.fdiv 1000003 ∧ s.fdiv 1000003 ≤ s := by
      rw [Int.fdiv_eq_ediv_of_nonneg _ (by decide)]
      constructor
      · exact Int.ediv_nonneg b2 (by decide)
      · exact Int.ediv_le_self _ b2
    generalize s.fdiv 1000003 = z2 at *
    have m2 : 0 ≤ z1 % 40009 ∧ z1 % 40009 < 40009 := ⟨Int.emod_nonneg _ (by decide), Int.emod_lt_of_pos _ (by decide)⟩
    generalize z1 % 40009 = z3 at *
    generalize hy2 : (z1 + (t + 1) + z2) * (z3 + 7) = y2
    have m3 : 0 ≤ y2 % 2147483629 ∧ y2 % 2147483629 < 2147483629 := ⟨Int.emod_nonneg _ (by decide), Int.emod_lt_of_pos _ (by decide)⟩
    generalize y2 % 2147483629 = z4 at *
    refine ⟨mulS, mulS (by omega), divS (by decide) (by decide), mulS (by omega), mulS (by omega), divS (by decide) (by decide), h0, ?_⟩
    exact h _ _ (hx _).1 (hx _).2 ⟨_, _, _, rfl, b1, b2, b3, by omega, by omega⟩
def sp_Lof : DSp := fun ds S P => ∃ (p : Addr) (y : D) (xs : List D) (n : Nat), ds = [.obj p, y] ∧ (y = .lst xs ∨ y = .tup xs) ∧ 0 < xs.length ∧ xs.length ≤ 100000 ∧ BoxAt S p n ∧ n ≤ 1000000000 ∧ ∀ x S', x ∈ xs → Drew S S' p (n + 1) → P x S'
def rd_Lof : DS :=
  (dRet (dOp dIx (dVar 1) (dCB sp_Ltake (dCons (dVar 0) (dCons (dCB cLen (dCons (dVar 1) dNil)) dNil)))))
def goal_Lof : Prop := ∀ (x0 x1 : D) (S : Store) (P : D → Store → Prop), sp_Lof [x0, x1] S P → rd_Lof (dEnd P) [some x0, some x1] S
theorem len_Lof : ∀ ds S P, sp_Lof ds S P → ds.length = 2 := by
  rintro ds S P ⟨a, b, xs, n, rfl, _⟩; rfl
theorem vc_Lof : goal_Lof := by
  rintro x0 x1 S P ⟨p, y, xs, n, e, hy, h0, h1, hb, hn, h⟩
  cases e
  unfold rd_Lof
  rcases hy with rfl | rfl
  all_goals
    walk_at "dgo"
    refine ⟨p, _, n, rfl, by omega, by omega, hb, hn, fun x S' hx1 hx2 hd => ?_⟩
    walk_at "dgo"
    have hl : x.toNat < xs.length := by omega
    rw [atI_at hx1 hx2, List.getElem?_eq_getElem hl]
    exact h _ _ (List.getElem_mem hl) hd
/-! ### powers and order -/
theorem ratpos {b : Int} (h : 0 < b) : (0 : Rat) < (b : Rat) := Rat.intCast_pos.mpr h
theorem one_le_pow {b : Rat} (h : 1 ≤ b) : ∀ n : Nat, 1 ≤ b ^ n
  | 0 => by simp
  | n + 1 => by
    rw [Rat.pow_succ]
    have h1 := one_le_pow h n
    have h2 := Rat.mul_le_mul_of_nonneg_left (c := b ^ n) h (by grind)
    grind
theorem zpow_mono {b : Int} (hb : 1 ≤ b) {m n : Int} (h : m ≤ n) : (b : Rat) ^ m ≤ (b : Rat) ^ n := by
  have hp : (0 : Rat) < (b : Rat) := ratpos (by omega)
  have e : n = m + ((n - m).toNat : Int) := by omega
  rw [e, Rat.zpow_add (by grind)]
  have h1 : (1 : Rat) ≤ (b : Rat) ^ (((n - m).toNat : Nat) : Int) := one_le_pow (by
    have : (1 : Rat) = ((1 : Int) : Rat) := rfl
    rw [this]; exact Rat.intCast_le_intCast.mpr hb) _
  have h2 := Rat.mul_le_mul_of_nonneg_left (c := (b : Rat) ^ m) h1 (Rat.le_of_lt (Rat.zpow_pos hp))
  grind
/-! ### the least power that is enough -/
def IsLp (b room : Int) (need : Rat) (d : Int) : Prop := need ≤ (b : Rat) ^ d * (room : Rat) ∧ (b : Rat) ^ (d - 1) * (room : Rat) < need
theorem IsLp.uniq {b room : Int} {need : Rat} {d e : Int} (hb : 1 ≤ b) (hr : 1 ≤ room) (h : IsLp b room need d) (h' : IsLp b room need e) : d = e := by
  have key : ∀ d e : Int, IsLp b room need d → IsLp b room need e → ¬ d < e := fun d e h h' hl => by
    have h1 := zpow_mono hb (show d ≤ e - 1 by omega)
    have hr0 : (0 : Rat) ≤ (room : Rat) := Rat.le_of_lt (ratpos (by omega))
    have h2 := Rat.mul_le_mul_of_nonneg_right h1 hr0
    have h3 := h.1
    have h4 := h'.2
    grind
  have h1 := key d e h h'
  have h2 := key e d h' h
  omega
/-! ### list comprehensions -/
/-- over the data of some things, the data of others, nothing drawn -/
theorem lc_mapA {α : Type} {t : Tgt} {de : DE} {P : D → Store → Prop} {xs : List α} {ρ : DSt} {S : Store} (f g : α → D) (hl : xs.length ≤ 100000)
    (h : ∀ a, a ∈ xs → ∃ ρ', t.put (f a) (dwipe ρ t.slots) = some ρ' ∧ ∀ Q : D → Store → Prop, Q (g a) S → de ρ' S Q) (q : P (.lst (xs.map g)) S) : LcB t dYes de P (xs.map f) ρ S := by
  refine ⟨by simpa using hl, fun i acc S' => acc = (xs.take i).map g ∧ S' = S, ⟨rfl, rfl⟩, ?_, ?_⟩
  · rintro i d acc S' hd ⟨rfl, rfl⟩
    rw [List.getElem?_map] at hd
    cases e : xs[i]? with
    | none => rw [e] at hd; cases hd
    | some a =>
      rw [e] at hd
      cases hd
      obtain ⟨ρ', h1, h2⟩ := h a (List.mem_of_getElem? e)
      refine ⟨ρ', h1, ?_⟩
      simp only [dYes, reduceIte]
      refine h2 _ ⟨?_, rfl⟩
      rw [List.take_add_one, e]
      simp
  · rintro acc S' ⟨rfl, rfl⟩
    rw [List.length_map, List.take_length]
    exact q
/-- each item by itself, with draws on the way: R of each, St between -/
theorem lc_st {t : Tgt} {de : DE} {P : D → Store → Prop} {ds : List D} {ρ : DSt} {S : Store} (R : Nat → D → Prop) (St : Nat → Store → Prop) (hl : ds.length ≤ 100000) (h0 : St 0 S)
    (h : ∀ (i : Nat) (d : D) (S' : Store), ds[i]? = some d → St i S' → ∃ ρ', t.put d (dwipe ρ t.slots) = some ρ' ∧ ∀ Q : D → Store → Prop, (∀ y S'', R i y → St (i + 1) S'' → Q y S'') → de ρ' S' Q)
    (q : ∀ ys S', ys.length = ds.length → (∀ i y, ys[i]? = some y → R i y) → St ds.length S' → P (.lst ys) S') : LcB t dYes de P ds ρ S := by
  refine ⟨hl, fun i acc S' => acc.length = i ∧ (∀ j y, acc[j]? = some y → R j y) ∧ St i S', ⟨rfl, by simp, h0⟩, ?_, ?_⟩
  · rintro i d acc S' hd ⟨rfl, hr, hs⟩
    obtain ⟨ρ', h1, h2⟩ := h _ d S' hd hs
    refine ⟨ρ', h1, ?_⟩
    simp only [dYes, reduceIte]
    refine h2 _ fun y S'' r s => ⟨by simp, fun j z hz => ?_, s⟩
    by_cases hj : j < acc.length
    · rw [List.getElem?_append_left hj] at hz
      exact hr j z hz
    · rw [List.getElem?_append_right (by omega)] at hz
      have hj2 : j = acc.length := by
        have := (List.getElem?_eq_some_iff.mp hz).1
        simp at this
        omega
      subst hj2
      simp at hz
      exact hz ▸ r
  · rintro acc S' ⟨h1, h2, h3⟩
    exact q acc S' h1 h2 h3
/-! ### the greatest of a list -/
def maxI (ms : List Int) : Int := ms.foldr (fun a b => max a b) 0
theorem maxI_mem : ∀ {ms : List Int}, ms ≠ [] → (∀ m ∈ ms, 0 ≤ m) → maxI ms ∈ ms
  | [a], _, h => by
    have e : maxI [a] = max a 0 := rfl
    have := h a (by simp)
    rw [e]; simp; omega
  | a :: b :: r, _, h => by
    have e : maxI (a :: b :: r) = max a (maxI (b :: r)) := rfl
    have ih := maxI_mem (ms := b :: r) (by simp) (fun m hm => h m (by simp [hm]))
    rcases Int.le_total a (maxI (b :: r)) with q | q
    · have : max a (maxI (b :: r)) = maxI (b :: r) := by omega
      rw [e, this]
      exact List.mem_cons_of_mem _ ih
    · have : max a (maxI (b :: r)) = a := by omega
      rw [e, this]; simp
/-! ### kinds, sources, widths -/
inductive Kd where
  | sum (ws : List Int) (o : Int)
  | least
  | most
  | times
  | over (k : Int)
def Kd.d : Kd → D
  | .sum ws o => .tup [.str "sum", .tup (ws.map .int), .int o]
  | .least => .tup [.str "least"]
  | .most => .tup [.str "most"]
  | .times => .tup [.str "times"]
  | .over k => .tup [.str "over", .int k]
def abI (a : Int) : Int := if a < 0 then -a else a
def sumW (ws ms : List Int) : Int := (List.zipWith (fun w m => abI w * m) ws ms).sum
def Kd.wide (b : Int) (ss : List (Int × Int)) : Kd → Rat
  | .sum ws o => ((sumW ws (ss.map (·.2)) : Int) : Rat) / (o : Rat)
  | .times => match ss with
    | [(e0, m0), (e1, m1)] => ((m0 * m1 : Int) : Rat) / ((b - 1 : Int) : Rat) * ((b : Rat) ^ e0 + (b : Rat) ^ e1)
    | _ => 0
  | .over k => match ss with
    | [(e0, m0), (_, m1)] => ((m0 : Int) : Rat) * (b : Rat) ^ k * (((1 : Int) : Rat) + ((m1 : Int) : Rat) / ((b - 1 : Int) : Rat) * (b : Rat) ^ k * (b : Rat) ^ e0)
    | _ => 0
  | _ => ((maxI (ss.map (·.2)) : Int) : Rat)
def Kd.Ok (ss : List (Int × Int)) : Kd → Prop
  | .sum ws o => ws.length = ss.length ∧ 0 < o ∧ o < 2 ^ 20 ∧ ∀ w ∈ ws, w ≠ 0 ∧ w.natAbs ≤ 100
  | .times => ss.length = 2
  | .over k => ss.length = 2 ∧ 0 ≤ k ∧ k ≤ 6
  | _ => True
structure SsOk (b : Int) (ss : List (Int × Int)) : Prop where
  b0 : 2 ≤ b
  b1 : b ≤ 16
  n0 : 1 ≤ ss.length
  n1 : ss.length ≤ 8
  each : ∀ q ∈ ss, (-30 ≤ q.1 ∧ q.1 ≤ 30) ∧ 1 ≤ q.2 ∧ q.2 ≤ 60
theorem sumW_bound : ∀ (ws ms : List Int) (n : Nat), ws.length ≤ n → (∀ w ∈ ws, w ≠ 0 ∧ w.natAbs ≤ 100) → (∀ m ∈ ms, 1 ≤ m ∧ m ≤ 60) → 0 ≤ sumW ws ms ∧ sumW ws ms ≤ 6000 * (n : Int) ∧ (ws ≠ [] → ms ≠ [] → 0 < sumW ws ms)
  | [], ms, n, _, _, _ => by
    have e : sumW [] ms = 0 := by unfold sumW; simp
    rw [e]; exact ⟨by omega, by omega, fun h => absurd rfl h⟩
  | w :: ws, [], n, _, _, _ => by
    have e : sumW (w :: ws) [] = 0 := by unfold sumW; simp
    rw [e]; exact ⟨by omega, by omega, fun _ h => absurd rfl h⟩
  | w :: ws, m :: ms, n, hn, hw, hm => by
    have e : sumW (w :: ws) (m :: ms) = abI w * m + sumW ws ms := by unfold sumW; simp
    obtain ⟨i1, i2, i3⟩ := sumW_bound ws ms (n - 1) (by simp at hn; omega) (fun x hx => hw x (by simp [hx])) (fun x hx => hm x (by simp [hx]))
    obtain ⟨w0, w1⟩ := hw w (by simp)
    obtain ⟨m0, m1⟩ := hm m (by simp)
    have a0 : 1 ≤ abI w ∧ abI w ≤ 100 := by unfold abI; split <;> omega
    have p1 : 1 * 1 ≤ abI w * m := Int.mul_le_mul a0.1 m0 (by decide) (by omega)
    have p2 : abI w * m ≤ 100 * 60 := Int.mul_le_mul a0.2 m1 (by omega) (by decide)
    have hn1 : 1 ≤ n := by simp at hn; omega
    rw [e]
    exact ⟨by omega, by omega, fun _ _ => by omega⟩
theorem div_pos' {x y : Rat} (hx : 0 < x) (hy : 0 < y) : 0 < x / y := by
  rw [Rat.div_def]
  exact Rat.mul_pos hx (Rat.inv_pos.mpr hy)
theorem SsOk.mosts {b : Int} {ss : List (Int × Int)} (h : SsOk b ss) : ∀ m ∈ ss.map (·.2), 1 ≤ m ∧ m ≤ 60 := fun m hm => by
  obtain ⟨q, hq, rfl⟩ := List.mem_map.mp hm
  exact (h.each q hq).2
theorem SsOk.max {b : Int} {ss : List (Int × Int)} (h : SsOk b ss) : 1 ≤ maxI (ss.map (·.2)) ∧ maxI (ss.map (·.2)) ≤ 60 := by
  have hne : ss.map (·.2) ≠ [] := by
    have n0 := h.n0
    intro z
    have z2 : ss = [] := by simpa using z
    rw [z2] at n0
    exact absurd n0 (by decide)
  exact h.mosts _ (maxI_mem hne fun m hm => by have := h.mosts m hm; omega)
section
variable {b : Int} {ss : List (Int × Int)}
theorem SsOk.bp (h : SsOk b ss) : (0 : Rat) < (b : Rat) := ratpos (by have := h.b0; omega)
theorem SsOk.cp (h : SsOk b ss) : (0 : Rat) < ((b - 1 : Int) : Rat) := ratpos (by have := h.b0; omega)
theorem SsOk.cne (h : SsOk b ss) : (b - 1 : Int) ≠ 0 := by have := h.b0; omega
theorem SsOk.sb (h : SsOk b ss) {e : Int} (h1 : -30 ≤ e) (h2 : e ≤ 30) : Sz 121 ((b : Rat) ^ e) := (sz_zpow (k := e) (by have := h.b0; omega) (by have := h.b1; omega)).mono (by omega)
theorem SsOk.sf (h : SsOk b ss) {m : Int} (hm : m.natAbs < 2 ^ 12) : Sz 12 ((m : Rat) / ((b - 1 : Int) : Rat)) := sz_frac h.cne hm (by have := h.b0; have := h.b1; omega)
theorem mm_bound {m0 m1 : Int} (h0 : 1 ≤ m0 ∧ m0 ≤ 60) (h1 : 1 ≤ m1 ∧ m1 ≤ 60) : (m0 * m1).natAbs < 2 ^ 12 := by
  rw [Int.natAbs_mul]
  have := Nat.mul_le_mul (show m0.natAbs ≤ 60 by omega) (show m1.natAbs ≤ 60 by omega)
  omega
theorem SsOk.wide (h : SsOk b ss) {kd : Kd} (hk : kd.Ok ss) : 0 < kd.wide b ss ∧ Sz 398 (kd.wide b ss) := by
  have mx := h.max
  have mr : (0 : Rat) < ((maxI (ss.map (·.2)) : Int) : Rat) ∧ Sz 398 ((maxI (ss.map (·.2)) : Int) : Rat) := ⟨ratpos (by omega), (sz_int (n := 6) (by omega)).mono (by decide)⟩
  cases kd with
  | least => exact mr
  | most => exact mr
  | sum ws o =>
    obtain ⟨h1, h2, h3, h4⟩ := hk
    obtain ⟨s0, s1, s2⟩ := sumW_bound ws (ss.map (·.2)) 8 (by have := h.n1; omega) h4 h.mosts
    have s3 := s2 (by
      intro z; subst z
      have := h.n0; simp at h1; omega) (by
      have n0 := h.n0
      intro z
      have z2 : ss = [] := by simpa using z
      rw [z2] at n0
      exact absurd n0 (by decide))
    refine ⟨div_pos' (ratpos s3) (ratpos h2), (sz_frac (n := 20) (by omega) ?_ ?_).mono (by decide)⟩
    · omega
    · omega
  | times =>
    match ss, hk, h with
    | [(e0, m0), (e1, m1)], _, h =>
      obtain ⟨q0, q1⟩ := h.each (e0, m0) (by simp)
      obtain ⟨r0, r1⟩ := h.each (e1, m1) (by simp)
      simp only at q0 q1 r0 r1
      have p0 := Rat.zpow_pos (n := e0) h.bp
      have p1 := Rat.zpow_pos (n := e1) h.bp
      have mmp : (0 : Rat) < ((m0 * m1 : Int) : Rat) := ratpos (Int.mul_pos (by omega) (by omega))
      exact ⟨Rat.mul_pos (div_pos' mmp h.cp) (by grind), (sz_mul (h.sf (mm_bound q1 r1)) (sz_add (h.sb q0.1 q0.2) (h.sb r0.1 r0.2))).mono (by decide)⟩
  | over k =>
    obtain ⟨hl, k0, k1⟩ := hk
    match ss, hl, h with
    | [(e0, m0), (e1, m1)], _, h =>
      obtain ⟨q0, q1⟩ := h.each (e0, m0) (by simp)
      obtain ⟨r0, r1⟩ := h.each (e1, m1) (by simp)
      simp only at q0 q1 r0 r1
      have p0 := Rat.zpow_pos (n := e0) h.bp
      have pk := Rat.zpow_pos (n := k) h.bp
      have m0p : (0 : Rat) < (m0 : Rat) := ratpos (by omega)
      have m1p : (0 : Rat) < (m1 : Rat) := ratpos (by omega)
      have := Rat.mul_pos (Rat.mul_pos (div_pos' m1p h.cp) pk) p0
      have one : ((1 : Int) : Rat) = 1 := rfl
      have sk : Sz 25 ((b : Rat) ^ k) := (sz_zpow (k := k) (by have := h.b0; omega) (by have := h.b1; omega)).mono (by omega)
      have n0 : Sz 12 (m0 : Rat) := sz_int (by omega)
      have f1 := h.sf (m := m1) (by omega)
      have o1 : Sz 1 ((1 : Int) : Rat) := sz_int (by decide)
      exact ⟨Rat.mul_pos (Rat.mul_pos m0p pk) (by rw [one]; grind), (sz_mul (sz_mul n0 sk) (sz_add o1 (sz_mul (sz_mul f1 sk) (h.sb q0.1 q0.2)))).mono (by decide)⟩
/-- twice the width -/
def Kd.need (b : Int) (ss : List (Int × Int)) (kd : Kd) : Rat := ((2 : Int) : Rat) * kd.wide b ss
theorem SsOk.need (h : SsOk b ss) {kd : Kd} (hk : kd.Ok ss) : 0 < kd.need b ss ∧ Sz 400 (kd.need b ss) :=
  ⟨Rat.mul_pos (by decide) (h.wide hk).1, (sz_mul (sz_int (n := 2) (k := 2) (by decide)) (h.wide hk).2).mono (by decide)⟩
end
theorem IsLp.up {b room d : Int} {q : Rat} (hb : 1 ≤ b) (h : IsLp b room q d) : IsLp b room (q * (b : Rat)) (d + 1) := by
  have hp : (0 : Rat) < (b : Rat) := ratpos (by omega)
  have hn : (b : Rat) ≠ 0 := by grind
  have e2 : (b : Rat) ^ (d + 1 - 1) = (b : Rat) ^ (d - 1) * (b : Rat) := by
    rw [← Rat.zpow_add_one hn]; congr 1; omega
  obtain ⟨h1, h2⟩ := h
  constructor
  · rw [Rat.zpow_add_one hn]
    have := Rat.mul_le_mul_of_nonneg_right h1 (Rat.le_of_lt hp)
    grind
  · rw [e2]
    have := Rat.mul_lt_mul_of_pos_right h2 hp
    grind
/-- what told_lag is asked about -/
inductive TKd where
  | kd (k : Kd)
  | loose (xs : List D)
  | told (x : D)
  | choose
  | moved (k : Int)
def TKd.d : TKd → D
  | .kd k => k.d
  | .loose xs => .tup [.str "loose", .tup xs]
  | .told x => .tup [.str "told", x]
  | .choose => .tup [.str "choose"]
  | .moved k => .tup [.str "moved", .int k]
def TKd.Ok (b : Int) (ss : List (Int × Int)) (most : Int) : TKd → Prop
  | .kd k => SsOk b ss ∧ k.Ok ss ∧ b ≤ 2 * most ∧ most ≤ 60
  | _ => True
theorem dBools_mapF {α : Type} (F : α → Bool) (xs : List α) : dBools (xs.map fun a => .bl (F a)) = some (xs.map F) := by
  have := dBools_map (xs.map F)
  rwa [List.map_map] at this
/-! ### plain data -/
inductive Plain : Nat → D → Prop
  | non {n} : Plain n .non
  | bl {n b} : Plain n (.bl b)
  | int {n i} : Plain n (.int i)
  | str {n z} : Plain n (.str z)
  | lst {n ds} (hl : ds.length ≤ 100000) (h : ∀ y, y ∈ ds → Plain n y) : Plain (n + 1) (.lst ds)
  | tup {n ds} (hl : ds.length ≤ 100000) (h : ∀ y, y ∈ ds → Plain n y) : Plain (n + 1) (.tup ds)
theorem Plain.mono {n : Nat} {x : D} (h : Plain n x) : ∀ {m : Nat}, n ≤ m → Plain m x := by
  induction h with
  | non => intro m _; exact .non
  | bl => intro m _; exact .bl
  | int => intro m _; exact .int
  | str => intro m _; exact .str
  | lst hl h ih => intro m hm; cases m with
    | zero => omega
    | succ m => exact .lst hl fun y hy => ih y hy (by omega)
  | tup hl h ih => intro m hm; cases m with
    | zero => omega
    | succ m => exact .tup hl fun y hy => ih y hy (by omega)
/-! ### the same -/
def spr_Lsame : Nat → DSp
  | 0 => fun _ _ _ => False
  | n + 1 => fun ds S P => ∃ x, ds = [x, x] ∧ Plain n x ∧ P (.bl true) S
def sp_Lsame : DSp := spr_Lsame 6
def rd_Lsame (sp_Lsame : DSp) : DS :=
  (dSeq (dIfS (dTest (dCB cIsi (dCons (dVar 1) (dCons (dTup (dCons (dC (.ty "list")) (dCons (dC (.ty "tuple")) dNil))) dNil)))) (dSeq (dIfS (dOr (dTest (dOp dNe (dCB cIsi (dCons (dVar 0) (dCons (dC (.ty "list")) dNil))) (dCB cIsi (dCons (dVar 1) (dCons (dC (.ty "list")) dNil))))) (dTest (dOp dNe (dCB cIsi (dCons (dVar 0) (dCons (dC (.ty "tuple")) dNil))) (dCB cIsi (dCons (dVar 1) (dCons (dC (.ty "tuple")) dNil)))))) (dRet (dC (.bl false))) dNext)
  (dRet (dAndV (dOp dEq (dCB cLen (dCons (dVar 0) dNil)) (dCB cLen (dCons (dVar 1) dNil))) (dCB cAll (dCons (dLc (dZip (dCons (dVar 0) (dCons (dVar 1) dNil))) (.tp [(.nm 2), (.nm 3)]) dYes (dCB sp_Lsame (dCons (dVar 2) (dCons (dVar 3) dNil)))) dNil))))) dNext)
  (dSeq (dIfS (dOr (dTest (dOp dNe (dCB cIsi (dCons (dVar 0) (dCons (dC (.ty "bool")) dNil))) (dCB cIsi (dCons (dVar 1) (dCons (dC (.ty "bool")) dNil))))) (dTest (dOp dNe (dCB cIsi (dCons (dVar 0) (dCons (dC (.ty "int")) dNil))) (dCB cIsi (dCons (dVar 1) (dCons (dC (.ty "int")) dNil)))))) (dRet (dC (.bl false))) dNext)
  (dRet (dOp dEq (dVar 0) (dVar 1)))))
def goal_Lsame : Prop := ∀ (n : Nat) (x0 x1 : D) (S : Store) (P : D → Store → Prop), spr_Lsame (n + 1) [x0, x1] S P → rd_Lsame (spr_Lsame n) (dEnd P) [some x0, some x1, none, none] S
theorem z_Lsame : ∀ ds S P, spr_Lsame 0 ds S P → False := fun _ _ _ h => h
theorem len_Lsame : ∀ n ds S P, spr_Lsame n ds S P → ds.length = 2
  | 0, _, _, _, h => h.elim
  | n + 1, _, _, _, ⟨x, rfl, _⟩ => rfl
theorem zipD_self (ds : List D) : zipD ds ds = ds.map fun d => .tup [d, d] := by
  unfold zipD
  induction ds with
  | nil => rfl
  | cons d ds ih => simp [ih]
theorem all_same {t : Tgt} {de : DE} {P : D → Store → Prop} {ds : List D} {f : D → D} {ρ : DSt} {S : Store} (hl : ds.length ≤ 100000)
    (h : ∀ d, d ∈ ds → ∃ ρ', t.put (f d) (dwipe ρ t.slots) = some ρ' ∧ ∀ Q : D → Store → Prop, Q (.bl true) S → de ρ' S Q) (q : P (.bl true) S) : LcB t dYes de (fun x S1 => cAll [x] S1 P) (ds.map f) ρ S := by
  refine lc_mapA f (fun _ => .bl true) hl h ?_
  unfold cAll
  simp only [lstOf, Option.bind]
  have e : (ds.map fun _ => D.bl true) = (ds.map fun _ => true).map D.bl := by rw [List.map_map]; rfl
  rw [e, dBools_map]
  have e2 : (ds.map fun _ => true).all id = true := by simp
  simp only [e2]
  exact q
theorem vc_Lsame : goal_Lsame := by
  rintro n x0 x1 S P ⟨x, e, hp, h⟩
  cases e
  unfold rd_Lsame
  cases hp with
  | non => walk_at "dgo"; exact h
  | bl => walk_at "dgo"; exact h
  | int => walk_at "dgo"; exact h
  | str => walk_at "dgo"; exact h
  | lst hl hy =>
    walk_at "dgo"
    rw [zipD_self]
    refine all_same hl (fun d hd => ⟨_, rfl, fun Q q => ?_⟩) h
    walk_at "dgo"
    exact ⟨d, rfl, hy d hd, q⟩
  | tup hl hy =>
    walk_at "dgo"
    rw [zipD_self]
    refine all_same hl (fun d hd => ⟨_, rfl, fun Q q => ?_⟩) h
    walk_at "dgo"
    exact ⟨d, rfl, hy d hd, q⟩
theorem dcut_mem {xs : List D} {lo hi : Option Int} {y : D} (h : y ∈ dcut xs lo hi) : y ∈ xs := List.mem_of_mem_drop (List.mem_of_mem_take h)
theorem dcut_len (xs : List D) (lo hi : Option Int) : (dcut xs lo hi).length ≤ xs.length := by
  unfold dcut
  rw [List.length_take, List.length_drop]
  omega
/-- plain, of a text so long at most -/
def Gd (n c : Nat) (x : D) : Prop := Plain n x ∧ Rpd (n + 1) c x
theorem Gd.mono {n c n' c' : Nat} {x : D} (h : Gd n c x) (h1 : n ≤ n') (h2 : c ≤ c') : Gd n' c' x := ⟨h.1.mono h1, h.2.mono (by omega) h2⟩
theorem gd_int {i : Int} (h : i.natAbs < 10 ^ 12 := by omega) : Gd 0 13 (.int i) := ⟨.int, rp_int h⟩
/-! ### rows -/
structure Rw where
  e : Int
  m : Int
  fs : List Int
def Rw.d (r : Rw) : D := .tup [.int r.e, .int r.m, .tup (r.fs.map .int)]
/-- rows as they are drawn -/
structure Rw.Drawn (b : Int) (r : Rw) : Prop where
  e0 : -12 ≤ r.e
  e1 : r.e ≤ 12
  m0 : b ≤ 2 * r.m
  m1 : r.m ≤ 60
  l : r.fs.length ≤ 60
  f : ∀ f, f ∈ r.fs → -r.m ≤ f ∧ f ≤ r.m
/-- what a drawn row's parts are -/
theorem Rw.Drawn.figs {b : Int} {r : Rw} (h : r.Drawn b) : ∀ y, y ∈ r.fs.map D.int → Gd 0 13 y := fun y hy => by
  obtain ⟨f, hf, rfl⟩ := List.mem_map.mp hy
  have := h.f f hf
  have := h.m1
  exact gd_int
theorem flat_rep {α : Type} (a : α) : ∀ n : Nat, (List.replicate n [a]).flatten = List.replicate n a
  | 0 => rfl
  | n + 1 => by rw [List.replicate_succ, List.flatten_cons, flat_rep a n]; rfl
/-! ### stores that grow -/
def Grown (S S' : Store) : Prop := ∀ a m, S a = some m → S' a = some m
theorem Grown.refl {S : Store} : Grown S S := fun _ _ h => h
theorem Grown.trans {S S1 S2 : Store} (h : Grown S S1) (h2 : Grown S1 S2) : Grown S S2 := fun a m e => h2 a m (h a m e)
theorem Grown.new {S : Store} {p : Addr} {m : MO} (n : S p = none) : Grown S (supd S p m) := fun a x e => by
  unfold supd
  rw [if_neg fun z => by rw [z, n] at e; cases e]; exact e
/-- what was new is written again -/
theorem Grown.again {S S1 : Store} {p : Addr} {m : MO} (h : Grown S S1) (n : S p = none) : Grown S (supd S1 p m) := fun a x e => by
  unfold supd
  rw [if_neg fun z => by rw [z, n] at e; cases e]; exact h a x e
theorem Grown.ne {S : Store} {p q : Addr} {m : MO} (h : S p = some m) (n : S q = none) : p ≠ q := fun z => by rw [z, n] at h; cases h
theorem BoxAt.grown {S S' : Store} {p : Addr} {n : Nat} (h : BoxAt S p n) (g : Grown S S') : BoxAt S' p n := by
  obtain ⟨a, s, t, e, r⟩ := h
  exact ⟨a, s, t, g _ _ e, r⟩
theorem dct_dK {S : Store} {a : Addr} {kvs : List (Key × D)} (h : S a = some (.dK kvs)) : dctOf S (.obj a) = some kvs := by
  show (match S a with | some (.dK kvs) => some kvs | some (.dZ _ _ kvs) => some kvs | _ => none) = _
  rw [h]
theorem dct_dZ {S : Store} {a : Addr} {o : Obj} {vs : List (Key × V)} {kvs : List (Key × D)} (h : S a = some (.dZ o vs kvs)) : dctOf S (.obj a) = some kvs := by
  show (match S a with | some (.dK kvs) => some kvs | some (.dZ _ _ kvs) => some kvs | _ => none) = _
  rw [h]
theorem dct_supd {S : Store} {a p : Addr} {m : MO} (h : a ≠ p) : dctOf (supd S p m) (.obj a) = dctOf S (.obj a) := by
  show (match supd S p m a with | some (.dK kvs) => some kvs | some (.dZ _ _ kvs) => some kvs | _ => none) = (match S a with | some (.dK kvs) => some kvs | some (.dZ _ _ kvs) => some kvs | _ => none)
  rw [supd_ne h]
/-! ### dicts with ints as keys -/
def kI {α : Type} (f : Int → α) (xs : List Int) : List (Key × α) := xs.map fun r => (.inl r, f r)
theorem kI_keys {α : Type} (f : Int → α) (xs : List Int) : (kI f xs).map (·.1) = xs.map Sum.inl := by
  unfold kI
  rw [List.map_map]; rfl
theorem kI_val {α : Type} (f : Int → α) (r : Int) : ∀ xs : List Int, dVal (kI f xs) (.inl r) = if r ∈ xs then some (f r) else none
  | [] => rfl
  | x :: xs => by
    show dVal ((Sum.inl x, f x) :: kI f xs) (.inl r) = _
    rw [dVal_cons, kI_val f r xs]
    by_cases e : x = r
    · subst e; simp
    · have e' : ¬ (Sum.inl x : Key) = .inl r := fun z => e (Sum.inl.inj z)
      have e2 : ¬ r = x := fun z => e z.symm
      rw [if_neg e']
      simp [e2]
theorem kI_len {α : Type} (f : Int → α) (xs : List Int) : (kI f xs).length = xs.length := List.length_map ..
theorem inl_mem {x : Int} {xs : List Int} : (Sum.inl x : Key) ∈ xs.map Sum.inl ↔ x ∈ xs := by
  rw [List.mem_map]
  exact ⟨fun ⟨y, h, e⟩ => Sum.inl.inj e ▸ h, fun h => ⟨x, h, rfl⟩⟩
theorem nd_inl {xs : List Int} (h : xs.Nodup) : (xs.map (Sum.inl : Int → Key)).Nodup := by
  unfold List.Nodup at *
  rw [List.pairwise_map]
  exact h.imp fun ne e => ne (Sum.inl.inj e)
theorem kI_put {α : Type} (f : Int → α) {xs : List Int} {r : Int} (h : r ∉ xs) : dPut (kI f xs) (.inl r) (f r) = kI f (xs ++ [r]) := by
  rw [dPut_new _ (by rw [kI_keys, inl_mem]; exact h)]
  unfold kI
  rw [List.map_append]; rfl
theorem take_nd {xs : List Int} (nd : xs.Nodup) {i : Nat} {r : Int} (h : xs[i]? = some r) : r ∉ xs.take i := by
  intro m
  obtain ⟨j, hj⟩ := List.mem_iff_getElem?.mp m
  have hji : j < i := by
    have := (List.getElem?_eq_some_iff.mp hj).1
    rw [List.length_take] at this
    omega
  rw [List.getElem?_take_of_lt hji] at hj
  obtain ⟨l1, e1⟩ := List.getElem?_eq_some_iff.mp h
  obtain ⟨l2, e2⟩ := List.getElem?_eq_some_iff.mp hj
  exact (List.pairwise_iff_getElem.mp nd j i l2 l1 hji) (e2.trans e1.symm)
/-- {r: f(r) for r in xs if p(r)}, the xs unlike one another -/
theorem dc_ints {t : Tgt} {tt : DT} {dk dv : DE} {P : D → Store → Prop} {ρ : DSt} {S1 : Store} {pin : Option (Store → Prop)} {ds : List D} (xs : List Int) (hds : ds = xs.map .int) (nd : xs.Nodup) (hl : xs.length ≤ 99999) (p : Int → Bool) (f : Int → D) (St : Nat → Store → Prop)
    (h0 : St 0 S1) (hpin : ∀ i S, St i S → PinOk pin S)
    (step : ∀ (i : Nat) (r : Int) (S : Store), xs[i]? = some r → St i S → ∃ ρ', t.put (.int r) (dwipe ρ t.slots) = some ρ' ∧ ∀ (K : D → D → Store → Prop) (N : Store → Prop), (p r = true → ∀ S4, St (i + 1) S4 → K (.int r) (f r) S4) → (p r = false → ∀ S2, St (i + 1) S2 → N S2) →
      tt ρ' S fun b S2 => if b = true then dk ρ' S2 fun y S3 => dv ρ' S3 fun z S4 => K y z S4 else N S2)
    (q : ∀ S2, St xs.length S2 → ∀ a, S2 a = none → P (.obj a) (supd S2 a (.dK (kI f (xs.filter p))))) :
    DcN t tt dk dv P ds pin ρ S1 := by
  subst hds
  refine ⟨fun i acc S => acc = kI f ((xs.take i).filter p) ∧ St i S, ⟨by simp [kI], h0⟩, fun i acc S h => hpin i S h.2, ?_, ?_⟩
  · rintro i d acc S hd ⟨ha, hs⟩
    rw [List.getElem?_map] at hd
    cases e : xs[i]? with
    | none => rw [e] at hd; cases hd
    | some r =>
      rw [e] at hd
      cases hd
      obtain ⟨ρ', h1, h2⟩ := step i r S e hs
      refine ⟨ρ', h1, h2 (fun y z S4 => ∃ k, keyOf y = some k ∧ acc.length < 100000 ∧ (dPut acc k z = kI f ((xs.take (i + 1)).filter p) ∧ St (i + 1) S4)) (fun S2 => acc = kI f ((xs.take (i + 1)).filter p) ∧ St (i + 1) S2) (fun hp S4 h4 => ?_) fun hp S2 h2 => ⟨?_, h2⟩⟩
      · refine ⟨.inl r, rfl, ?_, ?_, h4⟩
        · rw [ha, kI_len]
          have := List.length_filter_le p (xs.take i)
          rw [List.length_take] at this
          omega
        · have hn : r ∉ (xs.take i).filter p := fun m => take_nd nd e (List.mem_filter.mp m).1
          rw [ha, kI_put f hn, List.take_add_one, e, List.filter_append]
          simp [hp]
      · rw [ha, List.take_add_one, e, List.filter_append]
        simp [hp]
  · rintro acc S ⟨ha, hs⟩ a hn
    rw [List.length_map] at ha hs
    rw [List.take_length] at ha
    rw [ha]
    exact q S hs a hn
/-- [f(r) for r in xs if p(r)] -/
theorem lc_ints {t : Tgt} {tt : DT} {de : DE} {P : D → Store → Prop} {ρ : DSt} {S1 : Store} {pin : Option (Store → Prop)} {ds : List D} (xs : List Int) (hds : ds = xs.map .int) (hl : xs.length ≤ 100000) (p : Int → Bool) (f : Int → D) (St : Nat → Store → Prop)
    (h0 : St 0 S1) (hpin : ∀ i S, St i S → PinOk pin S)
    (step : ∀ (i : Nat) (r : Int) (S : Store), xs[i]? = some r → St i S → ∃ ρ', t.put (.int r) (dwipe ρ t.slots) = some ρ' ∧ ∀ (K : D → Store → Prop) (N : Store → Prop), (p r = true → ∀ S4, St (i + 1) S4 → K (f r) S4) → (p r = false → ∀ S2, St (i + 1) S2 → N S2) →
      tt ρ' S fun b S2 => if b = true then de ρ' S2 fun y S3 => K y S3 else N S2)
    (q : ∀ S2, St xs.length S2 → P (.lst ((xs.filter p).map f)) S2) : LcN t tt de P ds pin ρ S1 := by
  subst hds
  have main : (xs.map D.int).length ≤ 100000 ∧ ∃ W : Nat → List D → Store → Prop, W 0 [] S1 ∧ (∀ i acc S, W i acc S → PinOk pin S) ∧
      (∀ i d acc S, (xs.map D.int)[i]? = some d → W i acc S → ∃ ρ', t.put d (dwipe ρ t.slots) = some ρ' ∧ tt ρ' S fun b S2 => if b = true then de ρ' S2 fun y S3 => W (i + 1) (acc ++ [y]) S3 else W (i + 1) acc S2) ∧ ∀ acc S, W (xs.map D.int).length acc S → P (.lst acc) S := by
    refine ⟨by simpa using hl, fun i acc S => acc = ((xs.take i).filter p).map f ∧ St i S, ⟨by simp, h0⟩, fun i acc S h => hpin i S h.2, ?_, ?_⟩
    · rintro i d acc S hd ⟨ha, hs⟩
      rw [List.getElem?_map] at hd
      cases e : xs[i]? with
      | none => rw [e] at hd; cases hd
      | some r =>
        rw [e] at hd
        cases hd
        obtain ⟨ρ', h1, h2⟩ := step i r S e hs
        refine ⟨ρ', h1, h2 (fun y S3 => acc ++ [y] = ((xs.take (i + 1)).filter p).map f ∧ St (i + 1) S3) (fun S2 => acc = ((xs.take (i + 1)).filter p).map f ∧ St (i + 1) S2) (fun hp S4 h4 => ⟨?_, h4⟩) fun hp S2 h2 => ⟨?_, h2⟩⟩
        · rw [ha, List.take_add_one, e, List.filter_append]
          simp [hp]
        · rw [ha, List.take_add_one, e, List.filter_append]
          simp [hp]
    · rintro acc S ⟨ha, hs⟩
      rw [List.length_map] at ha hs
      rw [List.take_length] at ha
      rw [ha]
      exact q S hs
  obtain ⟨hl2, W, w0, wp, w1, w2⟩ := main
  cases pin with
  | none => exact ⟨hl2, W, w0, w1, w2⟩
  | some p => exact ⟨hl2, W, w0, wp, w1, w2⟩
theorem lcp_ints {t : Tgt} {tt : DT} {de : DE} {P : D → Store → Prop} {ρ : DSt} {S1 : Store} {pp : Store → Prop} {ds : List D} (xs : List Int) (hds : ds = xs.map .int) (hl : xs.length ≤ 100000) (p : Int → Bool) (f : Int → D) (St : Nat → Store → Prop)
    (h0 : St 0 S1) (hpin : ∀ i S, St i S → PinOk (some pp) S)
    (step : ∀ (i : Nat) (r : Int) (S : Store), xs[i]? = some r → St i S → ∃ ρ', t.put (.int r) (dwipe ρ t.slots) = some ρ' ∧ ∀ (K : D → Store → Prop) (N : Store → Prop), (p r = true → ∀ S4, St (i + 1) S4 → K (f r) S4) → (p r = false → ∀ S2, St (i + 1) S2 → N S2) →
      tt ρ' S fun b S2 => if b = true then de ρ' S2 fun y S3 => K y S3 else N S2)
    (q : ∀ S2, St xs.length S2 → P (.lst ((xs.filter p).map f)) S2) : LcP t tt de P ds pp ρ S1 := lc_ints (pin := some pp) xs hds hl p f St h0 hpin step q
theorem lcb_ints {t : Tgt} {tt : DT} {de : DE} {P : D → Store → Prop} {ρ : DSt} {S1 : Store} {ds : List D} (xs : List Int) (hds : ds = xs.map .int) (hl : xs.length ≤ 100000) (p : Int → Bool) (f : Int → D) (St : Nat → Store → Prop)
    (h0 : St 0 S1)
    (step : ∀ (i : Nat) (r : Int) (S : Store), xs[i]? = some r → St i S → ∃ ρ', t.put (.int r) (dwipe ρ t.slots) = some ρ' ∧ ∀ (K : D → Store → Prop) (N : Store → Prop), (p r = true → ∀ S4, St (i + 1) S4 → K (f r) S4) → (p r = false → ∀ S2, St (i + 1) S2 → N S2) →
      tt ρ' S fun b S2 => if b = true then de ρ' S2 fun y S3 => K y S3 else N S2)
    (q : ∀ S2, St xs.length S2 → P (.lst ((xs.filter p).map f)) S2) : LcB t tt de P ds ρ S1 := lc_ints (pin := none) xs hds hl p f St h0 (fun _ _ _ => trivial) step q
/-! ### lists of numbers -/
/-- range(lo, hi) -/
def irg (lo hi : Int) : List Int := (List.range (hi - lo).toNat).map fun (i : Nat) => lo + (i : Int)
theorem mem_irg {lo hi x : Int} : x ∈ irg lo hi ↔ lo ≤ x ∧ x < hi := by
  unfold irg
  rw [List.mem_map]
  constructor
  · rintro ⟨i, hi', rfl⟩
    have := List.mem_range.mp hi'
    omega
  · rintro ⟨h1, h2⟩
    exact ⟨(x - lo).toNat, List.mem_range.mpr (by omega), by omega⟩
theorem irg_len (lo hi : Int) : (irg lo hi).length = (hi - lo).toNat := by simp [irg]
theorem rng_irg (lo hi : Int) : rng lo (hi - lo).toNat = (irg lo hi).map .int := by
  unfold rng irg
  rw [List.map_map]; rfl
theorem irg_lt (lo hi : Int) : (irg lo hi).Pairwise (· < ·) := by
  unfold irg
  rw [List.pairwise_map]
  exact List.pairwise_lt_range.imp fun h => by omega
theorem nd_lt {xs : List Int} (h : xs.Pairwise (· < ·)) : xs.Nodup := h.imp fun h => by omega
theorem irg_nd (lo hi : Int) : (irg lo hi).Nodup := nd_lt (irg_lt lo hi)
/-- rising, just the members of l -/
structure Srt (l ys : List Int) : Prop where
  lt : ys.Pairwise (· < ·)
  mem : ∀ k, k ∈ ys ↔ k ∈ l
theorem srt_uniq : ∀ {ys zs : List Int}, ys.Pairwise (· < ·) → zs.Pairwise (· < ·) → (∀ k, k ∈ ys ↔ k ∈ zs) → ys = zs
  | [], [], _, _, _ => rfl
  | [], z :: zs, _, _, h => by have := (h z).2 (by simp); simp at this
  | y :: ys, [], _, _, h => by have := (h y).1 (by simp); simp at this
  | y :: ys, z :: zs, h1, h2, h => by
    rw [List.pairwise_cons] at h1 h2
    have e : y = z := by
      have a1 := (h y).1 (by simp)
      have a2 := (h z).2 (by simp)
      rcases List.mem_cons.mp a1 with q | q
      · exact q
      · rcases List.mem_cons.mp a2 with r | r
        · exact r.symm
        · have := h1.1 z r
          have := h2.1 y q
          omega
    subst e
    rw [srt_uniq h1.2 h2.2 fun k => ?_]
    constructor
    · intro hk
      have := h1.1 k hk
      rcases List.mem_cons.mp ((h k).1 (by simp [hk])) with q | q
      · omega
      · exact q
    · intro hk
      have := h2.1 k hk
      rcases List.mem_cons.mp ((h k).2 (by simp [hk])) with q | q
      · omega
      · exact q
theorem Srt.uniq {l l' ys zs : List Int} (h : Srt l ys) (h' : Srt l' zs) (e : ∀ k, k ∈ l ↔ k ∈ l') : ys = zs := srt_uniq h.lt h'.lt fun k => (h.mem k).trans ((e k).trans (h'.mem k).symm)
theorem srt_perm {ks ys : List Int} (nd : ks.Nodup) (p : ys.Perm ks) (h : ys.Pairwise (· ≤ ·)) : Srt ks ys := by
  refine ⟨?_, fun k => p.mem_iff⟩
  have n2 : ys.Nodup := p.nodup_iff.mpr nd
  have := h.and n2
  exact this.imp fun ⟨a, b⟩ => by omega
theorem nd_sub_len : ∀ {c l : List Int}, c.Nodup → (∀ k, k ∈ c → k ∈ l) → c.length ≤ l.length
  | [], l, _, _ => by simp
  | a :: c, l, h, hs => by
    rw [List.nodup_cons] at h
    have ha : a ∈ l := hs a (by simp)
    have := nd_sub_len (c := c) (l := l.erase a) h.2 fun k hk => by
      have hne : k ≠ a := fun e => h.1 (e ▸ hk)
      exact (List.mem_erase_of_ne hne).2 (hs k (by simp [hk]))
    rw [List.length_erase_of_mem ha] at this
    have := List.length_pos_of_mem ha
    simp only [List.length_cons]
    omega
/-! ### all that may come in a place -/
/-- all sums, one source more -/
def addS (acc : List Int) (p : Int × Int) : List Int := acc.flatMap fun one => (irg (-p.2) (p.2 + 1)).map fun f => one + p.1 * f
def sumsR (ps : List (Int × Int)) : List Int := ps.foldl addS [0]
/-- the greatest of them -/
def addT (T : Int) (p : Int × Int) : Int := T + (p.1.natAbs : Int) * p.2
def topR (ps : List (Int × Int)) : Int := ps.foldl addT 0
theorem mem_addS {acc : List Int} {p : Int × Int} {x : Int} : x ∈ addS acc p ↔ ∃ one ∈ acc, ∃ f, -p.2 ≤ f ∧ f ≤ p.2 ∧ x = one + p.1 * f := by
  unfold addS
  rw [List.mem_flatMap]
  constructor
  · rintro ⟨one, h1, h2⟩
    obtain ⟨f, hf, rfl⟩ := List.mem_map.mp h2
    rw [mem_irg] at hf
    exact ⟨one, h1, f, by omega, by omega, rfl⟩
  · rintro ⟨one, h1, f, h2, h3, rfl⟩
    exact ⟨one, h1, List.mem_map.mpr ⟨f, mem_irg.mpr ⟨h2, by omega⟩, rfl⟩⟩
theorem addS_congr {a b : List Int} (h : ∀ k, k ∈ a ↔ k ∈ b) (p : Int × Int) (x : Int) : x ∈ addS a p ↔ x ∈ addS b p := by
  rw [mem_addS, mem_addS]
  constructor
  · rintro ⟨one, h1, r⟩; exact ⟨one, (h one).1 h1, r⟩
  · rintro ⟨one, h1, r⟩; exact ⟨one, (h one).2 h1, r⟩
theorem abs_mul_le {w f m : Int} (h1 : -m ≤ f) (h2 : f ≤ m) : -((w.natAbs : Int) * m) ≤ w * f ∧ w * f ≤ (w.natAbs : Int) * m := by
  rcases Int.le_total 0 w with h | h
  · have e : (w.natAbs : Int) = w := by omega
    rw [e]
    have a := Int.mul_le_mul_of_nonneg_left h1 h
    have b := Int.mul_le_mul_of_nonneg_left h2 h
    rw [Int.mul_neg] at a
    omega
  · have e : (w.natAbs : Int) = -w := by omega
    rw [e]
    have a := Int.mul_le_mul_of_nonneg_left h1 (show (0 : Int) ≤ -w by omega)
    have b := Int.mul_le_mul_of_nonneg_left h2 (show (0 : Int) ≤ -w by omega)
    rw [Int.mul_neg] at a
    rw [Int.neg_mul, Int.neg_mul] at a b
    rw [Int.neg_mul]
    omega
theorem addS_bound {acc : List Int} {p : Int × Int} {T : Int} (h : ∀ x ∈ acc, -T ≤ x ∧ x ≤ T) : ∀ x ∈ addS acc p, -(addT T p) ≤ x ∧ x ≤ addT T p := by
  unfold addT
  intro x hx
  obtain ⟨one, h1, f, h2, h3, rfl⟩ := mem_addS.mp hx
  have a := h one h1
  have b := abs_mul_le (w := p.1) h2 h3
  omega
theorem sums_bound : ∀ (ps : List (Int × Int)) (acc : List Int) (T : Int), (∀ x ∈ acc, -T ≤ x ∧ x ≤ T) → ∀ x ∈ ps.foldl addS acc, -(ps.foldl addT T) ≤ x ∧ x ≤ ps.foldl addT T
  | [], _, _, h => h
  | p :: ps, acc, T, h => sums_bound ps _ _ (addS_bound h)
theorem sumsR_bound {ps : List (Int × Int)} : ∀ x ∈ sumsR ps, -(topR ps) ≤ x ∧ x ≤ topR ps := sums_bound ps [0] 0 (by simp)
theorem zero_addS {acc : List Int} {p : Int × Int} (h : 0 ∈ acc) (hp : 0 ≤ p.2) : 0 ∈ addS acc p := mem_addS.mpr ⟨0, h, 0, by omega, hp, by simp⟩
theorem zero_sums : ∀ (ps : List (Int × Int)) (acc : List Int), 0 ∈ acc → (∀ p ∈ ps, 0 ≤ p.2) → 0 ∈ ps.foldl addS acc
  | [], _, h, _ => h
  | p :: ps, acc, h, hp => zero_sums ps _ (zero_addS h (hp p (by simp))) fun q hq => hp q (by simp [hq])
theorem zero_sumsR {ps : List (Int × Int)} (hp : ∀ p ∈ ps, 0 ≤ p.2) : 0 ∈ sumsR ps := zero_sums ps [0] (by simp) hp
/-! ### a game -/
structure Gm where
  b : Int
  w : Int
  st : Int
  sums : List Int
def Gm.top (g : Gm) : Int := g.sums.getLastD 0
def Gm.gr (g : Gm) : Int := (g.st * g.w - g.top).fdiv (g.b - 1)
def Gm.rests (g : Gm) : List Int := irg (-g.gr) (g.gr + 1)
def Gm.led (g : Gm) (a : Int) : List Int := (irg (max (-g.w) (-((g.gr - a).fdiv g.st))) (min g.w ((a + g.gr).fdiv g.st) + 1)).map fun f => a - f * g.st
/-- some figure leads to one of those held -/
def Gm.heldB (g : Gm) (H : List Int) (a : Int) : Bool := (g.led a).any fun x => decide (x ∈ H)
/-- the first sum behind which none does -/
def Gm.fatal (g : Gm) (H : List Int) (r : Int) : Option Int := g.sums.find? fun s => !g.heldB H (g.b * r + s)
def Gm.safe (g : Gm) (H : List Int) (r : Int) : Bool := (g.fatal H r).isNone
/-- the rests that go, each with its rank and its sum -/
def Gm.gone (g : Gm) (H : List Int) (k : Int) : List (Int × Int × Int) := (H.filter fun r => !g.safe H r).map fun r => (r, k, (g.fatal H r).getD 0)
def Gm.ranksN (g : Gm) : Nat → List (Int × Int × Int) → List Int → Int → List (Int × Int × Int) × List Int
  | 0, found, H, _ => (found, H)
  | n + 1, found, H, k => if H.all (g.safe H) = true then (found, H) else g.ranksN n (found ++ g.gone H k) (H.filter (g.safe H)) (k + 1)
def Gm.ranks (g : Gm) : List (Int × Int × Int) × List Int := g.ranksN (g.rests.length + 1) [] g.rests 0
/-- what is wanted of a game -/
structure GmOk (g : Gm) : Prop where
  b0 : 2 ≤ g.b
  b1 : g.b ≤ 16
  w0 : 0 ≤ g.w
  w1 : g.w ≤ 1000
  s0 : 0 < g.st
  s1 : g.st < 2 ^ 40
  ne : g.sums ≠ []
  sl : g.sums.length ≤ 2000
  sb : ∀ s ∈ g.sums, s.natAbs < 2 ^ 40
  few : 2 * g.gr + 1 ≤ 2000
theorem fdiv_lt_iff {a x k : Int} (hk : 0 < k) : x ≤ a.fdiv k ↔ x * k ≤ a := by
  rw [Int.fdiv_eq_ediv_of_nonneg _ (by omega)]
  exact Int.le_ediv_iff_mul_le hk
theorem mem_led {g : Gm} (h0 : 0 < g.st) {a x : Int} : x ∈ g.led a ↔ ∃ f, -g.w ≤ f ∧ f ≤ g.w ∧ x = a - f * g.st ∧ -g.gr ≤ x ∧ x ≤ g.gr := by
  unfold Gm.led
  rw [List.mem_map]
  constructor
  · rintro ⟨f, hf, rfl⟩
    rw [mem_irg] at hf
    have h1 : -f ≤ (g.gr - a).fdiv g.st := by omega
    have h2 : f ≤ (a + g.gr).fdiv g.st := by omega
    rw [fdiv_lt_iff h0] at h1 h2
    rw [Int.neg_mul] at h1
    exact ⟨f, by omega, by omega, rfl, by omega, by omega⟩
  · rintro ⟨f, h1, h2, rfl, h3, h4⟩
    refine ⟨f, mem_irg.mpr ⟨?_, ?_⟩, rfl⟩
    · have : -f ≤ (g.gr - a).fdiv g.st := by
        rw [fdiv_lt_iff h0, Int.neg_mul]; omega
      omega
    · have : f ≤ (a + g.gr).fdiv g.st := by
        rw [fdiv_lt_iff h0]; omega
      omega
theorem filter_lt {α : Type} {p : α → Bool} : ∀ {l : List α}, ¬ l.all p = true → (l.filter p).length < l.length
  | [], h => by simp at h
  | a :: l, h => by
    rw [List.all_cons] at h
    cases e : p a with
    | true =>
      rw [e, Bool.true_and] at h
      have := filter_lt h
      rw [List.filter_cons_of_pos e]
      simpa using this
    | false =>
      rw [List.filter_cons_of_neg (by rw [e]; simp)]
      have := List.length_filter_le p l
      simp only [List.length_cons]; omega
theorem ranksN_fuel (g : Gm) : ∀ (n m : Nat) (found : List (Int × Int × Int)) (H : List Int) (k : Int), H.length + 1 ≤ n → H.length + 1 ≤ m → g.ranksN n found H k = g.ranksN m found H k
  | 0, m, found, H, k, h, _ => by omega
  | n + 1, 0, found, H, k, _, h => by omega
  | n + 1, m + 1, found, H, k, h1, h2 => by
    unfold Gm.ranksN
    by_cases e : H.all (g.safe H) = true
    · rw [if_pos e, if_pos e]
    · rw [if_neg e, if_neg e]
      have := filter_lt e
      exact ranksN_fuel g n m _ _ _ (by omega) (by omega)
/-- one turn more -/
theorem ranksN_step (g : Gm) {found : List (Int × Int × Int)} {H : List Int} {k : Int} (h : ¬ H.all (g.safe H) = true) : g.ranksN (H.length + 1) found H k = g.ranksN ((H.filter (g.safe H)).length + 1) (found ++ g.gone H k) (H.filter (g.safe H)) (k + 1) := by
  rw [show g.ranksN (H.length + 1) found H k = g.ranksN H.length (found ++ g.gone H k) (H.filter (g.safe H)) (k + 1) from by
    show (if H.all (g.safe H) = true then (found, H) else g.ranksN H.length (found ++ g.gone H k) (H.filter (g.safe H)) (k + 1)) = _
    rw [if_neg h]]
  have := filter_lt h
  exact ranksN_fuel g _ _ _ _ _ (by omega) (by omega)
theorem ranksN_end (g : Gm) {found : List (Int × Int × Int)} {H : List Int} {k : Int} (h : H.all (g.safe H) = true) : g.ranksN (H.length + 1) found H k = (found, H) := by
  show (if H.all (g.safe H) = true then (found, H) else g.ranksN H.length (found ++ g.gone H k) (H.filter (g.safe H)) (k + 1)) = _
  rw [if_pos h]
/-! ### == of lists of ints -/
theorem eqv_intsG : ∀ xs ys : List Int, PyData.eqvAll (xs.map PyData.int) (ys.map PyData.int) = decide (xs = ys)
  | [], [] => rfl
  | [], _ :: _ => rfl
  | _ :: _, [] => rfl
  | x :: xs, y :: ys => by
    simp only [List.map_cons, PyData.eqvAll, PyData.eqv, eqv_intsG xs ys]
    rw [Bool.eq_iff_iff]
    simp
theorem py_intsG : ∀ xs : List Int, D.pyL (xs.map D.int) = some (xs.map PyData.int)
  | [] => rfl
  | x :: xs => by simp only [List.map_cons, D.pyL, D.py, py_intsG xs]
theorem lay_intsG : ∀ xs : List Int, PyData.canLayAll0 (xs.map PyData.int) = true
  | [] => rfl
  | x :: xs => by simp [PyData.canLayAll0, PyData.canLay0, lay_intsG xs]
theorem dep_intsG : ∀ xs : List Int, PyData.depthAll (xs.map PyData.int) ≤ 1
  | [] => by simp [PyData.depthAll]
  | x :: xs => by
    have := dep_intsG xs
    simp [PyData.depthAll, PyData.depth]
    omega
theorem shaped_intsG (xs : List Int) : SeqAt.shaped (.list (xs.map PyData.int)) = true := by
  have := dep_intsG xs
  simp [SeqAt.shaped, PyData.canLay0, PyData.depth, lay_intsG xs]
  omega
theorem eqB_intsG (xs ys : List Int) : dEqB (.lst (xs.map D.int)) (.lst (ys.map D.int)) = some (decide (xs = ys)) := by
  have h : dEqB (.lst (xs.map D.int)) (.lst (ys.map D.int)) = some (PyData.eqvAll (xs.map PyData.int) (ys.map PyData.int)) := by
    simp only [dEqB, D.py, py_intsG, Option.map_some, shaped_intsG, and_self, reduceIte, PyData.eqv]
  rw [h, eqv_intsG]
/-! ### isinstance of dict, of (bool, str) -/
theorem isiG_non_dict {S : Store} {P : D → Store → Prop} : cIsi [.non, .ty "dict"] S P = P (.bl false) S := propext ⟨fun h => h.2, fun h => ⟨by decide, h⟩⟩
theorem isiG_bl_dict {k : Bool} {S : Store} {P : D → Store → Prop} : cIsi [(.bl k), .ty "dict"] S P = P (.bl false) S := propext ⟨fun h => h.2, fun h => ⟨by decide, h⟩⟩
theorem isiG_int_dict {k : Int} {S : Store} {P : D → Store → Prop} : cIsi [(.int k), .ty "dict"] S P = P (.bl false) S := propext ⟨fun h => h.2, fun h => ⟨by decide, h⟩⟩
theorem isiG_str_dict {k : Str} {S : Store} {P : D → Store → Prop} : cIsi [(.str k), .ty "dict"] S P = P (.bl false) S := propext ⟨fun h => h.2, fun h => ⟨by decide, h⟩⟩
theorem isiG_lst_dict {k : List D} {S : Store} {P : D → Store → Prop} : cIsi [(.lst k), .ty "dict"] S P = P (.bl false) S := propext ⟨fun h => h.2, fun h => ⟨by decide, h⟩⟩
theorem isiG_tup_dict {k : List D} {S : Store} {P : D → Store → Prop} : cIsi [(.tup k), .ty "dict"] S P = P (.bl false) S := propext ⟨fun h => h.2, fun h => ⟨by decide, h⟩⟩
theorem isiG_non_bs {S : Store} {P : D → Store → Prop} : cIsi [.non, .tup [.ty "bool", .ty "str"]] S P = P (.bl false) S := rfl
theorem isiG_bl_bs {k : Bool} {S : Store} {P : D → Store → Prop} : cIsi [(.bl k), .tup [.ty "bool", .ty "str"]] S P = P (.bl true) S := rfl
theorem isiG_int_bs {k : Int} {S : Store} {P : D → Store → Prop} : cIsi [(.int k), .tup [.ty "bool", .ty "str"]] S P = P (.bl false) S := rfl
theorem isiG_str_bs {k : Str} {S : Store} {P : D → Store → Prop} : cIsi [(.str k), .tup [.ty "bool", .ty "str"]] S P = P (.bl true) S := rfl
theorem isiG_lst_bs {k : List D} {S : Store} {P : D → Store → Prop} : cIsi [(.lst k), .tup [.ty "bool", .ty "str"]] S P = P (.bl false) S := rfl
theorem isiG_tup_bs {k : List D} {S : Store} {P : D → Store → Prop} : cIsi [(.tup k), .tup [.ty "bool", .ty "str"]] S P = P (.bl false) S := rfl
theorem pwR {b : Int} (b0 : 1 ≤ b) {n m : Nat} (h : n ≤ m) : b ^ n ≤ b ^ m := by
  obtain ⟨k, rfl⟩ : ∃ k, m = n + k := ⟨m - n, by omega⟩
  rw [Int.pow_add]
  have h1 : 1 ≤ b ^ k := Int.pow_pos (by omega)
  have h2 : 1 ≤ b ^ n := Int.pow_pos (by omega)
  have := Int.mul_le_mul_of_nonneg_left h1 (show 0 ≤ b ^ n by omega)
  omega
theorem pw2 {b : Int} (b0 : 2 ≤ b) : ∀ n : Nat, (2 : Int) ^ n ≤ b ^ n
  | 0 => by simp
  | n + 1 => by
    rw [Int.pow_succ, Int.pow_succ]
    exact Int.mul_le_mul (pw2 b0 n) b0 (by omega) (by have : 0 < b ^ n := Int.pow_pos (by omega); omega)
structure Mz where
  b : Int
  v : Int
  m : Int
  W : Int
def Mz.u (M : Mz) (L : Int) : Int := M.v * M.b ^ (L + 8).toNat
def Mz.room (M : Mz) (L : Int) : Int := M.u L * M.m - M.W * M.b ^ 9
def Mz.ok (M : Mz) (R L d : Int) : Prop := (M.b - 1) * (R - d * M.u L) ≤ M.room L ∧ -(M.room L) ≤ (M.b - 1) * (R - d * M.u L)
structure Mz.Ok (M : Mz) : Prop where
  b0 : 2 ≤ M.b
  b1 : M.b ≤ 10
  v0 : 1 ≤ M.v
  v1 : M.v ≤ 60
  v2 : M.v ≤ 25 ∨ 3 ≤ M.b
  m0 : 1 ≤ M.m
  m1 : M.m ≤ 20
  W0 : 1 ≤ M.W
  W1 : M.W ≤ 200
def Mz.Inv (M : Mz) (R L : Int) : Prop := (M.b - 1) * R + M.W * M.b ^ 9 ≤ M.b * (M.u L * M.m) ∧ -((M.b - 1) * R) + M.W * M.b ^ 9 ≤ M.b * (M.u L * M.m)
/-- the right figure least in size, if there is one -/
def Mz.Nx (M : Mz) (R L : Int) : Option Int → Prop
  | none => ∀ d, ¬ M.ok R L d
  | some d => M.ok R L d ∧ ∀ e, M.ok R L e → d.natAbs ≤ e.natAbs
theorem Mz.Ok.u0 {M : Mz} (h : M.Ok) (L : Int) : 1 ≤ M.u L := by
  have h1 : 1 ≤ M.b ^ (L + 8).toNat := Int.pow_pos (by have := h.b0; omega)
  have := Int.mul_le_mul h.v0 h1 (by omega) (by have := h.v0; omega)
  unfold Mz.u; omega
theorem Mz.ok_mid {M : Mz} {R L d : Int} (h1 : M.ok R L d) (h2 : M.ok R L (-d)) : M.ok R L 0 := by
  unfold Mz.ok at *
  rw [Int.mul_sub] at *
  rw [Int.neg_mul, Int.mul_neg] at h2
  rw [Int.zero_mul, Int.mul_zero]
  generalize (M.b - 1) * (d * M.u L) = y at *
  generalize (M.b - 1) * R = x at *
  omega
theorem Mz.Nx.uniq {M : Mz} {R L : Int} {o o' : Option Int} (h : M.Nx R L o) (h' : M.Nx R L o') : o = o' := by
  cases o with
  | none =>
    cases o' with
    | none => rfl
    | some d => exact absurd h'.1 (h d)
  | some d =>
    cases o' with
    | none => exact absurd h.1 (h' d)
    | some e =>
      have a := h.2 e h'.1
      have a' := h'.2 d h.1
      by_cases q : d = e
      · rw [q]
      · have : e = -d := by omega
        subst this
        have z := h.2 0 (Mz.ok_mid h.1 h'.1)
        have : d = 0 := by simp at z; exact z
        subst this
        exact absurd rfl q
theorem Mz.Ok.pw {M : Mz} (h : M.Ok) (n : Nat) : 1 ≤ M.b ^ n := Int.pow_pos (by have := h.b0; omega)
/-- where a figure is right the lead is -7 at least -/
theorem Mz.ok_lead {M : Mz} (ho : M.Ok) {R L d : Int} (h : M.ok R L d) : -7 ≤ L := by
  apply Decidable.byContradiction
  intro hl
  have b0 := ho.b0
  unfold Mz.ok Mz.room at h
  have h1 : M.W * M.b ^ 9 ≤ M.u L * M.m := by omega
  have h2 : (L + 8).toNat = 0 := by omega
  unfold Mz.u at h1
  rw [h2, Int.pow_zero, Int.mul_one] at h1
  have h5 : M.b ^ 9 ≤ M.W * M.b ^ 9 := by
    have := Int.mul_le_mul_of_nonneg_right ho.W0 (show 0 ≤ M.b ^ 9 by have := ho.pw 9; omega)
    rw [Int.one_mul] at this; exact this
  have v0 := ho.v0; have m0 := ho.m0
  rcases ho.v2 with v2 | v2
  · have h4 : M.v * M.m ≤ 25 * 20 := Int.mul_le_mul v2 ho.m1 (by omega) (by decide)
    have h7 := pw2 b0 9
    rw [show (2 : Int) ^ 9 = 512 by decide] at h7
    omega
  · have h4 : M.v * M.m ≤ 60 * 20 := Int.mul_le_mul ho.v1 ho.m1 (by omega) (by decide)
    have h7 : (3 : Int) ^ 9 ≤ M.b ^ 9 := by
      have key : ∀ n : Nat, (3 : Int) ^ n ≤ M.b ^ n := fun n => by
        induction n with
        | zero => simp
        | succ n ih =>
          rw [Int.pow_succ, Int.pow_succ]
          exact Int.mul_le_mul ih v2 (by omega) (by have : 0 < M.b ^ n := Int.pow_pos (by omega); omega)
      exact key 9
    rw [show (3 : Int) ^ 9 = 19683 by decide] at h7
    omega
inductive Mz.Stl (M : Mz) : Int → Int → Int → Int → Prop
  | stop {R L : Int} : M.Nx R L none → Stl M R L R L
  | go {R L d R' L' : Int} : M.Nx R L (some d) → Stl M (R - d * M.u L) (L - 1) R' L' → Stl M R L R' L'
theorem Mz.Stl.uniq {M : Mz} {R L A B A' B' : Int} (h : M.Stl R L A B) (h' : M.Stl R L A' B') : A = A' ∧ B = B' := by
  induction h with
  | stop n =>
    cases h' with
    | stop _ => exact ⟨rfl, rfl⟩
    | go n' _ => cases n.uniq n'
  | go n _ ih =>
    cases h' with
    | stop n' => cases n.uniq n'
    | go n' s' =>
      cases n.uniq n'
      exact ih s'
theorem Mz.u_down {M : Mz} {L : Int} (h : -7 ≤ L) : M.u L = M.b * M.u (L - 1) := by
  unfold Mz.u
  rw [show (L + 8).toNat = (L - 1 + 8).toNat + 1 by omega, Int.pow_succ, ← Int.mul_assoc, Int.mul_comm M.b]
theorem Mz.Inv.give {M : Mz} {R L d : Int} (ho : M.Ok) (h : M.ok R L d) : M.Inv (R - d * M.u L) (L - 1) := by
  have hl := Mz.ok_lead ho h
  unfold Mz.ok Mz.room Mz.Inv at *
  rw [Mz.u_down (by omega), Int.mul_assoc] at h
  rw [Mz.u_down (M := M) (L := L) (by omega)]
  generalize (M.b - 1) * (R - d * (M.b * M.u (L - 1))) = x at *
  omega
theorem Mz.Inv.read {M : Mz} {R L c : Int} (ho : M.Ok) (hl : -8 ≤ L) (h : M.Inv R L) (c0 : -M.W ≤ c) (c1 : c ≤ M.W) : M.Inv (R * M.b + c * M.b ^ 9) (L + 1) := by
  have b0 := ho.b0
  have k1 : M.u (L + 1) = M.b * M.u L := by
    have := Mz.u_down (M := M) (L := L + 1) (by omega)
    rwa [show L + 1 - 1 = L by omega] at this
  unfold Mz.Inv at *
  obtain ⟨i1, i2⟩ := h
  rw [k1]
  have p := ho.pw 9
  have j1 := Int.mul_le_mul_of_nonneg_left i1 (show 0 ≤ M.b by omega)
  have j2 := Int.mul_le_mul_of_nonneg_left i2 (show 0 ≤ M.b by omega)
  have q1 : (M.b - 1) * (c * M.b ^ 9) ≤ (M.b - 1) * (M.W * M.b ^ 9) := Int.mul_le_mul_of_nonneg_left (Int.mul_le_mul_of_nonneg_right c1 (by omega)) (by omega)
  have q2 : (M.b - 1) * (-M.W * M.b ^ 9) ≤ (M.b - 1) * (c * M.b ^ 9) := Int.mul_le_mul_of_nonneg_left (Int.mul_le_mul_of_nonneg_right c0 (by omega)) (by omega)
  rw [Int.neg_mul, Int.mul_neg] at q2
  rw [show (M.b - 1) * (M.W * M.b ^ 9) = M.b * (M.W * M.b ^ 9) - M.W * M.b ^ 9 by rw [Int.sub_mul, Int.one_mul]] at q1 q2
  rw [Int.mul_add] at j1 j2
  rw [Int.mul_add, show (M.b - 1) * (R * M.b) = M.b * ((M.b - 1) * R) by rw [← Int.mul_assoc, Int.mul_comm _ M.b]]
  rw [show M.b * (M.b * M.u L * M.m) = M.b * (M.b * (M.u L * M.m)) by rw [Int.mul_assoc M.b (M.u L)]]
  rw [Int.mul_neg] at j2
  generalize M.b * ((M.b - 1) * R) = x at *
  generalize (M.b - 1) * (c * M.b ^ 9) = y at *
  generalize M.b * (M.W * M.b ^ 9) = z at *
  generalize M.W * M.b ^ 9 = w at *
  omega
/-- a state of the program (its rest grows below 0) and the same state in one scale -/
def Mz.Rel (M : Mz) (r R L : Int) : Prop := r * M.b ^ 9 = R * M.b ^ (-L).toNat ∧ -8 ≤ L
/-- what step_at tells -/
def Mz.here (M : Mz) (r L : Int) : Int := if 0 < L then r else r * M.b
def Mz.stp (M : Mz) (L : Int) : Int := if 0 < L then M.v * M.b ^ (L - 1).toNat else M.v
def Mz.wid (M : Mz) (L : Int) : Int := if 0 < L then M.W else M.W * M.b ^ (1 - L).toNat
theorem Mz.scale {M : Mz} (ho : M.Ok) {r R L : Int} (h : M.Rel r R L) : ∃ k : Int, 0 < k ∧ M.here r L * k = R ∧ M.stp L * k = M.u L ∧ M.wid L * k = M.W * M.b ^ 9 := by
  obtain ⟨h1, h2⟩ := h
  have b0 := ho.b0
  unfold Mz.here Mz.stp Mz.wid Mz.u
  by_cases q : 0 < L
  · refine ⟨M.b ^ 9, by have := ho.pw 9; omega, ?_, ?_, ?_⟩
    · rw [if_pos q, h1, show (-L).toNat = 0 by omega, Int.pow_zero, Int.mul_one]
    · rw [if_pos q, Int.mul_assoc, ← Int.pow_add, show (L - 1).toNat + 9 = (L + 8).toNat by omega]
    · rw [if_pos q]
  · refine ⟨M.b ^ (L + 8).toNat, by have := ho.pw (L + 8).toNat; omega, ?_, ?_, ?_⟩
    · rw [if_neg q]
      have e : r * M.b * M.b ^ (L + 8).toNat * M.b ^ (-L).toNat = R * M.b ^ (-L).toNat := by
        rw [← h1, Int.mul_assoc, Int.mul_assoc, ← Int.pow_add, ← Int.pow_succ']
        rw [show (L + 8).toNat + (-L).toNat + 1 = 9 by omega]
      exact Int.eq_of_mul_eq_mul_right (by have := ho.pw (-L).toNat; omega) e
    · rw [if_neg q]
    · rw [if_neg q, Int.mul_assoc, ← Int.pow_add, show (1 - L).toNat + (L + 8).toNat = 9 by omega]
theorem Mz.room9 {M : Mz} (ho : M.Ok) : 0 ≤ M.room 9 := by
  have b0 := ho.b0
  unfold Mz.room Mz.u
  rw [show ((9 : Int) + 8).toNat = 8 + 9 by rfl, Int.pow_add]
  have h1 : (256 : Int) ≤ M.b ^ 8 := by
    have := pw2 b0 8
    rwa [show (2 : Int) ^ 8 = 256 by decide] at this
  have p := ho.pw 9
  have h2 : M.W * M.b ^ 9 ≤ 256 * M.b ^ 9 := Int.mul_le_mul_of_nonneg_right (by have := ho.W1; omega) (by omega)
  have h3 : 256 * M.b ^ 9 ≤ M.b ^ 8 * M.b ^ 9 := Int.mul_le_mul_of_nonneg_right h1 (by omega)
  have h4 : 1 * (M.b ^ 8 * M.b ^ 9) ≤ M.v * (M.b ^ 8 * M.b ^ 9) := Int.mul_le_mul_of_nonneg_right ho.v0 (by omega)
  have h5 : M.v * (M.b ^ 8 * M.b ^ 9) * 1 ≤ M.v * (M.b ^ 8 * M.b ^ 9) * M.m := Int.mul_le_mul_of_nonneg_left ho.m0 (by omega)
  omega
/-- rows, place by place -/
inductive Mz.Led (M : Mz) : List Int → Int → Int → Prop
  | nil {R L : Int} : M.Stl 0 9 R L → Led M [] R L
  | more {cs : List Int} {c R L R' L' : Int} : Led M cs R L → M.Stl (R * M.b + c * M.b ^ 9) (L + 1) R' L' → Led M (cs ++ [c]) R' L'
theorem Mz.Led.nil_inv {M : Mz} {R L : Int} (h : M.Led [] R L) : M.Stl 0 9 R L := by
  generalize e : ([] : List Int) = l at h
  cases h with
  | nil s => exact s
  | more a b => simp at e
theorem Mz.Led.more_inv {M : Mz} {cs : List Int} {c R' L' : Int} (h : M.Led (cs ++ [c]) R' L') : ∃ R L, M.Led cs R L ∧ M.Stl (R * M.b + c * M.b ^ 9) (L + 1) R' L' := by
  generalize e : cs ++ [c] = l at h
  cases h with
  | nil s => simp at e
  | more a s =>
    obtain ⟨rfl, e2⟩ := List.append_inj' e rfl
    cases e2
    exact ⟨_, _, a, s⟩
theorem Mz.Led.uniq {M : Mz} {cs : List Int} {R L R' L' : Int} (h : M.Led cs R L) : M.Led cs R' L' → R = R' ∧ L = L' := by
  induction h generalizing R' L' with
  | nil s => exact fun h' => s.uniq h'.nil_inv
  | more a s ih =>
    intro h'
    obtain ⟨R1, L1, a', s'⟩ := h'.more_inv
    obtain ⟨rfl, rfl⟩ := ih a'
    exact s.uniq s'
/-- the invariant along a settling -/
theorem Mz.Stl.keep {M : Mz} (ho : M.Ok) {R L R' L' : Int} (h : M.Stl R L R' L') : M.Inv R L → -8 ≤ L → M.Inv R' L' ∧ -8 ≤ L' ∧ L' ≤ L := by
  induction h with
  | stop n => exact fun i l => ⟨i, l, Int.le_refl _⟩
  | go n _ ih =>
    intro i l
    have hl := Mz.ok_lead ho n.1
    obtain ⟨a, b, c⟩ := ih (Mz.Inv.give ho n.1) (by omega)
    exact ⟨a, b, by omega⟩
theorem Mz.inv9 {M : Mz} (ho : M.Ok) : M.Inv 0 9 := by
  have h := Mz.room9 ho
  have b0 := ho.b0; have u0 := ho.u0 9; have m0 := ho.m0
  unfold Mz.Inv
  rw [Int.mul_zero]
  unfold Mz.room at h
  have h1 : 0 ≤ M.u 9 * M.m := Int.mul_nonneg (by omega) (by omega)
  have h2 := Int.mul_le_mul_of_nonneg_right (show 1 ≤ M.b by omega) h1
  omega
theorem Mz.Led.keep {M : Mz} (ho : M.Ok) {cs : List Int} {R L : Int} (h : M.Led cs R L) : (∀ c, c ∈ cs → -M.W ≤ c ∧ c ≤ M.W) → M.Inv R L ∧ -8 ≤ L ∧ L ≤ 9 + cs.length := by
  induction h with
  | nil s =>
    intro _
    obtain ⟨a, b, c⟩ := s.keep ho (Mz.inv9 ho) (by omega)
    exact ⟨a, b, by simpa using c⟩
  | more a s ih =>
    intro hc
    obtain ⟨i, l, u⟩ := ih fun c hc' => hc c (List.mem_append_left _ hc')
    obtain ⟨c0, c1⟩ := hc _ (List.mem_append_right _ (List.mem_singleton.mpr rfl))
    obtain ⟨i', l', u'⟩ := s.keep ho (Mz.Inv.read ho l i c0 c1) (by omega)
    exact ⟨i', l', by simp; omega⟩
theorem pow16 {b : Int} (b0 : 2 ≤ b) (b1 : b ≤ 16) : ∀ n : Nat, b ^ n ≤ 2 ^ (4 * n)
  | 0 => by simp
  | n + 1 => by
    rw [Int.pow_succ, show 4 * (n + 1) = 4 * n + 4 by omega, Int.pow_add]
    have h0 : 0 < b ^ n := Int.pow_pos (by omega)
    exact Int.mul_le_mul (pow16 b0 b1 n) (by rw [show (2 : Int) ^ 4 = 16 by decide]; exact b1) (by omega) (by have : (0 : Int) < 2 ^ (4 * n) := Int.pow_pos (by decide); omega)
theorem Mz.Ok.u1 {M : Mz} (ho : M.Ok) {L : Int} (l1 : L ≤ 800) : M.u L ≤ 2 ^ 3238 := by
  have b0 := ho.b0; have b1 := ho.b1
  unfold Mz.u
  have h1 : M.b ^ (L + 8).toNat ≤ 2 ^ 3232 := Int.le_trans (pow16 b0 (by omega) _) (pwR (by decide) (by omega))
  have h2 := Int.mul_le_mul (show M.v ≤ 2 ^ 6 by have := ho.v1; rw [show (2 : Int) ^ 6 = 64 by decide]; omega) h1 (by have := ho.pw (L + 8).toNat; omega) (by decide)
  rw [← Int.pow_add] at h2
  exact h2
theorem Mz.Inv.bd {M : Mz} (ho : M.Ok) {R L : Int} (I : M.Inv R L) (l1 : L ≤ 800) : R.natAbs < 2 ^ 3250 := by
  have b0 := ho.b0; have b1 := ho.b1
  unfold Mz.Inv at I
  obtain ⟨i1, i2⟩ := I
  have u0 := ho.u0 L
  have h1 : M.u L * M.m ≤ 2 ^ 3238 * 2 ^ 5 := Int.mul_le_mul (ho.u1 l1) (by have := ho.m1; rw [show (2 : Int) ^ 5 = 32 by decide]; omega) (by have := ho.m0; omega) (Int.le_of_lt (Int.pow_pos (by decide)))
  have m0 := ho.m0
  have h0 : 0 ≤ M.u L * M.m := Int.mul_nonneg (by omega) (by omega)
  have h2 : M.b * (M.u L * M.m) ≤ 2 ^ 4 * (2 ^ 3238 * 2 ^ 5) := Int.mul_le_mul (by rw [show (2 : Int) ^ 4 = 16 by decide]; omega) h1 h0 (by decide)
  have h3 : (2 : Int) ^ 4 * (2 ^ 3238 * 2 ^ 5) = 2 ^ 3247 := by rw [← Int.pow_add, ← Int.pow_add]
  rw [h3] at h2
  have w0 : 0 ≤ M.W * M.b ^ 9 := Int.mul_nonneg (by have := ho.W0; omega) (by have := ho.pw 9; omega)
  have k1 : (M.b - 1) * R ≤ 2 ^ 3247 := by omega
  have k2 : (M.b - 1) * (-R) ≤ 2 ^ 3247 := by rw [Int.mul_neg]; omega
  have k3 : R ≤ 2 ^ 3247 := by
    by_cases q : 0 ≤ R
    · have := Int.mul_le_mul_of_nonneg_right (show 1 ≤ M.b - 1 by omega) q; omega
    · have : (0 : Int) < 2 ^ 3247 := Int.pow_pos (by decide); omega
  have k4 : -R ≤ 2 ^ 3247 := by
    by_cases q : 0 ≤ -R
    · have := Int.mul_le_mul_of_nonneg_right (show 1 ≤ M.b - 1 by omega) q; omega
    · have : (0 : Int) < 2 ^ 3247 := Int.pow_pos (by decide); omega
  have k5 : (2 : Int) ^ 3247 < 2 ^ 3250 := by
    rw [show (3250 : Nat) = 3247 + 3 by rfl, Int.pow_add]
    have : (0 : Int) < 2 ^ 3247 := Int.pow_pos (by decide)
    rw [show (2 : Int) ^ 3 = 8 by decide]; omega
  have k6 : ((2 ^ 3250 : Nat) : Int) = 2 ^ 3250 := Int.natCast_pow 2 3250
  have : (R.natAbs : Int) < ((2 ^ 3250 : Nat) : Int) := by rw [k6]; omega
  exact Int.ofNat_lt.mp this
theorem Mz.Rel.bd {M : Mz} (ho : M.Ok) {r R L : Int} (hr : M.Rel r R L) (h : R.natAbs < 2 ^ 3250) : r.natAbs < 2 ^ 3250 := by
  obtain ⟨h1, h2⟩ := hr
  have b0 := ho.b0
  have e : M.b ^ 9 = M.b ^ (9 - (-L).toNat) * M.b ^ (-L).toNat := by rw [← Int.pow_add, show 9 - (-L).toNat + (-L).toNat = 9 by omega]
  rw [e, ← Int.mul_assoc] at h1
  have h3 := Int.eq_of_mul_eq_mul_right (by have := ho.pw (-L).toNat; omega) h1
  have h4 : R.natAbs = r.natAbs * (M.b ^ (9 - (-L).toNat)).natAbs := by rw [← h3, Int.natAbs_mul]
  have h5 : 1 ≤ (M.b ^ (9 - (-L).toNat)).natAbs := by have := ho.pw (9 - (-L).toNat); omega
  have := Nat.le_mul_of_pos_right r.natAbs h5
  omega
end Lb

/-! Games: the program's defs walked. -/
namespace Lb
open PySem PySem.Spec PyProof.Rows L2 DL
variable [CT]
local macro_rules | `(tactic| walk_at "dg5") => `(tactic| try simp only [isiG_non_dict, isiG_bl_dict, isiG_int_dict, isiG_str_dict, isiG_lst_dict, isiG_tup_dict, isiG_non_bs, isiG_bl_bs, isiG_int_bs, isiG_str_bs, isiG_lst_bs, isiG_tup_bs, dCall, dNewD, dDisp, dPrs, dkvsOf, dDGet, dDIn, dDGet1, dDGet2, dDPut, dDPop1, dDPop2, dDUpd, cLenD, cListD, cListDM, cDictD, cDictP, cSortDB, cSortL, dBack, dItKeys, dItItems, dItVals, keyOf_int, keyOf_str, dDc, dDc2, dLstR1, dLstR2, dFld, dSetFld, dFldAdd, dMeth, dMake, dMakeK, dFld2, put_tl, dSeq, dSet, dPar, dOp, dUn, dVar, dC, dCB, dCons, dNil, dTup, dLst, dLstM, dIfS, dIf, dTest, dNot, dAnd, dOr, dAndV, dOrV, dNotV, dRet, dRetN, dEnd, dNext, dAdd, dSub, dMul, dFdiv, dMod, dPow, dNeg, dLt, dLe, dGt, dGe, dEq, dNe, eqB_ii, eqB_bb, eqB_ss, eqB_nn, eqB_ni, eqB_in, eqB_ns, eqB_sn, eqB_is, eqB_si, eqB_nb, eqB_bn, dIx, dIn, dIsN, dNotN, DL.isNon, cAbs, cMax2, cMin2, cInt, cLen, cList, cTuple, dIsB, dNotB, dPar3, ForN, LcN, pinOf, pin2, dEnum2, dAppend, supd_same0, isi_non_int, isi_non_bool, isi_non_str, isi_non_list, isi_non_tuple, isi_non_lt, isi_bl_int, isi_bl_bool, isi_bl_str, isi_bl_list, isi_bl_tuple, isi_bl_lt, isi_int_int, isi_int_bool, isi_int_str, isi_int_list, isi_int_tuple, isi_int_lt, isi_str_int, isi_str_bool, isi_str_str, isi_str_list, isi_str_tuple, isi_str_lt, isi_lst_int, isi_lst_bool, isi_lst_str, isi_lst_list, isi_lst_tuple, isi_lst_lt, isi_tup_int, isi_tup_bool, isi_tup_str, isi_tup_list, isi_tup_tuple, isi_tup_lt, dAug, dIAdd, dIMul, dDrop, dSl, dPart, dNoPart, dRevL, dCallK, dChainR, dAsg, put_nm, put_tp, put_tl, putL_nil, putL_cons, Option.bind, seqOf, lstOf, dFor, dLc, dLcM, dItSeq, dZip, dZipS, dEnum, dRng1, dRng2, dYes, dwipe, Tgt.slots, Tgt.slotsL,
  atI_0, atI_1, atI_2, atI_3, List.getElem?_cons_zero, List.getElem?_cons_succ, List.set_cons_zero, List.set_cons_succ, decide_eq_true_eq, List.length_cons, List.length_nil, List.cons_append, List.nil_append, List.append_nil, ofString_inj, String.reduceEq, decide_true, decide_false, reduceIte, Bool.false_eq_true, Bool.not_true, Bool.not_false, eqFlat, isFlat, List.any_cons, List.any_nil, List.all_cons, List.all_nil, Bool.or_false, Bool.or_true, Bool.false_or, Bool.true_or, Bool.and_true, Bool.true_and, true_and, and_true, Nat.reduceAdd, Nat.reduceLeDiff, Int.reduceLT, Int.reduceLE, Int.reduceNeg])
def GF (g : Gm) : List (Str × D) := [("own_base", .int g.b), ("own_most", .int g.w), ("own_step", .int g.st), ("own_sums", .lst (g.sums.map .int))]
def GAt (S : Store) (p : Addr) (g : Gm) : Prop := S p = some (.ins (CT.at_ 3) (GF g))
/-- the shares and mosts of a game -/
structure SumOk (ws ms : List Int) : Prop where
  l : ws.length = ms.length
  w : ∀ w ∈ ws, w.natAbs ≤ 1000
  m0 : ∀ m ∈ ms, 0 ≤ m
  m1 : ∀ m ∈ ms, m ≤ 1000
  n : (sumsR (ws.zip ms)).length ≤ 99999
def sp_wall : DSp := fun _ _ _ => False
def sp_sums_of : DSp := fun ds S P => ∃ ws ms : List Int, ds = [.tup (ws.map .int), .tup (ms.map .int)] ∧ SumOk ws ms ∧ ∀ ys S', Srt (sumsR (ws.zip ms)) ys → Grown S S' → P (.lst (ys.map .int)) S'
def sp_Game_init : DSp := fun ds S P => ∃ (p : Addr) (b over most lag : Int) (ws ms : List Int), ds = [.obj p, .int b, .tup (ws.map .int), .int over, .tup (ms.map .int), .int most, .int lag] ∧ S p = some (.ins (CT.at_ 3) []) ∧ SumOk ws ms ∧ 0 < b ∧ b ≤ 16 ∧ 0 < over ∧ over < 2 ^ 60 ∧ 0 ≤ lag ∧ lag ≤ 900 ∧
  ∀ g S', g.b = b → g.w = most → g.st = over * b ^ lag.toNat → Srt (sumsR (ws.zip ms)) g.sums → GAt S' p g → (∀ a m, a ≠ p → S a = some m → S' a = some m) → P .non S'
def sp_Game_is_lost : DSp := fun _ _ _ => False
def sp_Game_greatest : DSp := fun ds S P => ∃ (p : Addr) (g : Gm), ds = [.obj p] ∧ GAt S p g ∧ GmOk g ∧ P (.int g.gr) S
def sp_Game_rests : DSp := fun ds S P => ∃ (p : Addr) (g : Gm), ds = [.obj p] ∧ GAt S p g ∧ GmOk g ∧ P (.lst (g.rests.map .int)) S
def sp_Game_look : DSp := fun ds S P => ∃ (p : Addr) (g : Gm), ds = [.obj p] ∧ GAt S p g ∧ GmOk g ∧ P .non S
def sp_Game_led_to : DSp := fun ds S P => ∃ (p : Addr) (g : Gm) (a : Int), ds = [.obj p, .int a] ∧ GAt S p g ∧ GmOk g ∧ a.natAbs < 2 ^ 60 ∧ P (.lst ((g.led a).map .int)) S
/-- h is a dict whose keys are the rests H -/
def HeldAt (S : Store) (h : Addr) (H : List Int) : Prop := ∃ kvs, dctOf S (.obj h) = some kvs ∧ kvs.map (·.1) = H.map Sum.inl
def sp_Game_is_held : DSp := fun ds S P => ∃ (p h : Addr) (g : Gm) (H : List Int) (r s : Int), ds = [.obj p, .int r, .int s, .obj h] ∧ GAt S p g ∧ GmOk g ∧ HeldAt S h H ∧ r.natAbs < 2 ^ 40 ∧ s.natAbs < 2 ^ 40 ∧ P (.bl (g.heldB H (g.b * r + s))) S
/-- what is known: of some rests whether they lead to one of those held -/
def KnOk (g : Gm) (H : List Int) (kk : List (Key × D)) : Prop := ∀ q ∈ kk, ∃ a, q = (.inl a, .bl (g.heldB H a))
def optI : Option Int → D
  | none => .non
  | some i => .int i
def sp_Game_first_fatal : DSp := fun ds S P => ∃ (p k h : Addr) (g : Gm) (H : List Int) (r : Int) (kk : List (Key × D)), ds = [.obj p, .int r, .obj k, .obj h] ∧ GAt S p g ∧ GmOk g ∧ HeldAt S h H ∧ h ≠ k ∧ r.natAbs < 2 ^ 40 ∧ S k = some (.dK kk) ∧ KnOk g H kk ∧ kk.length + g.sums.length ≤ 99999 ∧
  ∀ kk', KnOk g H kk' → kk'.length ≤ kk.length + g.sums.length → P (optI (g.fatal H r)) (supd S k (.dK kk'))
def fndD (t : Int × Int × Int) : Key × D := (.inl t.1, .tup [.int t.2.1, .int t.2.2])
def sp_Game_ranks : DSp := fun ds S P => ∃ (p : Addr) (g : Gm), ds = [.obj p] ∧ GAt S p g ∧ GmOk g ∧ g.rests.length * g.sums.length ≤ 99999 ∧ ∀ f h kvs S', Grown S S' → f ≠ h → S' f = some (.dK (g.ranks.1.map fndD)) → S' h = some (.dK kvs) → kvs.map (·.1) = g.ranks.2.map Sum.inl → P (.tup [.obj f, .obj h]) S'
def rd_sums_of : DS :=
  (dSeq (dSet 2 (dDisp [((dC (.int 0)), (dC (.bl true)))]))
  (dSeq (dFor (dZipS (dCons (dVar 0) (dCons (dVar 1) dNil))) (.tp [(.nm 3), (.nm 4)]) (dLock (dSet 2 (dDc2 (dItKeys (dVar 2)) (.nm 5) dYes (dRng2 (dCons (dUn dNeg (dVar 4)) (dCons (dOp dAdd (dVar 4) (dC (.int 1))) dNil))) (.nm 6) dYes (dOp dAdd (dVar 5) (dOp dMul (dVar 3) (dVar 6))) (dC (.bl true))))))
  (dRet (dCB cSortDB (dCons (dVar 2) dNil)))))
def goal_sums_of : Prop := ∀ (x0 x1 : D) (S : Store) (P : D → Store → Prop), sp_sums_of [x0, x1] S P → rd_sums_of (dEnd P) [some x0, some x1, none, none, none, none, none] S
def rd_Game_init : DS :=
  (dSeq (dSetFld 3 "own_base" (dVar 0) (dVar 1))
  (dSeq (dSetFld 3 "own_most" (dVar 0) (dVar 5))
  (dSeq (dSetFld 3 "own_step" (dVar 0) (dOp dMul (dVar 3) (dOp dIx (dCB sp_power (dCons (dVar 1) (dCons (dVar 6) dNil))) (dC (.int 0)))))
  (dSetFld 3 "own_sums" (dVar 0) (dCB sp_sums_of (dCons (dVar 2) (dCons (dVar 4) dNil)))))))
def goal_Game_init : Prop := ∀ (x0 x1 x2 x3 x4 x5 x6 : D) (S : Store) (P : D → Store → Prop), sp_Game_init [x0, x1, x2, x3, x4, x5, x6] S P → rd_Game_init (dEnd P) [some x0, some x1, some x2, some x3, some x4, some x5, some x6] S
def rd_Game_is_lost : DS :=
  (dDrop (dCB sp_wall (dCons (dC (.int 0)) dNil)))
def goal_Game_is_lost : Prop := ∀ (x0 x1 : D) (S : Store) (P : D → Store → Prop), sp_Game_is_lost [x0, x1] S P → rd_Game_is_lost (dEnd P) [some x0, some x1] S
def rd_Game_greatest : DS :=
  (dRet (dOp dFdiv (dOp dSub (dOp dMul (dFld 3 "own_step" (dVar 0)) (dFld 3 "own_most" (dVar 0))) (dOp dIx (dFld 3 "own_sums" (dVar 0)) (dUn dNeg (dC (.int 1))))) (dOp dSub (dFld 3 "own_base" (dVar 0)) (dC (.int 1)))))
def goal_Game_greatest : Prop := ∀ (x0 : D) (S : Store) (P : D → Store → Prop), sp_Game_greatest [x0] S P → rd_Game_greatest (dEnd P) [some x0] S
def rd_Game_rests : DS :=
  (dRet (dLstR2 (dUn dNeg (dMeth 3 "greatest" sp_Game_greatest (dVar 0) dNil)) (dOp dAdd (dMeth 3 "greatest" sp_Game_greatest (dVar 0) dNil) (dC (.int 1)))))
def goal_Game_rests : Prop := ∀ (x0 : D) (S : Store) (P : D → Store → Prop), sp_Game_rests [x0] S P → rd_Game_rests (dEnd P) [some x0] S
def rd_Game_look : DS :=
  (dSeq (dSet 1 (dCB cMax2 (dCons (dC (.int 0)) (dCons (dOp dAdd (dOp dMul (dC (.int 2)) (dMeth 3 "greatest" sp_Game_greatest (dVar 0) dNil)) (dC (.int 1))) dNil))))
  (dIfS (dTest (dOp dGt (dVar 1) (dC (.int 2000)))) dNever dNext))
def goal_Game_look : Prop := ∀ (x0 : D) (S : Store) (P : D → Store → Prop), sp_Game_look [x0] S P → rd_Game_look (dEnd P) [some x0, none] S
def rd_Game_led_to : DS :=
  (dSeq (dSet 2 (dCB cMax2 (dCons (dUn dNeg (dFld 3 "own_most" (dVar 0))) (dCons (dUn dNeg (dOp dFdiv (dOp dSub (dMeth 3 "greatest" sp_Game_greatest (dVar 0) dNil) (dVar 1)) (dFld 3 "own_step" (dVar 0)))) dNil))))
  (dSeq (dSet 3 (dCB cMin2 (dCons (dFld 3 "own_most" (dVar 0)) (dCons (dOp dFdiv (dOp dAdd (dVar 1) (dMeth 3 "greatest" sp_Game_greatest (dVar 0) dNil)) (dFld 3 "own_step" (dVar 0))) dNil))))
  (dRet (dLc (dRng2 (dCons (dVar 2) (dCons (dOp dAdd (dVar 3) (dC (.int 1))) dNil))) (.nm 4) dYes (dOp dSub (dVar 1) (dOp dMul (dVar 4) (dFld 3 "own_step" (dVar 0))))))))
def goal_Game_led_to : Prop := ∀ (x0 x1 : D) (S : Store) (P : D → Store → Prop), sp_Game_led_to [x0, x1] S P → rd_Game_led_to (dEnd P) [some x0, some x1, none, none, none] S
def rd_Game_is_held : DS :=
  (dRet (dCB cAny (dCons (dLc (dItSeq (dMeth 3 "led_to" sp_Game_led_to (dVar 0) (dCons (dOp dAdd (dOp dMul (dFld 3 "own_base" (dVar 0)) (dVar 1)) (dVar 2)) dNil))) (.nm 4) dYes (dOp (dDIn false) (dVar 4) (dVar 3))) dNil)))
def goal_Game_is_held : Prop := ∀ (x0 x1 x2 x3 : D) (S : Store) (P : D → Store → Prop), sp_Game_is_held [x0, x1, x2, x3] S P → rd_Game_is_held (dEnd P) [some x0, some x1, some x2, some x3, none] S
def rd_Game_first_fatal : DS :=
  (dSeq (dFor (dItSeq (dFld 3 "own_sums" (dVar 0))) (.nm 4) (dSeq (dSet 5 (dOp dAdd (dOp dMul (dFld 3 "own_base" (dVar 0)) (dVar 1)) (dVar 4)))
  (dSeq (dIfS (dTest (dOp (dDIn true) (dVar 5) (dVar 2))) (dDPut (dVar 2) (dVar 5) (dMeth 3 "is_held" sp_Game_is_held (dVar 0) (dCons (dVar 1) (dCons (dVar 4) (dCons (dVar 3) dNil))))) dNext)
  (dIfS (dNot (dTest (dOp dDGet (dVar 2) (dVar 5)))) (dRet (dVar 4)) dNext))))
  (dRet (dC .non)))
def goal_Game_first_fatal : Prop := ∀ (x0 x1 x2 x3 : D) (S : Store) (P : D → Store → Prop), sp_Game_first_fatal [x0, x1, x2, x3] S P → rd_Game_first_fatal (dEnd P) [some x0, some x1, some x2, some x3, none, none] S
def rd_Game_ranks_1 : DS :=
  (dSeq (dSet 5 dNewD)
  (dSeq (dSet 6 (dLockE (dDc (dItKeys (dVar 2)) (.nm 3) dYes (dVar 3) (dMeth 3 "first_fatal" sp_Game_first_fatal (dVar 0) (dCons (dVar 3) (dCons (dVar 5) (dCons (dVar 2) dNil)))))))
  (dSeq (dLock (dSet 7 (dLc (dItKeys (dVar 6)) (.nm 3) (dTest (dOp dNotN (dOp dDGet (dVar 6) (dVar 3)) (dC .non))) (dVar 3))))
  (dSeq (dIfS (dTest (dOp dEq (dVar 7) (dLst dNil))) (dRet (dTup (dCons (dVar 1) (dCons (dVar 2) dNil)))) dNext)
  (dSeq (dDrop (dDUpd (dVar 1) (dDc (dItSeq (dVar 7)) (.nm 3) dYes (dVar 3) (dTup (dCons (dVar 4) (dCons (dOp dDGet (dVar 6) (dVar 3)) dNil))))))
  (dSeq (dSet 2 (dLockE (dDc (dItKeys (dVar 2)) (.nm 3) (dTest (dOp dIsN (dOp dDGet (dVar 6) (dVar 3)) (dC .non))) (dVar 3) (dC (.bl true)))))
  (dAug 4 dIAdd (dC (.int 1)))))))))
def rd_Game_ranks : DS :=
  (dSeq (dAsg (.tp [(.nm 1), (.nm 2)]) (dTup (dCons dNewD (dCons (dDc (dItSeq (dMeth 3 "rests" sp_Game_rests (dVar 0) dNil)) (.nm 3) dYes (dVar 3) (dC (.bl true))) dNil))))
  (dSeq (dSet 4 (dC (.int 0)))
  (dWhile (dTest (dC (.bl true))) rd_Game_ranks_1)))
def goal_Game_ranks : Prop := ∀ (x0 : D) (S : Store) (P : D → Store → Prop), sp_Game_ranks [x0] S P → rd_Game_ranks (dEnd P) [some x0, none, none, none, none, none, none, none] S
theorem len_sums_of : ∀ ds S P, sp_sums_of ds S P → ds.length = 2 := by rintro ds S P ⟨a, b, rfl, _⟩; rfl
theorem len_Game_init : ∀ ds S P, sp_Game_init ds S P → ds.length = 7 := by rintro ds S P ⟨a, b, c, d, e, f, g, rfl, _⟩; rfl
theorem len_Game_is_lost : ∀ ds S P, sp_Game_is_lost ds S P → ds.length = 2 := by intro _ _ _ h; exact h.elim
theorem len_Game_greatest : ∀ ds S P, sp_Game_greatest ds S P → ds.length = 1 := by rintro ds S P ⟨a, b, rfl, _⟩; rfl
theorem len_Game_rests : ∀ ds S P, sp_Game_rests ds S P → ds.length = 1 := by rintro ds S P ⟨a, b, rfl, _⟩; rfl
theorem len_Game_look : ∀ ds S P, sp_Game_look ds S P → ds.length = 1 := by rintro ds S P ⟨a, b, rfl, _⟩; rfl
theorem len_Game_led_to : ∀ ds S P, sp_Game_led_to ds S P → ds.length = 2 := by rintro ds S P ⟨a, b, c, rfl, _⟩; rfl
theorem len_Game_is_held : ∀ ds S P, sp_Game_is_held ds S P → ds.length = 4 := by rintro ds S P ⟨a, b, c, d, e, f, rfl, _⟩; rfl
theorem len_Game_first_fatal : ∀ ds S P, sp_Game_first_fatal ds S P → ds.length = 4 := by rintro ds S P ⟨a, b, c, d, e, f, g, rfl, _⟩; rfl
theorem len_Game_ranks : ∀ ds S P, sp_Game_ranks ds S P → ds.length = 1 := by rintro ds S P ⟨a, b, rfl, _⟩; rfl
theorem vc_Game_is_lost : goal_Game_is_lost := fun _ _ _ _ h => h.elim
/-- a field read -/
theorem g_fld {c : Nat} {p : Addr} {S : Store} {fs : List (Str × D)} {f : Str} {d : D} (h : S p = some (.ins (CT.at_ c) fs)) (e : fs.lookup f = some d) (Q : D → Prop) : (∃ p' fs' d', D.obj p = .obj p' ∧ S p' = some (.ins (CT.at_ c) fs') ∧ fs'.lookup f = some d' ∧ Q d') = Q d := by
  apply propext
  constructor
  · rintro ⟨p', fs', d', e1, e2, e3, q⟩
    cases e1
    rw [h] at e2
    cases e2
    rw [e] at e3
    cases e3
    exact q
  · intro q
    exact ⟨p, fs, d, rfl, h, e, q⟩
/-- a method found -/
theorem g_mth {c : Nat} {p : Addr} {S : Store} {fs : List (Str × D)} {f : Str} (h : S p = some (.ins (CT.at_ c) fs)) (e : fs.lookup f = none) (Q : Prop) : (∃ p' fs', D.obj p = .obj p' ∧ S p' = some (.ins (CT.at_ c) fs') ∧ fs'.lookup f = none ∧ Q) = Q := by
  apply propext
  constructor
  · rintro ⟨p', fs', e1, e2, e3, q⟩
    exact q
  · intro q
    exact ⟨p, fs, rfl, h, e, q⟩
theorem gf_b {S : Store} {p : Addr} {g : Gm} (h : GAt S p g) (Q : D → Prop) : (∃ p' fs' d', D.obj p = .obj p' ∧ S p' = some (.ins (CT.at_ 3) fs') ∧ fs'.lookup (Str.ofString "own_base") = some d' ∧ Q d') = Q (.int g.b) := g_fld h rfl Q
theorem gf_w {S : Store} {p : Addr} {g : Gm} (h : GAt S p g) (Q : D → Prop) : (∃ p' fs' d', D.obj p = .obj p' ∧ S p' = some (.ins (CT.at_ 3) fs') ∧ fs'.lookup (Str.ofString "own_most") = some d' ∧ Q d') = Q (.int g.w) := g_fld h rfl Q
theorem gf_s {S : Store} {p : Addr} {g : Gm} (h : GAt S p g) (Q : D → Prop) : (∃ p' fs' d', D.obj p = .obj p' ∧ S p' = some (.ins (CT.at_ 3) fs') ∧ fs'.lookup (Str.ofString "own_step") = some d' ∧ Q d') = Q (.int g.st) := g_fld h rfl Q
theorem gf_t {S : Store} {p : Addr} {g : Gm} (h : GAt S p g) (Q : D → Prop) : (∃ p' fs' d', D.obj p = .obj p' ∧ S p' = some (.ins (CT.at_ 3) fs') ∧ fs'.lookup (Str.ofString "own_sums") = some d' ∧ Q d') = Q (.lst (g.sums.map .int)) := g_fld h rfl Q
theorem atI_lastG {α : Type} {xs : List α} (h : xs ≠ []) (d : α) : atI xs (-1) = some (xs.getLastD d) := by
  have l : 0 < xs.length := List.length_pos_iff.mpr h
  unfold atI ixN
  rw [if_neg (by omega : ¬ (0 : Int) ≤ -1)]
  have e : (-(xs.length : Int)) ≤ -1 := by omega
  simp only [e, if_true, Option.bind]
  rw [show ((-1 : Int) + (xs.length : Int)).toNat = xs.length - 1 by omega, List.getElem?_eq_getElem (by omega), List.getLastD_eq_getLast?, List.getLast?_eq_getElem?, List.getElem?_eq_getElem (by omega)]
  rfl
theorem gm_top {g : Gm} (h : GmOk g) : atI (g.sums.map D.int) (-1) = some (.int g.top) := by
  rw [atI_lastG (by simpa using h.ne) (.int 0)]
  unfold Gm.top
  rw [List.getLastD_eq_getLast?, List.getLastD_eq_getLast?, List.getLast?_map]
  cases g.sums.getLast? <;> rfl
theorem vc_Game_greatest : goal_Game_greatest := by
  rintro x0 S P ⟨p, g, e, hg, ok, h⟩
  cases e
  unfold rd_Game_greatest
  walk_at "dg5"
  simp only [gf_b hg, gf_w hg, gf_s hg, gf_t hg, gm_top ok]
  have := ok.w1; have := ok.w0; have := ok.b0; have := ok.b1
  exact ⟨mulS2, divS (by omega) (by omega), h⟩
theorem fdiv_bd {x k : Int} {B : Int} (hk : 0 < k) (h1 : -B ≤ x) (h2 : x ≤ B) (hB : 0 ≤ B) : -B ≤ x.fdiv k ∧ x.fdiv k ≤ B := by
  constructor
  · rw [fdiv_lt_iff hk]
    have : B * 1 ≤ B * k := Int.mul_le_mul_of_nonneg_left (by omega) hB
    rw [Int.neg_mul]
    omega
  · by_cases c : 0 ≤ x.fdiv k
    · have := (fdiv_lt_iff (a := x) (x := x.fdiv k) hk).mp (Int.le_refl _)
      have : x.fdiv k * 1 ≤ x.fdiv k * k := Int.mul_le_mul_of_nonneg_left (by omega) c
      omega
    · omega
theorem top_mem {g : Gm} (h : g.sums ≠ []) : g.top ∈ g.sums := by
  unfold Gm.top
  rw [List.getLastD_eq_getLast?, List.getLast?_eq_some_getLast h]
  exact List.getLast_mem h
theorem gr_bd {g : Gm} (ok : GmOk g) : -(2 ^ 52) ≤ g.gr ∧ g.gr ≤ 1000 := by
  have t := ok.sb _ (top_mem ok.ne)
  have h1 := ok.s1; have h2 := ok.w1; have h3 := ok.w0; have h4 := ok.s0; have h5 := ok.b0; have h6 := ok.few
  have m1 : g.st * g.w ≤ 2 ^ 40 * 1000 := Int.mul_le_mul (by omega) h2 h3 (by omega)
  have m0 : 0 ≤ g.st * g.w := Int.mul_nonneg (by omega) h3
  have := fdiv_bd (x := g.st * g.w - g.top) (k := g.b - 1) (B := 2 ^ 52) (by omega) (by omega) (by omega) (by omega)
  unfold Gm.gr at *
  omega
theorem rests_len {g : Gm} (ok : GmOk g) : g.rests.length ≤ 2001 := by
  have := gr_bd ok; have := ok.few
  unfold Gm.rests
  rw [irg_len]; omega
theorem vc_Game_rests : goal_Game_rests := by
  rintro x0 S P ⟨p, g, e, hg, ok, h⟩
  cases e
  unfold rd_Game_rests
  walk_at "dg5"
  simp only [g_mth hg (f := Str.ofString "greatest") rfl]
  refine ⟨p, g, rfl, hg, ok, ?_⟩
  simp only [g_mth hg (f := Str.ofString "greatest") rfl]
  refine ⟨p, g, rfl, hg, ok, ?_⟩
  have hgr := gr_bd ok
  walk_at "dg5"
  rw [rng_irg]
  exact ⟨by unfold RgOk; omega, h⟩
theorem vc_Game_look : goal_Game_look := by
  rintro x0 S P ⟨p, g, e, hg, ok, h⟩
  cases e
  unfold rd_Game_look
  walk_at "dg5"
  simp only [g_mth hg (f := Str.ofString "greatest") rfl]
  refine ⟨p, g, rfl, hg, ok, ?_⟩
  have := ok.few
  walk_at "dg5"
  refine ⟨mulS, ?_⟩
  have e : ¬ 2000 < (if 2 * g.gr + 1 > 0 then 2 * g.gr + 1 else 0) := by split <;> omega
  rw [if_neg e]
  exact h
theorem vc_Game_led_to : goal_Game_led_to := by
  rintro x0 x1 S P ⟨p, g, a, e, hg, ok, ha, h⟩
  cases e
  unfold rd_Game_led_to
  walk_at "dg5"
  simp only [gf_b hg, gf_w hg, gf_s hg, gf_t hg, g_mth hg (f := Str.ofString "greatest") rfl]
  refine ⟨p, g, rfl, hg, ok, ?_⟩
  simp only [gf_b hg, gf_w hg, gf_s hg, gf_t hg, g_mth hg (f := Str.ofString "greatest") rfl]
  walk_at "dg5"
  have hgr := gr_bd ok
  have h1 := ok.s1; have h2 := ok.w1; have h3 := ok.w0; have h4 := ok.s0
  refine ⟨divS (by omega) (by omega), p, g, rfl, hg, ok, ?_⟩
  simp only [gf_s hg]
  walk_at "dg5"
  have b1 := fdiv_bd (x := g.gr - a) (k := g.st) (B := 2 ^ 61) h4 (by omega) (by omega) (by omega)
  have b2 := fdiv_bd (x := a + g.gr) (k := g.st) (B := 2 ^ 61) h4 (by omega) (by omega) (by omega)
  have e1 : (if -(g.gr - a).fdiv g.st > -g.w then -(g.gr - a).fdiv g.st else -g.w) = max (-g.w) (-((g.gr - a).fdiv g.st)) := by split <;> omega
  have e2 : (if (a + g.gr).fdiv g.st < g.w then (a + g.gr).fdiv g.st else g.w) = min g.w ((a + g.gr).fdiv g.st) := by split <;> omega
  rw [e1, e2]
  refine ⟨divS (by omega) (by omega), by omega, ?_⟩
  refine lc_ints (pin := none) (irg (max (-g.w) (-((g.gr - a).fdiv g.st))) (min g.w ((a + g.gr).fdiv g.st) + 1)) (rng_irg _ _) (by rw [irg_len]; omega) (fun _ => true) (fun f => .int (a - f * g.st)) (fun _ S' => S' = S) rfl (fun _ _ _ => trivial) (fun i r S' hr hs => ?_) fun S2 hs => ?_
  · subst hs
    refine ⟨_, rfl, fun K N hK hN => ?_⟩
    walk_at "dg5"
    simp only [gf_s hg]
    walk_at "dg5"
    exact ⟨mulS2, hK rfl _ rfl⟩
  · subst hs
    rw [List.filter_eq_self.mpr (fun _ _ => rfl)]
    unfold Gm.led at h
    rw [List.map_map] at h
    exact h
theorem held_of {S : Store} {h : Addr} {H : List Int} (hh : HeldAt S h H) (x : Int) : ∃ kvs, dctOf S (.obj h) = some kvs ∧ (dVal kvs (.inl x)).isSome = decide (x ∈ H) := by
  obtain ⟨kvs, e1, e2⟩ := hh
  refine ⟨kvs, e1, ?_⟩
  have n := dVal_none (kvs := kvs) (k := (.inl x : Key))
  rw [e2, inl_mem] at n
  by_cases c : x ∈ H
  · rw [decide_eq_true c]
    cases e : dVal kvs (.inl x : Key) with
    | none => exact absurd c (n.mp e)
    | some v => rfl
  · rw [decide_eq_false c, n.mpr c]
    rfl
theorem vc_Game_is_held : goal_Game_is_held := by
  rintro x0 x1 x2 x3 S P ⟨p, h, g, H, r, s, e, hg, ok, hh, hr, hs, q⟩
  cases e
  unfold rd_Game_is_held
  walk_at "dg5"
  simp only [gf_b hg, g_mth hg (f := Str.ofString "led_to") rfl]
  have hb := ok.b1; have hb0 := ok.b0
  have hm : (g.b * r).natAbs < 2 ^ 50 := by
    rw [Int.natAbs_mul]
    have : g.b.natAbs * r.natAbs ≤ 16 * r.natAbs := Nat.mul_le_mul_right _ (by omega)
    omega
  refine ⟨mulS, p, g, _, rfl, hg, ok, by omega, ?_⟩
  walk_at "dg5"
  have hl : (g.led (g.b * r + s)).length ≤ 100000 := by
    unfold Gm.led
    rw [List.length_map, irg_len]
    have := ok.w1; have := ok.w0
    omega
  show LcN (.nm 4) dYes (dOp (dDIn false) (dVar 4) (dVar 3)) (fun x S1 => cAny [x] S1 P) (List.map D.int (g.led (g.b * r + s))) none _ S
  refine lc_ints (g.led (g.b * r + s)) rfl hl (fun _ => true) (fun x => .bl (decide (x ∈ H))) (fun _ S' => S' = S) rfl (fun _ _ _ => trivial) (fun i x S' hx hs => ?_) fun S2 hs => ?_
  · subst hs
    refine ⟨_, rfl, fun K N hK hN => ?_⟩
    walk_at "dg5"
    obtain ⟨kvs, e1, e2⟩ := held_of hh x
    rw [e1]
    simp only
    rw [e2]
    exact hK rfl _ rfl
  · subst hs
    rw [List.filter_eq_self.mpr (fun _ _ => rfl)]
    unfold cAny
    simp only [lstOf, Option.bind]
    rw [dBools_mapF]
    simp only [List.any_map]
    exact q
theorem supd_at {S : Store} {p : Addr} {m : MO} : supd S p m p = some m := supd_same
theorem addS_len (acc : List Int) (p : Int × Int) : (addS acc p).length = acc.length * (irg (-p.2) (p.2 + 1)).length := by
  unfold addS
  rw [List.length_flatMap]
  simp only [List.length_map]
  induction acc with
  | nil => simp
  | cons a l ih => simp only [List.map_cons, List.sum_cons, ih, List.length_cons]; rw [Nat.add_mul, Nat.one_mul, Nat.add_comm]
theorem irg_pos {m : Int} (h : 0 ≤ m) : 1 ≤ (irg (-m) (m + 1)).length := by rw [irg_len]; omega
theorem fold_len : ∀ (ps : List (Int × Int)) (acc : List Int), (∀ p ∈ ps, 0 ≤ p.2) → acc.length ≤ (ps.foldl addS acc).length
  | [], _, _ => Nat.le_refl _
  | p :: ps, acc, h => by
    refine Nat.le_trans ?_ (fold_len ps (addS acc p) fun q hq => h q (by simp [hq]))
    rw [addS_len]
    exact Nat.le_mul_of_pos_right _ (irg_pos (h p (by simp)))
theorem sums_take {ps : List (Int × Int)} {i : Nat} {q : Int × Int} (e : ps[i]? = some q) : sumsR (ps.take (i + 1)) = addS (sumsR (ps.take i)) q := by
  unfold sumsR
  rw [List.take_add_one, e, List.foldl_append]
  rfl
theorem sums_take_len {ps : List (Int × Int)} (h : ∀ p ∈ ps, 0 ≤ p.2) (i : Nat) : (sumsR (ps.take i)).length ≤ (sumsR ps).length := by
  have : sumsR ps = (ps.drop i).foldl addS (sumsR (ps.take i)) := by
    unfold sumsR
    rw [← List.foldl_append, List.take_append_drop]
  rw [this]
  exact fold_len _ _ fun p hp => h p (List.mem_of_mem_drop hp)
/-- the keys of a dict are just those with M, at most n -/
def KS (acc : List (Key × D)) (M : Int → Prop) (n : Nat) : Prop := ∃ ks : List Int, acc.map (·.1) = ks.map Sum.inl ∧ ks.Nodup ∧ (∀ x, x ∈ ks ↔ M x) ∧ acc.length ≤ n
theorem KS.put {acc : List (Key × D)} {M : Int → Prop} {n : Nat} (h : KS acc M n) (v : Int) (d : D) : KS (dPut acc (.inl v) d) (fun x => M x ∨ x = v) (n + 1) := by
  obtain ⟨ks, h1, h2, h3, h4⟩ := h
  have hl := dPut_len acc (.inl v) d
  by_cases c : v ∈ ks
  · refine ⟨ks, ?_, h2, fun x => ?_, by omega⟩
    · rw [dPut_keys, h1, if_pos (inl_mem.mpr c)]
    · rw [h3]
      exact ⟨.inl, fun z => z.elim id fun e => e ▸ (h3 v).mp c⟩
  · refine ⟨ks ++ [v], ?_, ?_, fun x => ?_, by omega⟩
    · rw [dPut_keys, h1, if_neg fun z => c (inl_mem.mp z), List.map_append]; rfl
    · rw [List.nodup_append]
      exact ⟨h2, by simp, fun a ha b hb => by
        simp at hb
        subst hb
        intro e
        subst e
        exact c ha⟩
    · rw [List.mem_append, h3]
      simp
theorem KS.congr {acc : List (Key × D)} {M M' : Int → Prop} {n m : Nat} (h : KS acc M n) (e : ∀ x, M x ↔ M' x) (hn : n ≤ m) : KS acc M' m := by
  obtain ⟨ks, h1, h2, h3, h4⟩ := h
  exact ⟨ks, h1, h2, fun x => (h3 x).trans (e x), by omega⟩
theorem vc_sums_of : goal_sums_of := by
  rintro x0 x1 S P ⟨ws, ms, e, ok, h⟩
  cases e
  unfold rd_sums_of
  walk_at "dg5"
  refine ⟨by decide, fun p hp => ⟨by simpa using ok.l, ?_⟩⟩
  have hz : zipD (ws.map D.int) (ms.map D.int) = (ws.zip ms).map fun q => .tup [.int q.1, .int q.2] := by
    unfold zipD
    rw [List.zipWith_map]
    show _ = (List.zipWith Prod.mk ws ms).map _
    rw [List.map_zipWith]
  rw [hz]
  have hpos : ∀ q ∈ ws.zip ms, 0 ≤ q.2 := fun q hq => ok.m0 _ (List.of_mem_zip hq).2
  refine ⟨fun i ρ S' => ∃ a kvs x3 x4, ρ = [some (D.tup (ws.map .int)), some (D.tup (ms.map .int)), some (D.obj a), x3, x4, none, none] ∧ Grown S S' ∧ S' a = some (.dK kvs) ∧ KS kvs (fun x => x ∈ sumsR ((ws.zip ms).take i)) (sumsR ((ws.zip ms).take i)).length,
    ⟨p, _, none, none, rfl, Grown.new hp, supd_at, [0], rfl, by simp, by simp [sumsR], by simp [sumsR]⟩, ?_, ?_⟩
  · rintro i d ρ S' hd ⟨a, kvs, x3, x4, rfl, hg, ha, ks, hk, nd, hm, hlen⟩
    rw [List.getElem?_map] at hd
    cases e : (ws.zip ms)[i]? with
    | none => rw [e] at hd; cases hd
    | some q =>
      rw [e] at hd
      cases hd
      refine ⟨_, rfl, .inr ⟨a, kvs, ha, fun o vs => ?_⟩⟩
      have q0 : 0 ≤ q.2 := hpos q (List.mem_of_getElem? e)
      have q1 : q.2 ≤ 1000 := ok.m1 _ (List.of_mem_zip (List.mem_of_getElem? e)).2
      have lk : kvs.length = ks.length := by simpa using congrArg List.length hk
      have total : (addS ks q).length ≤ (sumsR ((ws.zip ms).take (i + 1))).length := by
        rw [sums_take e, addS_len, addS_len]
        exact Nat.mul_le_mul_right _ (by omega)
      have few := sums_take_len hpos (i + 1)
      have fewer := ok.n
      walk_at "dg5"
      refine ⟨a, o, vs, kvs, rfl, supd_at, ?_⟩
      refine ⟨fun i2 acc S2 => S2 = supd S' a (.dZ o vs kvs) ∧ KS acc (fun x => x ∈ addS (ks.take i2) q) (addS (ks.take i2) q).length, ⟨rfl, [], rfl, by simp, by simp [addS], by simp⟩, fun i2 acc S2 h2 => by rw [h2.1]; exact supd_at, ?_, ?_⟩
      · rintro i2 d2 acc S2 hd2 ⟨rfl, hks⟩
        have hd3 : (ks.map D.int)[i2]? = some d2 := by
          have : (kvs.map fun kv => kD kv.1) = ks.map D.int := by
            rw [show (kvs.map fun kv => kD kv.1) = (kvs.map (·.1)).map kD by rw [List.map_map]; rfl, hk, List.map_map]
            rfl
          rw [← this]; exact hd2
        rw [List.getElem?_map] at hd3
        cases e2 : ks[i2]? with
        | none => rw [e2] at hd3; cases hd3
        | some one =>
          rw [e2] at hd3
          cases hd3
          refine ⟨_, rfl, ?_⟩
          walk_at "dg5"
          have tk : addS (ks.take (i2 + 1)) q = addS (ks.take i2) q ++ (irg (-q.2) (q.2 + 1)).map fun f => one + q.1 * f := by
            unfold addS
            rw [List.take_add_one, e2, List.flatMap_append]
            simp
          have part : (addS (ks.take (i2 + 1)) q).length ≤ (addS ks q).length := by
            rw [addS_len, addS_len]
            exact Nat.mul_le_mul_right _ (by rw [List.length_take]; omega)
          have lt : (addS (ks.take (i2 + 1)) q).length = (addS (ks.take i2) q).length + (irg (-q.2) (q.2 + 1)).length := by rw [tk, List.length_append, List.length_map]
          refine ⟨by omega, fun j acc1 S3 => S3 = supd S' a (.dZ o vs kvs) ∧ KS acc1 (fun x => x ∈ addS (ks.take i2) q ∨ x ∈ ((irg (-q.2) (q.2 + 1)).take j).map fun f => one + q.1 * f) ((addS (ks.take i2) q).length + j), ⟨rfl, hks.congr (by simp) (by omega)⟩, fun _ _ _ _ => trivial, ?_, ?_⟩
          · rintro j d3 acc1 S3 hj ⟨rfl, hk1⟩
            rw [rng_irg, List.getElem?_map] at hj
            cases e3 : (irg (-q.2) (q.2 + 1))[j]? with
            | none => rw [e3] at hj; cases hj
            | some f =>
              rw [e3] at hj
              cases hj
              have jl := (List.getElem?_eq_some_iff.mp e3).1
              refine ⟨_, rfl, ?_⟩
              walk_at "dg5"
              have wb := ok.w _ (List.of_mem_zip (List.mem_of_getElem? e)).1
              have hk1' := hk1
              obtain ⟨_, _, _, _, l1⟩ := hk1
              refine ⟨mulS, _, rfl, by omega, (hk1'.put _ _).congr (fun x => ?_) (by omega)⟩
              rw [List.take_add_one, e3, List.map_append, List.mem_append, or_assoc]
              simp
          · rintro acc1 S3 ⟨rfl, hk1⟩
            rw [rng_len] at hk1
            refine ⟨rfl, hk1.congr (fun x => ?_) ?_⟩
            · rw [tk, List.mem_append, show (q.2 + 1 - -q.2).toNat = (irg (-q.2) (q.2 + 1)).length by rw [irg_len], List.take_length]
            · rw [lt, irg_len]; omega
      · rintro acc S2 ⟨rfl, hks⟩ p' hp'
        have hpa : p' ≠ a := fun z => by rw [z, supd_at] at hp'; cases hp'
        rw [supd_ne hpa] at hp'
        refine ⟨(supd_ne hpa.symm).trans supd_at, p', acc, _, _, rfl, ?_, (supd_ne hpa).trans supd_at, ?_⟩
        · intro b m hb
          have hb' := hg b m hb
          by_cases c : b = a
          · rw [c] at hb' ⊢
            rw [ha] at hb'
            rw [supd_at]
            exact hb'
          · rw [supd_ne c]
            by_cases c2 : b = p'
            · rw [c2, hp'] at hb'; cases hb'
            · rw [supd_ne c2, supd_ne c]
              exact hb'
        · refine hks.congr (fun x => ?_) ?_
          · rw [List.length_map, lk, List.take_length, sums_take e]
            exact addS_congr hm q x
          · rw [List.length_map, lk, List.take_length]
            exact total
  · rintro ρ S' ⟨a, kvs, x3, x4, rfl, hg, ha, ks, hk, nd, hm, hlen⟩
    rw [List.length_map, List.take_length] at hm
    walk_at "dg5"
    rw [dct_dK ha]
    refine ⟨ks, hk, fun ys hp hle => h ys S' ?_ hg⟩
    have z := srt_perm nd hp hle
    exact ⟨z.lt, fun k => (z.mem k).trans (hm k)⟩
theorem pl1 {f : Str} {x : D} : (putD f x []).length < 900 := by have := putD_len f x []; simp at this; omega
theorem pl2 {f f' : Str} {x x' : D} : (putD f x (putD f' x' [])).length < 900 := by have := putD_len f x (putD f' x' []); have := putD_len f' x' []; simp at this; omega
theorem pl3 {f f' f2 : Str} {x x' x2 : D} : (putD f x (putD f' x' (putD f2 x2 []))).length < 900 := by
  have := putD_len f x (putD f' x' (putD f2 x2 [])); have := putD_len f' x' (putD f2 x2 []); have := putD_len f2 x2 []; simp at this; omega
theorem vc_Game_init : goal_Game_init := by
  rintro x0 x1 x2 x3 x4 x5 x6 S P ⟨p, b, over, most, lag, ws, ms, e, hp, ok, b0, b1, o0, o1, l0, l1, q⟩
  cases e
  unfold rd_Game_init
  walk_at "dg5"
  refine ⟨p, _, rfl, hp, by decide, p, _, rfl, supd_at, pl1, b, lag, rfl, b0, b1, by omega, ?_⟩
  rw [encR_zpow_nn b lag l0]
  walk_at "dg5"
  refine ⟨mulS, p, _, rfl, supd_at, pl2, ws, ms, rfl, ok, fun ys S' hs hg => ?_⟩
  refine ⟨p, _, rfl, hg _ _ supd_at, pl3, ?_⟩
  refine q ⟨b, most, over * b ^ lag.toNat, ys⟩ _ rfl rfl rfl hs supd_at fun a m ne ha => ?_
  rw [supd_ne ne]
  refine hg _ _ ?_
  rw [supd_ne ne, supd_ne ne, supd_ne ne]
  exact ha
theorem find_take {α : Type} {p : α → Bool} : ∀ {xs : List α} {i : Nat} {x : α}, xs[i]? = some x → (∀ y ∈ xs.take i, p y = false) → p x = true → xs.find? p = some x
  | [], _, _, h, _, _ => by simp at h
  | a :: xs, 0, x, h, _, hp => by
    simp at h; subst h
    rw [List.find?_cons, hp]
  | a :: xs, i + 1, x, h, hn, hp => by
    have ha : p a = false := hn a (by simp)
    rw [List.find?_cons, ha]
    exact find_take (i := i) (by simpa using h) (fun y hy => hn y (by simp [hy])) hp
theorem find_none {α : Type} {p : α → Bool} {xs : List α} (h : ∀ y ∈ xs, p y = false) : xs.find? p = none := by
  rw [List.find?_eq_none]
  intro x hx
  rw [h x hx]; simp
theorem kn_put {g : Gm} {H : List Int} {kk : List (Key × D)} (h : KnOk g H kk) (a : Int) : KnOk g H (dPut kk (.inl a) (.bl (g.heldB H a))) := by
  intro q hq
  unfold dPut at hq
  split at hq
  · obtain ⟨z, hz, rfl⟩ := List.mem_map.mp hq
    split
    · rename_i e
      exact ⟨a, by rw [e]⟩
    · exact h z hz
  · rcases List.mem_append.mp hq with hq | hq
    · exact h q hq
    · simp at hq
      exact ⟨a, hq⟩
theorem kn_val {g : Gm} {H : List Int} {kk : List (Key × D)} (h : KnOk g H kk) {a : Int} {d : D} (e : dVal kk (.inl a) = some d) : d = .bl (g.heldB H a) := by
  unfold dVal at e
  cases f : kk.find? fun kv => decide (kv.1 = (.inl a : Key)) with
  | none => rw [f] at e; cases e
  | some q =>
    rw [f] at e
    cases e
    have m := List.mem_of_find?_eq_some f
    have pq := List.find?_some f
    obtain ⟨b, rfl⟩ := h q m
    have : (Sum.inl b : Key) = .inl a := of_decide_eq_true pq
    cases this
    rfl
theorem vc_Game_first_fatal : goal_Game_first_fatal := by
  rintro x0 x1 x2 x3 S P ⟨p, k, h, g, H, r, kk, e, hg, ok, hh, hne, hr, hk, hkn, hl, q⟩
  cases e
  unfold rd_Game_first_fatal
  walk_at "dg5"
  simp only [gf_t hg]
  have hpk : p ≠ k := fun z => by
    have hg' : S p = some (.ins (CT.at_ 3) (GF g)) := hg
    rw [z, hk] at hg'; cases hg'
  have hb := ok.b1; have hb0 := ok.b0
  have hm : (g.b * r).natAbs < 2 ^ 50 := by
    rw [Int.natAbs_mul]
    have : g.b.natAbs * r.natAbs ≤ 16 * r.natAbs := Nat.mul_le_mul_right _ (by omega)
    omega
  refine ⟨fun i ρ S' => ∃ kk' x4 x5, ρ = [some (.obj p), some (.int r), some (.obj k), some (.obj h), x4, x5] ∧ S' = supd S k (.dK kk') ∧ KnOk g H kk' ∧ kk'.length ≤ kk.length + i ∧ ∀ s ∈ g.sums.take i, (!g.heldB H (g.b * r + s)) = false, ⟨kk, none, none, rfl, ?_, hkn, by simp, by simp⟩, ?_, ?_⟩
  · funext a
    unfold supd
    split
    · rename_i e; rw [e]; exact hk
    · rfl
  · rintro i d ρ S' hd ⟨kk', x4, x5, rfl, rfl, hkk, hlen, hall⟩
    rw [List.getElem?_map] at hd
    cases e : g.sums[i]? with
    | none => rw [e] at hd; cases hd
    | some s =>
      rw [e] at hd
      cases hd
      have hi := (List.getElem?_eq_some_iff.mp e).1
      have hs : s.natAbs < 2 ^ 40 := ok.sb s (List.mem_of_getElem? e)
      have hg2 : GAt (supd S k (.dK kk')) p g := (supd_ne hpk).trans hg
      refine ⟨_, rfl, ?_⟩
      walk_at "dg5"
      simp only [gf_b hg2]
      walk_at "dg5"
      refine ⟨mulS, ?_⟩
      rw [dct_dK supd_at]
      simp only
      -- behind what's known
      have fin : ∀ kk2, KnOk g H kk2 → kk2.length ≤ kk.length + (i + 1) → (if (!g.heldB H (g.b * r + s)) = true then P (D.int s) (supd S k (.dK kk2)) else
          ∃ kk' x4 x5, [some (D.obj p), some (D.int r), some (D.obj k), some (D.obj h), some (D.int s), some (D.int (g.b * r + s))] = [some (D.obj p), some (D.int r), some (D.obj k), some (D.obj h), x4, x5] ∧ supd S k (.dK kk2) = supd S k (.dK kk') ∧ KnOk g H kk' ∧ kk'.length ≤ kk.length + (i + 1) ∧
            ∀ (s : Int), s ∈ List.take (i + 1) g.sums → (!g.heldB H (g.b * r + s)) = false) := by
        intro kk2 h2 l2
        by_cases c : (!g.heldB H (g.b * r + s)) = true
        · rw [if_pos c]
          have z := q kk2 h2 (by omega)
          unfold Gm.fatal at z
          rw [find_take e hall c] at z
          exact z
        · rw [if_neg c]
          refine ⟨kk2, _, _, rfl, rfl, h2, l2, fun s' hs' => ?_⟩
          rw [List.take_add_one, e] at hs'
          rcases List.mem_append.mp hs' with hs' | hs'
          · exact hall s' hs'
          · simp at hs'
            subst hs'
            simpa using c
      cases ev : dVal kk' (.inl (g.b * r + s)) with
      | none =>
        simp only [Option.isSome_none, Bool.not_false, reduceIte]
        rw [g_mth hg2 (f := Str.ofString "is_held") rfl]
        have hh2 : HeldAt (supd S k (.dK kk')) h H := by
          obtain ⟨kvs, e1, e2⟩ := hh
          exact ⟨kvs, (dct_supd hne).trans e1, e2⟩
        refine ⟨p, h, g, H, r, s, rfl, hg2, ok, hh2, hr, hs, k, kk', _, rfl, supd_at, rfl, by omega, ?_⟩
        rw [dct_dK supd_at]
        simp only
        rw [dVal_put, if_pos rfl]
        simp only
        rw [supd_supd]
        exact fin _ (kn_put hkk _) (by have := dPut_len kk' (.inl (g.b * r + s)) (D.bl (g.heldB H (g.b * r + s))); omega)
      | some d =>
        simp only [Option.isSome_some, Bool.not_true, Bool.false_eq_true, reduceIte]
        rw [kn_val hkk ev]
        exact fin kk' hkk (by omega)
  · rintro ρ S' ⟨kk', x4, x5, rfl, rfl, hkk, hlen, hall⟩
    walk_at "dg5"
    rw [List.length_map] at hlen hall
    rw [List.take_length] at hall
    have z := q kk' hkk hlen
    unfold Gm.fatal at z
    rw [find_none hall] at z
    exact z
theorem supd_unlock {S : Store} {p : Addr} {m m' : MO} (h : S p = some m) : supd (supd S p m') p m = S := by
  funext a
  unfold supd
  by_cases c : a = p
  · rw [if_pos c, c, h]
  · rw [if_neg c, if_neg c]
theorem filter_two {α : Type} (p : α → Bool) : ∀ l : List α, (l.filter p).length + (l.filter fun x => !p x).length = l.length
  | [] => rfl
  | a :: l => by
    have := filter_two p l
    cases e : p a with
    | true => rw [List.filter_cons_of_pos e, List.filter_cons_of_neg (by simp [e])]; simp only [List.length_cons]; omega
    | false => rw [List.filter_cons_of_neg (by simp [e]), List.filter_cons_of_pos (by simp [e])]; simp only [List.length_cons]; omega
theorem isNon_optI (o : Option Int) : DL.isNon (optI o) = o.isNone := by cases o <;> rfl
theorem kI_dkeys {f : Int → D} (H : List Int) : ((kI f H).map fun kv => kD kv.1) = H.map .int := by
  unfold kI
  rw [List.map_map]; rfl
theorem fnd_keys (found : List (Int × Int × Int)) : (found.map fndD).map (·.1) = (found.map (·.1)).map Sum.inl := by
  rw [List.map_map, List.map_map]; rfl
theorem vc_Game_ranks : goal_Game_ranks := by
  rintro x0 S P ⟨p, g, e, hg, ok, hl, q⟩
  cases e
  unfold rd_Game_ranks rd_Game_ranks_1
  walk_at "dg5"
  intro pf hpf
  have hpp : p ≠ pf := Grown.ne hg hpf
  have hg1 : GAt (supd S pf (.dK [])) p g := (supd_ne hpp).trans hg
  rw [g_mth hg1 (f := Str.ofString "rests") rfl]
  refine ⟨p, g, rfl, hg1, ok, ?_⟩
  walk_at "dg5"
  have rl := rests_len ok
  have hds : ∀ (i : Nat) (r : Int) (S' : Store), g.rests[i]? = some r → True := fun _ _ _ _ => trivial
  refine dc_ints g.rests rfl (irg_nd _ _) (by omega) (fun _ => true) (fun _ => .bl true) (fun _ S' => S' = supd S pf (.dK [])) rfl (fun _ _ _ => trivial) (fun i r S' hr hs => ⟨_, rfl, fun K N hK hN => ?_⟩) fun S2 hs ph hph => ?_
  · walk_at "dg5"
    exact hK rfl _ hs
  · subst hs
    rw [List.filter_eq_self.mpr (fun _ _ => rfl)]
    have hph2 : ph ≠ pf := fun z => by rw [z, supd_at] at hph; cases hph
    refine ⟨fun m ρ S' => ∃ ph H found k x3 x5 x6 x7, m = H.length ∧ ρ = [some (.obj p), some (.obj pf), some (.obj ph), x3, some (.int k), x5, x6, x7] ∧ Grown S S' ∧ S' pf = some (.dK (found.map fndD)) ∧ S' ph = some (.dK (kI (fun _ => .bl true) H)) ∧ ph ≠ pf ∧
      H.Nodup ∧ (∀ r ∈ H, r ∈ g.rests) ∧ H.length ≤ g.rests.length ∧ (∀ t ∈ found, t.1 ∉ H) ∧ found.length + H.length ≤ g.rests.length ∧ g.ranksN (H.length + 1) found H k = g.ranks,
      ⟨_, ph, g.rests, [], 0, none, none, none, none, rfl, rfl, (Grown.new hpf).trans (Grown.new hph), ?_, supd_at, hph2, irg_nd _ _, fun _ h => h, Nat.le_refl _, by simp, by simp, rfl⟩, ?_⟩
    · rw [supd_ne hph2.symm]; exact supd_at
    · rintro m ρ S' ⟨ph, H, found, k, x3, x5, x6, x7, rfl, rfl, gr0, hpf', hph', nep, nd, hin, hlen, hdis, hsum, hrk⟩
      walk_at "dg5"
      intro pk hpk
      have kf : pk ≠ pf := fun z => by rw [z, hpf'] at hpk; cases hpk
      have kh : pk ≠ ph := fun z => by rw [z, hph'] at hpk; cases hpk
      have gp : GAt S' p g := gr0 _ _ hg
      have kp : p ≠ pk := Grown.ne gp hpk
      have hp' : p ≠ ph := fun z => by
        have gp' : S' p = some (.ins (CT.at_ 3) (GF g)) := gp
        rw [z, hph'] at gp'; cases gp'
      have hph1 : supd S' pk (.dK []) ph = some (.dK (kI (fun _ => .bl true) H)) := (supd_ne kh.symm).trans hph'
      refine .inr ⟨ph, _, hph1, fun o vs => ?_⟩
      walk_at "dg5"
      refine ⟨ph, o, vs, _, rfl, supd_at, ?_⟩
      have hds : ((kI (fun _ => D.bl true) H).map fun kv => kD kv.1) = H.map .int := by
        unfold kI
        rw [List.map_map]; rfl
      have rl2 : H.length * g.sums.length ≤ 99999 := Nat.le_trans (Nat.mul_le_mul_right _ hlen) hl
      refine dc_ints H hds nd (by omega) (fun _ => true) (fun r => optI (g.fatal H r)) (fun i S2 => ∃ kk, KnOk g H kk ∧ kk.length ≤ i * g.sums.length ∧ S2 = supd (supd (supd S' pk (.dK [])) ph (.dZ o vs (kI (fun _ => .bl true) H))) pk (.dK kk))
        ⟨[], fun _ h => by simp at h, by simp, ?_⟩ (fun i S2 h => by obtain ⟨kk, _, _, rfl⟩ := h; exact (supd_ne kh.symm).trans supd_at) (fun i r S2 hr hs => ?_) fun S2 hs pt hpt => ?_
      · funext a
        unfold supd
        by_cases c1 : a = pk
        · rw [if_pos c1]
          rw [if_neg (fun z => kh (c1.symm.trans z)), if_pos c1]
        · rw [if_neg c1, if_neg c1]
      · obtain ⟨kk, hkk, hkl, rfl⟩ := hs
        have hi := (List.getElem?_eq_some_iff.mp hr).1
        have hgp : GAt (supd (supd (supd S' pk (.dK [])) ph (.dZ o vs (kI (fun _ => .bl true) H))) pk (.dK kk)) p g := by
          unfold GAt
          rw [supd_ne kp, supd_ne hp', supd_ne kp]
          exact gp
        refine ⟨_, rfl, fun K N hK hN => ?_⟩
        walk_at "dg5"
        rw [g_mth hgp (f := Str.ofString "first_fatal") rfl]
        have hr1 := hin r (List.mem_of_getElem? hr)
        have hgr := gr_bd ok
        unfold Gm.rests at hr1
        rw [mem_irg] at hr1
        have hmul : (i + 1) * g.sums.length ≤ H.length * g.sums.length := Nat.mul_le_mul_right _ hi
        rw [Nat.add_mul, Nat.one_mul] at hmul
        refine ⟨p, pk, ph, g, H, r, kk, rfl, hgp, ok, ⟨_, (dct_supd kh.symm).trans (dct_dZ supd_at), kI_keys _ _⟩, kh.symm, by omega, supd_at, hkk, by omega, fun kk' h1 h2 => ?_⟩
        refine hK rfl _ ⟨kk', h1, by rw [Nat.add_mul, Nat.one_mul]; omega, ?_⟩
        rw [supd_supd]
      · obtain ⟨kk, hkk, hkl, rfl⟩ := hs
        rw [List.filter_eq_self.mpr (fun _ _ => rfl)]
        have tk : pt ≠ pk := fun z => by rw [z, supd_at] at hpt; cases hpt
        rw [supd_ne tk] at hpt
        have th : pt ≠ ph := fun z => by rw [z, supd_at] at hpt; cases hpt
        rw [supd_ne th, supd_ne tk] at hpt
        refine ⟨by rw [supd_ne th.symm, supd_ne kh.symm]; exact supd_at, ?_⟩
        -- what stands now
        have grS : Grown S' (supd (supd (supd (supd (supd S' pk (.dK [])) ph (.dZ o vs (kI (fun _ => .bl true) H))) pk (.dK kk)) pt (.dK (kI (fun r => optI (g.fatal H r)) H))) ph (.dK (kI (fun _ => .bl true) H))) := by
          intro a x ha
          by_cases c : a = ph
          · rw [c] at ha ⊢
            rw [hph'] at ha
            rw [supd_at]; exact ha
          · have c2 : a ≠ pt := fun z => by rw [z, hpt] at ha; cases ha
            have c3 : a ≠ pk := fun z => by rw [z, hpk] at ha; cases ha
            rw [supd_ne c, supd_ne c2, supd_ne c3, supd_ne c, supd_ne c3]
            exact ha
        have hptS : supd (supd (supd (supd (supd S' pk (.dK [])) ph (.dZ o vs (kI (fun _ => .bl true) H))) pk (.dK kk)) pt (.dK (kI (fun r => optI (g.fatal H r)) H))) ph (.dK (kI (fun _ => .bl true) H)) pt = some (.dK (kI (fun r => optI (g.fatal H r)) H)) := (supd_ne th).trans supd_at
        generalize supd (supd (supd (supd (supd S' pk (.dK [])) ph (.dZ o vs (kI (fun _ => .bl true) H))) pk (.dK kk)) pt (.dK (kI (fun r => optI (g.fatal H r)) H))) ph (.dK (kI (fun _ => .bl true) H)) = S2 at grS hptS ⊢
        have hpf2 := grS _ _ hpf'
        have hph2 := grS _ _ hph'
        clear hph1
        have pt0 : pt ≠ pf := fun z => by rw [z, hpf'] at hpt; cases hpt
        refine .inr ⟨pt, _, hptS, fun o2 vs2 => ?_⟩
        walk_at "dg5"
        refine ⟨pt, o2, vs2, _, rfl, supd_at, ?_⟩
        refine lcp_ints H (kI_dkeys H) (by omega) (fun r => !g.safe H r) .int (fun _ S3 => S3 = supd S2 pt (.dZ o2 vs2 (kI (fun r => optI (g.fatal H r)) H))) rfl (fun i S3 h => by rw [h]; exact supd_at) (fun i r S3 hr hs => ⟨_, rfl, fun K N hK hN => ?_⟩) fun S3 hs => ?_
        · subst hs
          walk_at "dg5"
          rw [dct_dZ supd_at]
          simp only
          rw [kI_val, if_pos (List.mem_of_getElem? hr)]
          simp only
          cases ef : g.fatal H r with
          | none => exact hN (by unfold Gm.safe; rw [ef]; rfl) _ rfl
          | some s => exact hK (by unfold Gm.safe; rw [ef]; rfl) _ rfl
        · subst hs
          refine ⟨supd_at, ?_⟩
          rw [supd_unlock hptS]
          walk_at "dg5"
          rw [show dEqB (.lst ((H.filter fun r => !g.safe H r).map D.int)) (.lst []) = some (decide ((H.filter fun r => !g.safe H r) = [])) from eqB_intsG _ []]
          simp only
          by_cases hall : H.all (g.safe H) = true
          · have eg : (H.filter fun r => !g.safe H r) = [] := by
              rw [List.filter_eq_nil_iff]
              intro r hr
              rw [List.all_eq_true.mp hall r hr]; simp
            rw [eg]
            simp only [decide_true, reduceIte]
            rw [ranksN_end g hall] at hrk
            refine q pf ph _ S2 (gr0.trans grS) nep.symm ?_ hph2 ?_
            · rw [← hrk]; exact hpf2
            · rw [kI_keys, ← hrk]
          · have eg : ¬ (H.filter fun r => !g.safe H r) = [] := by
              intro z
              apply hall
              rw [List.filter_eq_nil_iff] at z
              rw [List.all_eq_true]
              intro r hr
              simpa using z r hr
            simp only [eg, decide_false, Bool.false_eq_true, reduceIte]
            refine ⟨⟨pf, _, rfl, hpf2⟩, ?_⟩
            have ndg : (H.filter fun r => !g.safe H r).Nodup := nd.filter _
            have lg := List.length_filter_le (fun r => !g.safe H r) H
            refine dc_ints (pin := none) (H.filter fun r => !g.safe H r) rfl ndg (by omega) (fun _ => true) (fun r => .tup [.int k, optI (g.fatal H r)]) (fun _ S3 => S3 = S2) rfl (fun _ _ _ => trivial) (fun i r S3 hr hs => ⟨_, rfl, fun K N hK hN => ?_⟩) fun S3 hs pu hpu => ?_
            · subst hs
              walk_at "dg5"
              rw [dct_dK hptS]
              simp only
              rw [kI_val, if_pos (List.mem_filter.mp (List.mem_of_getElem? hr)).1]
              simp only
              exact hK rfl _ rfl
            · subst hs
              rw [List.filter_eq_self.mpr (fun _ _ => rfl)]
              have uf : pf ≠ pu := fun z => by rw [← z, hpf2] at hpu; cases hpu
              have uh : ph ≠ pu := fun z => by rw [← z, hph2] at hpu; cases hpu
              refine ⟨pf, pu, _, _, rfl, rfl, uf, (supd_ne uf).trans hpf2, dct_dK supd_at, ?_, ?_⟩
              · rw [List.length_map, kI_len]; omega
              · have mrg : dMrg (found.map fndD) (kI (fun r => D.tup [.int k, optI (g.fatal H r)]) (H.filter fun r => !g.safe H r)) = (found ++ g.gone H k).map fndD := by
                  rw [dMrg_new (by rw [kI_keys]; exact nd_inl ndg) fun x hx => ?_, List.map_append]
                  · congr 1
                    unfold kI Gm.gone
                    rw [List.map_map]
                    refine List.map_congr_left fun r hr => ?_
                    have hs := (List.mem_filter.mp hr).2
                    unfold Gm.safe at hs
                    show (Sum.inl r, D.tup [.int k, optI (g.fatal H r)]) = (Sum.inl r, D.tup [.int k, .int ((g.fatal H r).getD 0)])
                    cases e : g.fatal H r with
                    | none => rw [e] at hs; simp at hs
                    | some s => rfl
                  · rw [kI_keys] at hx
                    obtain ⟨r, hr, rfl⟩ := List.mem_map.mp hx
                    rw [fnd_keys, inl_mem]
                    intro z
                    obtain ⟨t, ht, e⟩ := List.mem_map.mp z
                    exact hdis t ht (e ▸ (List.mem_filter.mp hr).1)
                rw [mrg]
                have hph3 : supd (supd S3 pu (.dK (kI (fun r => D.tup [.int k, optI (g.fatal H r)]) (H.filter fun r => !g.safe H r)))) pf (.dK ((found ++ g.gone H k).map fndD)) ph = some (.dK (kI (fun _ => .bl true) H)) := by
                  rw [supd_ne nep, supd_ne uh]; exact hph2
                have hpt3 : supd (supd S3 pu (.dK (kI (fun r => D.tup [.int k, optI (g.fatal H r)]) (H.filter fun r => !g.safe H r)))) pf (.dK ((found ++ g.gone H k).map fndD)) pt = some (.dK (kI (fun r => optI (g.fatal H r)) H)) := by
                  have ut : pt ≠ pu := fun z => by rw [← z, hptS] at hpu; cases hpu
                  rw [supd_ne pt0, supd_ne ut]; exact hptS
                have gr3 : Grown S (supd (supd S3 pu (.dK (kI (fun r => D.tup [.int k, optI (g.fatal H r)]) (H.filter fun r => !g.safe H r)))) pf (.dK ((found ++ g.gone H k).map fndD))) := ((gr0.trans grS).trans (Grown.new hpu)).again hpf
                have hpf3 : supd (supd S3 pu (.dK (kI (fun r => D.tup [.int k, optI (g.fatal H r)]) (H.filter fun r => !g.safe H r)))) pf (.dK ((found ++ g.gone H k).map fndD)) pf = some (.dK ((found ++ g.gone H k).map fndD)) := supd_at
                generalize supd (supd S3 pu (.dK (kI (fun r => D.tup [.int k, optI (g.fatal H r)]) (H.filter fun r => !g.safe H r)))) pf (.dK ((found ++ g.gone H k).map fndD)) = S4 at hph3 hpt3 gr3 hpf3 ⊢
                refine .inr ⟨ph, _, hph3, fun o3 vs3 => ?_⟩
                walk_at "dg5"
                refine ⟨ph, o3, vs3, _, rfl, supd_at, ?_⟩
                refine dc_ints H (kI_dkeys H) nd (by omega) (fun r => g.safe H r) (fun _ => .bl true) (fun _ S5 => S5 = supd S4 ph (.dZ o3 vs3 (kI (fun _ => .bl true) H))) rfl (fun i S5 h => by rw [h]; exact supd_at) (fun i r S5 hr hs => ⟨_, rfl, fun K N hK hN => ?_⟩) fun S5 hs pn hpn => ?_
                · subst hs
                  walk_at "dg5"
                  rw [dct_supd th, dct_dK hpt3]
                  simp only
                  rw [kI_val, if_pos (List.mem_of_getElem? hr)]
                  simp only
                  cases ef : g.fatal H r with
                  | none => exact hK (by unfold Gm.safe; rw [ef]; rfl) _ rfl
                  | some s => exact hN (by unfold Gm.safe; rw [ef]; rfl) _ rfl
                · subst hs
                  have nh : pn ≠ ph := fun z => by rw [z, supd_at] at hpn; cases hpn
                  rw [supd_ne nh] at hpn
                  have nf : pn ≠ pf := fun z => by rw [z, hpf3] at hpn; cases hpn
                  refine ⟨(supd_ne nh.symm).trans supd_at, ?_⟩
                  have nd' : (H.filter fun r => g.safe H r).Nodup := nd.filter _
                  have l' := filter_lt hall
                  have lc : (H.filter fun r => g.safe H r).length + (g.gone H k).length = H.length := by
                    unfold Gm.gone
                    rw [List.length_map]
                    have := filter_two (g.safe H) H
                    omega
                  refine ⟨_, l', pn, H.filter fun r => g.safe H r, found ++ g.gone H k, k + 1, _, _, _, _, rfl, rfl, ?_, ?_, ?_, nf, nd', fun r hr => hin r (List.mem_filter.mp hr).1, by omega, fun t ht => ?_, ?_, ?_⟩
                  · intro a x ha
                    have ha4 := gr3 a x ha
                    by_cases c : a = ph
                    · rw [c] at ha4 ⊢
                      rw [hph3] at ha4
                      rw [supd_at]; exact ha4
                    · have c2 : a ≠ pn := fun z => by rw [z, hpn] at ha4; cases ha4
                      rw [supd_ne c, supd_ne c2, supd_ne c]; exact ha4
                  · rw [supd_ne nep.symm, supd_ne nf.symm, supd_ne nep.symm]; exact hpf3
                  · exact (supd_ne nh).trans supd_at
                  · rcases List.mem_append.mp ht with ht | ht
                    · exact fun z => hdis t ht (List.mem_filter.mp z).1
                    · unfold Gm.gone at ht
                      obtain ⟨r, hr, rfl⟩ := List.mem_map.mp ht
                      intro z
                      have h1 := (List.mem_filter.mp hr).2
                      have h2 := (List.mem_filter.mp z).2
                      simp at h1 h2
                      rw [h1] at h2; cases h2
                  · rw [List.length_append]; omega
                  · rw [← ranksN_step g hall]; exact hrk
/-! ### the least lag -/
def gmAt (b over most : Int) (sums : List Int) (L : Nat) : Gm := ⟨b, most, over * b ^ L, sums⟩
/-- nought is held for ever -/
def Gm.good (g : Gm) : Bool := decide (0 ∈ g.ranks.2)
def ruK (g : Gm) : List (Key × D) := [(.inr "root", .int g.b), (.inr "step", .int g.st), (.inr "sums", .lst (g.sums.map .int)), (.inr "all", .int g.top), (.inr "wide", .int g.w)]
def RuAt (S : Store) (q : Addr) (g : Gm) : Prop := dctOf S (.obj q) = some (ruK g)
/-- few enough sums to be sorted as a set -/
structure SumFew (ws ms : List Int) : Prop where
  ok : SumOk ws ms
  t : topR (ws.zip ms) ≤ 31
  m : ∀ m ∈ ms, m ≤ 31
def gameD (b over most : Int) (ws ms : List Int) : D := .tup [.int b, .tup (ws.map .int), .int over, .tup (ms.map .int), .int most]
def sp_Lsums : DSp := fun ds S P => ∃ ws ms : List Int, ds = [.tup (ws.map .int), .tup (ms.map .int)] ∧ SumFew ws ms ∧ ∀ ys, Srt (sumsR (ws.zip ms)) ys → P (.lst (ys.map .int)) S
def sp_Lrules : DSp := fun ds S P => ∃ (b over most : Int) (L : Nat) (ws ms sums : List Int), ds = [gameD b over most ws ms, .int L] ∧ SumFew ws ms ∧ Srt (sumsR (ws.zip ms)) sums ∧ 0 < b ∧ b ≤ 16 ∧ 0 < over ∧ over < 2 ^ 40 ∧ L ≤ 100 ∧ sums ≠ [] ∧
  ∀ q S', Grown S S' → S' q = some (.dK (ruK (gmAt b over most sums L))) → P (.obj q) S'
def sp_Lis_lost : DSp := fun ds S P => ∃ (q : Addr) (g : Gm) (r : Int), ds = [.obj q, .int r] ∧ RuAt S q g ∧ GmOk g ∧ r.natAbs < 2 ^ 40 ∧ P (.bl (decide (g.st * g.w < (g.b - 1) * (r.natAbs : Int) + g.top))) S
def sp_Lrests : DSp := fun ds S P => ∃ (q : Addr) (g : Gm), ds = [.obj q] ∧ RuAt S q g ∧ GmOk g ∧ ∀ S', Grown S S' → P (.lst (g.rests.map .int)) S'
def leadsQ (g : Gm) (a : Int) : List Int := (irg (0 - g.w) (g.w + 1)).map fun f => a - f * g.st
def sp_Lleads : DSp := fun ds S P => ∃ (q : Addr) (g : Gm) (r s : Int), ds = [.obj q, .int r, .int s] ∧ RuAt S q g ∧ GmOk g ∧ r.natAbs < 2 ^ 40 ∧ s.natAbs < 2 ^ 40 ∧ P (.lst ((leadsQ g (g.b * r + s)).map .int)) S
def sp_Lis_safe : DSp := fun ds S P => ∃ (q h : Addr) (g : Gm) (r : Int) (H : List Int), ds = [.obj q, .int r, .obj h] ∧ RuAt S q g ∧ GmOk g ∧ HeldAt S h H ∧ (∀ x ∈ H, x ∈ g.rests) ∧ r.natAbs < 2 ^ 40 ∧ P (.bl (g.safe H r)) S
def layD (t : Int × Int × Int) : Key × D := (.inl t.1, .int t.2.1)
def layK (g : Gm) : List (Key × D) := g.ranks.1.map layD ++ kI (fun _ => .non) g.ranks.2
def sp_Llayers : DSp := fun ds S P => ∃ (q : Addr) (g : Gm), ds = [.obj q] ∧ RuAt S q g ∧ GmOk g ∧ ∀ f S', Grown S S' → S f = none → S' f = some (.dK (layK g)) → P (.obj f) S'
/-- a game by draws of these laws -/
structure Drawn (b over most : Int) (ws ms : List Int) : Prop where
  b0 : 2 ≤ b
  b1 : b ≤ 5
  o0 : 1 ≤ over
  o1 : over ≤ 5
  l : ws.length = ms.length
  n : ws.length = 1 ∨ ws.length = 2
  w : ∀ w ∈ ws, w.natAbs ≤ 3
  m0 : ∀ m ∈ ms, 1 ≤ m
  m1 : ∀ m ∈ ms, m ≤ 4
  m2 : ∀ m ∈ ms, m ≤ (b + 1) / 2 + 1
  t0 : (b + 1) / 2 ≤ most
  t1 : most ≤ (b + 1) / 2 + 2
def sp_Ldrawn : DSp := fun ds S P => ∃ (p : Addr) (n : Nat), ds = [.obj p] ∧ BoxAt S p n ∧ n ≤ 10000000 ∧ ∀ (b over most : Int) (ws ms : List Int) S', Drawn b over most ws ms → BoxAt S' p (n + 20) → P (gameD b over most ws ms) S'
def rd_Lsums : DS :=
  (dSeq (dSet 2 (dLst (dCons (dC (.int 0)) dNil)))
  (dSeq (dFor (dZip (dCons (dVar 0) (dCons (dVar 1) dNil))) (.tp [(.nm 3), (.nm 4)]) (dSeq (dSet 5 (dLst dNil))
  (dSeq (dFor (dItSeq (dVar 2)) (.nm 6) (dSet 5 (dOp dAdd (dVar 5) (dLc (dRng2 (dCons (dOp dSub (dC (.int 0)) (dVar 4)) (dCons (dOp dAdd (dVar 4) (dC (.int 1))) dNil))) (.nm 7) dYes (dOp dAdd (dVar 6) (dOp dMul (dVar 3) (dVar 7)))))))
  (dSet 2 (dSortSet (dVar 5))))))
  (dRet (dVar 2))))
def goal_Lsums : Prop := ∀ (x0 x1 : D) (S : Store) (P : D → Store → Prop), sp_Lsums [x0, x1] S P → rd_Lsums (dEnd P) [some x0, some x1, none, none, none, none, none, none] S
def rd_Lrules : DS :=
  (dSeq (dAsg (.tp [(.nm 2), (.nm 3), (.nm 4), (.nm 5), (.nm 6)]) (dVar 0))
  (dSeq (dPar 7 8 (dCons (dCB sp_Lsums (dCons (dVar 3) (dCons (dVar 5) dNil))) (dCons (dVar 4) dNil)))
  (dSeq (dFor (dRng1 (dCons (dVar 1) dNil)) (.nm 9) (dSet 8 (dOp dMul (dVar 8) (dVar 2))))
  (dRet (dDisp [((dC (.str "root")), (dVar 2)), ((dC (.str "step")), (dVar 8)), ((dC (.str "sums")), (dVar 7)), ((dC (.str "all")), (dOp dIx (dVar 7) (dUn dNeg (dC (.int 1))))), ((dC (.str "wide")), (dVar 6))])))))
def goal_Lrules : Prop := ∀ (x0 x1 : D) (S : Store) (P : D → Store → Prop), sp_Lrules [x0, x1] S P → rd_Lrules (dEnd P) [some x0, some x1, none, none, none, none, none, none, none, none] S
def rd_Lis_lost : DS :=
  (dRet (dOp dGt (dOp dAdd (dOp dMul (dOp dSub (dOp dDGet (dVar 0) (dC (.str "root"))) (dC (.int 1))) (dCB cAbs (dCons (dVar 1) dNil))) (dOp dDGet (dVar 0) (dC (.str "all")))) (dOp dMul (dOp dDGet (dVar 0) (dC (.str "step"))) (dOp dDGet (dVar 0) (dC (.str "wide"))))))
def goal_Lis_lost : Prop := ∀ (x0 x1 : D) (S : Store) (P : D → Store → Prop), sp_Lis_lost [x0, x1] S P → rd_Lis_lost (dEnd P) [some x0, some x1] S
def rd_Lrests : DS :=
  (dSeq (dSet 1 (dLstM dNil))
  (dSeq (dFor (dRng1 (dCons (dC (.int 2000)) dNil)) (.nm 2) (dSeq (dIfS (dTest (dCB sp_Lis_lost (dCons (dVar 0) (dCons (dVar 2) dNil)))) (dRet (dOp dAdd (dLc (dItSeq (dBack (dVar 1))) (.nm 3) dYes (dOp dSub (dC (.int 0)) (dVar 3))) (dVar 1))) dNext)
  (dDrop (dAppend (dVar 1) (dVar 2)))))
  (dRet (dOp dAdd (dLc (dItSeq (dBack (dVar 1))) (.nm 3) dYes (dOp dSub (dC (.int 0)) (dVar 3))) (dVar 1)))))
def goal_Lrests : Prop := ∀ (x0 : D) (S : Store) (P : D → Store → Prop), sp_Lrests [x0] S P → rd_Lrests (dEnd P) [some x0, none, none, none] S
def rd_Lleads : DS :=
  (dRet (dLc (dRng2 (dCons (dOp dSub (dC (.int 0)) (dOp dDGet (dVar 0) (dC (.str "wide")))) (dCons (dOp dAdd (dOp dDGet (dVar 0) (dC (.str "wide"))) (dC (.int 1))) dNil))) (.nm 3) dYes (dOp dSub (dOp dAdd (dOp dMul (dOp dDGet (dVar 0) (dC (.str "root"))) (dVar 1)) (dVar 2)) (dOp dMul (dVar 3) (dOp dDGet (dVar 0) (dC (.str "step")))))))
def goal_Lleads : Prop := ∀ (x0 x1 x2 : D) (S : Store) (P : D → Store → Prop), sp_Lleads [x0, x1, x2] S P → rd_Lleads (dEnd P) [some x0, some x1, some x2, none] S
def rd_Lis_safe : DS :=
  (dSeq (dFor (dItSeq (dOp dDGet (dVar 0) (dC (.str "sums")))) (.nm 3) (dIfS (dNot (dTest (dCB cAny (dCons (dLc (dItSeq (dCB sp_Lleads (dCons (dVar 0) (dCons (dVar 1) (dCons (dVar 3) dNil))))) (.nm 4) dYes (dOp (dDIn false) (dVar 4) (dVar 2))) dNil)))) (dRet (dC (.bl false))) dNext))
  (dRet (dC (.bl true))))
def goal_Lis_safe : Prop := ∀ (x0 x1 x2 : D) (S : Store) (P : D → Store → Prop), sp_Lis_safe [x0, x1, x2] S P → rd_Lis_safe (dEnd P) [some x0, some x1, some x2, none, none] S
def rd_Llayers_1 : DS :=
  (dSeq (dLock (dSet 6 (dLc (dItKeys (dVar 2)) (.nm 4) (dNot (dTest (dCB sp_Lis_safe (dCons (dVar 0) (dCons (dVar 4) (dCons (dVar 2) dNil)))))) (dVar 4))))
  (dSeq (dFor (dItSeq (dVar 6)) (.nm 4) (dSeq (dDPut (dVar 1) (dVar 4) (dVar 3))
  (dDrop (dDPop1 (dVar 2) (dVar 4)))))
  (dSeq (dSet 3 (dOp dAdd (dVar 3) (dC (.int 1))))
  (dIfS (dTest (dOp dEq (dVar 6) (dLst dNil))) (dSeq (dDrop (dDUpd (dVar 1) (dCB cDictP (dCons (dLockE (dLc (dItKeys (dVar 2)) (.nm 4) dYes (dTup (dCons (dVar 4) (dCons (dC .non) dNil))))) dNil))))
  (dRet (dVar 1))) dNext))))
def rd_Llayers : DS :=
  (dSeq (dAsg (.tp [(.nm 1), (.nm 2), (.nm 3)]) (dTup (dCons dNewD (dCons (dCB cDictP (dCons (dLc (dItSeq (dCB sp_Lrests (dCons (dVar 0) dNil))) (.nm 4) dYes (dTup (dCons (dVar 4) (dCons (dC (.bl true)) dNil)))) dNil)) (dCons (dC (.int 0)) dNil)))))
  (dSeq (dFor (dRng1 (dCons (dOp dAdd (dCB cLenD (dCons (dVar 2) dNil)) (dC (.int 1))) dNil)) (.nm 5) rd_Llayers_1)
  (dRet (dVar 1))))
def goal_Llayers : Prop := ∀ (x0 : D) (S : Store) (P : D → Store → Prop), sp_Llayers [x0] S P → rd_Llayers (dEnd P) [some x0, none, none, none, none, none, none] S
def rd_Ldrawn : DS :=
  (dSeq (dSet 1 (dCB sp_Lof (dCons (dVar 0) (dCons (dLst (dCons (dC (.int 2)) (dCons (dC (.int 2)) (dCons (dC (.int 3)) (dCons (dC (.int 3)) (dCons (dC (.int 4)) (dCons (dC (.int 5)) dNil))))))) dNil))))
  (dSeq (dSet 2 (dOp dFdiv (dOp dAdd (dVar 1) (dC (.int 1))) (dC (.int 2))))
  (dSeq (dSet 3 (dCB cTuple (dCons (dLc (dRng1 (dCons (dOp dAdd (dC (.int 1)) (dCB sp_Ltake (dCons (dVar 0) (dCons (dC (.int 2)) dNil)))) dNil)) (.nm 4) dYes (dCB sp_Lof (dCons (dVar 0) (dCons (dLst (dCons (dC (.int 1)) (dCons (dC (.int 1)) (dCons (dUn dNeg (dC (.int 1))) (dCons (dC (.int 2)) (dCons (dC (.int 3)) dNil)))))) dNil)))) dNil)))
  (dSeq (dSet 5 (dCB cTuple (dCons (dLc (dItSeq (dVar 3)) (.nm 6) dYes (dOp dAdd (dVar 2) (dCB sp_Ltake (dCons (dVar 0) (dCons (dC (.int 2)) dNil))))) dNil)))
  (dRet (dTup (dCons (dVar 1) (dCons (dVar 3) (dCons (dOp dAdd (dC (.int 1)) (dCB sp_Ltake (dCons (dVar 0) (dCons (dOp dIx (dLst (dCons (dC (.int 1)) (dCons (dC (.int 3)) (dCons (dC (.int 5)) dNil)))) (dCB sp_Ltake (dCons (dVar 0) (dCons (dC (.int 3)) dNil)))) dNil)))) (dCons (dVar 5) (dCons (dOp dAdd (dVar 2) (dCB sp_Ltake (dCons (dVar 0) (dCons (dC (.int 3)) dNil)))) dNil)))))))))))
def goal_Ldrawn : Prop := ∀ (x0 : D) (S : Store) (P : D → Store → Prop), sp_Ldrawn [x0] S P → rd_Ldrawn (dEnd P) [some x0, none, none, none, none, none, none] S
theorem len_Lsums : ∀ ds S P, sp_Lsums ds S P → ds.length = 2 := by rintro ds S P ⟨a, b, rfl, _⟩; rfl
theorem len_Lrules : ∀ ds S P, sp_Lrules ds S P → ds.length = 2 := by rintro ds S P ⟨a, b, c, d, e, f, g, rfl, _⟩; rfl
theorem len_Lis_lost : ∀ ds S P, sp_Lis_lost ds S P → ds.length = 2 := by rintro ds S P ⟨a, b, c, rfl, _⟩; rfl
theorem len_Lrests : ∀ ds S P, sp_Lrests ds S P → ds.length = 1 := by rintro ds S P ⟨a, b, rfl, _⟩; rfl
theorem len_Lleads : ∀ ds S P, sp_Lleads ds S P → ds.length = 3 := by rintro ds S P ⟨a, b, c, d, rfl, _⟩; rfl
theorem len_Lis_safe : ∀ ds S P, sp_Lis_safe ds S P → ds.length = 3 := by rintro ds S P ⟨a, b, c, d, e, rfl, _⟩; rfl
theorem len_Llayers : ∀ ds S P, sp_Llayers ds S P → ds.length = 1 := by rintro ds S P ⟨a, b, rfl, _⟩; rfl
theorem len_Ldrawn : ∀ ds S P, sp_Ldrawn ds S P → ds.length = 1 := by rintro ds S P ⟨a, b, rfl, _⟩; rfl
theorem ru_val (g : Gm) : dVal (ruK g) (.inr (Str.ofString "root")) = some (.int g.b) ∧ dVal (ruK g) (.inr (Str.ofString "step")) = some (.int g.st) ∧ dVal (ruK g) (.inr (Str.ofString "sums")) = some (.lst (g.sums.map .int)) ∧
    dVal (ruK g) (.inr (Str.ofString "all")) = some (.int g.top) ∧ dVal (ruK g) (.inr (Str.ofString "wide")) = some (.int g.w) := ⟨rfl, rfl, rfl, rfl, rfl⟩
theorem RuAt.grown {S S' : Store} {q : Addr} {g : Gm} (h : RuAt S q g) (gr : Grown S S') : RuAt S' q g := by
  unfold RuAt dctOf at *
  cases e : S q with
  | none => simp [e] at h
  | some m =>
    simp only [gr q m e]
    simp only [e] at h
    exact h
theorem vc_Lis_lost : goal_Lis_lost := by
  rintro x0 x1 S P ⟨q, g, r, e, hq, ok, hr, h⟩
  cases e
  unfold rd_Lis_lost
  have hq' : dctOf S (.obj q) = some (ruK g) := hq
  obtain ⟨v1, v2, v3, v4, v5⟩ := ru_val g
  walk_at "dg5"
  simp only [hq', v1, v2, v4, v5]
  have := ok.b0; have := ok.b1; have := ok.w0; have := ok.w1
  rw [abs_if]
  exact ⟨mulS, mulS2, h⟩
theorem vc_Lleads : goal_Lleads := by
  rintro x0 x1 x2 S P ⟨q, g, r, s, e, hq, ok, hr, hs, h⟩
  cases e
  unfold rd_Lleads
  have hq' : dctOf S (.obj q) = some (ruK g) := hq
  obtain ⟨v1, v2, v3, v4, v5⟩ := ru_val g
  walk_at "dg5"
  simp only [hq', v1, v2, v4, v5]
  have := ok.b0; have := ok.b1; have := ok.w0; have := ok.w1; have := ok.s0; have := ok.s1
  refine ⟨by omega, ?_⟩
  rw [rng_irg]
  refine lcb_ints (irg (0 - g.w) (g.w + 1)) rfl (by rw [irg_len]; omega) (fun _ => true) (fun f => .int (g.b * r + s - f * g.st)) (fun _ S' => S' = S) rfl (fun i f S' hf hs' => ⟨_, rfl, fun K N hK hN => ?_⟩) fun S2 hs' => ?_
  · subst hs'
    walk_at "dg5"
    simp only [hq', v1, v2, v4, v5]
    have hf' := List.mem_of_getElem? hf
    rw [mem_irg] at hf'
    exact ⟨mulS, mulS, hK rfl _ rfl⟩
  · subst hs'
    rw [List.filter_eq_self.mpr (fun _ _ => rfl)]
    unfold leadsQ at h
    rw [List.map_map] at h
    exact h
/-- the law's own look at all figures -/
theorem leads_held {g : Gm} (ok : GmOk g) {H : List Int} (hH : ∀ x ∈ H, x ∈ g.rests) (a : Int) : ((leadsQ g a).any fun x => decide (x ∈ H)) = g.heldB H a := by
  unfold Gm.heldB
  rw [Bool.eq_iff_iff, List.any_eq_true, List.any_eq_true]
  constructor
  · rintro ⟨x, hx, hm⟩
    have hm' := of_decide_eq_true hm
    unfold leadsQ at hx
    obtain ⟨f, hf, rfl⟩ := List.mem_map.mp hx
    rw [mem_irg] at hf
    have hr := hH _ hm'
    unfold Gm.rests at hr
    rw [mem_irg] at hr
    exact ⟨_, (mem_led ok.s0).mpr ⟨f, by omega, by omega, rfl, by omega, by omega⟩, hm⟩
  · rintro ⟨x, hx, hm⟩
    obtain ⟨f, h1, h2, rfl, h3, h4⟩ := (mem_led ok.s0).mp hx
    exact ⟨_, List.mem_map.mpr ⟨f, mem_irg.mpr ⟨by omega, by omega⟩, rfl⟩, hm⟩
theorem vc_Lis_safe : goal_Lis_safe := by
  rintro x0 x1 x2 S P ⟨q, h, g, r, H, e, hq, ok, hh, hH, hr, z⟩
  cases e
  unfold rd_Lis_safe
  have hq' : dctOf S (.obj q) = some (ruK g) := hq
  obtain ⟨v1, v2, v3, v4, v5⟩ := ru_val g
  walk_at "dg5"
  simp only [hq', v3]
  refine ⟨fun i ρ S' => ∃ x3 x4, ρ = [some (.obj q), some (.int r), some (.obj h), x3, x4] ∧ S' = S ∧ ∀ s ∈ g.sums.take i, (!g.heldB H (g.b * r + s)) = false, ⟨none, none, rfl, rfl, by simp⟩, ?_, ?_⟩
  · rintro i d ρ S' hd ⟨x3, x4, rfl, rfl, hall⟩
    rw [List.getElem?_map] at hd
    cases e : g.sums[i]? with
    | none => rw [e] at hd; cases hd
    | some s =>
      rw [e] at hd
      cases hd
      have hs : s.natAbs < 2 ^ 40 := ok.sb s (List.mem_of_getElem? e)
      refine ⟨_, rfl, ?_⟩
      walk_at "dg5"
      refine ⟨q, g, r, s, rfl, hq, ok, hr, hs, ?_⟩
      walk_at "dg5"
      have hl : (leadsQ g (g.b * r + s)).length ≤ 100000 := by
        have := ok.w0; have := ok.w1
        unfold leadsQ
        rw [List.length_map, irg_len]; omega
      refine lcb_ints (leadsQ g (g.b * r + s)) rfl hl (fun _ => true) (fun x => .bl (decide (x ∈ H))) (fun _ S2 => S2 = S') rfl (fun j x S2 hx hs2 => ⟨_, rfl, fun K N hK hN => ?_⟩) fun S2 hs2 => ?_
      · subst hs2
        walk_at "dg5"
        obtain ⟨kvs, k1, k2⟩ := held_of hh x
        rw [k1]
        simp only
        rw [k2]
        exact hK rfl _ rfl
      · subst hs2
        rw [List.filter_eq_self.mpr (fun _ _ => rfl)]
        unfold cAny
        simp only [lstOf, Option.bind]
        rw [dBools_mapF]
        simp only [List.any_map]
        rw [show (leadsQ g (g.b * r + s)).any (id ∘ fun a => decide (a ∈ H)) = g.heldB H (g.b * r + s) from leads_held ok hH _]
        by_cases c : (!g.heldB H (g.b * r + s)) = true
        · rw [if_pos c]
          have z' := z
          unfold Gm.safe Gm.fatal at z'
          rw [find_take e hall c] at z'
          exact z'
        · rw [if_neg c]
          refine ⟨_, _, rfl, trivial, fun s' hs' => ?_⟩
          rw [List.take_add_one, e] at hs'
          rcases List.mem_append.mp hs' with hs' | hs'
          · exact hall s' hs'
          · simp at hs'
            subst hs'
            simpa using c
  · rintro ρ S' ⟨x3, x4, rfl, rfl, hall⟩
    rw [List.length_map, List.take_length] at hall
    walk_at "dg5"
    unfold Gm.safe Gm.fatal at z
    rw [find_none hall] at z
    exact z
theorem zip_map2 (ws ms : List Int) : zipD (ws.map D.int) (ms.map D.int) = (ws.zip ms).map fun q => .tup [.int q.1, .int q.2] := by
  unfold zipD
  rw [List.zipWith_map]
  show _ = (List.zipWith Prod.mk ws ms).map _
  rw [List.map_zipWith]
theorem topR_take : ∀ (ps : List (Int × Int)) (T : Int) (i : Nat), (∀ p ∈ ps, 0 ≤ p.2) → (ps.take i).foldl addT T ≤ ps.foldl addT T
  | [], _, _, _ => by simp
  | p :: ps, T, 0, h => by
    have mono : ∀ (qs : List (Int × Int)) (T : Int), (∀ q ∈ qs, 0 ≤ q.2) → T ≤ qs.foldl addT T := by
      intro qs
      induction qs with
      | nil => intro T _; exact Int.le_refl _
      | cons q qs ih =>
        intro T hq
        refine Int.le_trans ?_ (ih (addT T q) fun x hx => hq x (by simp [hx]))
        have := Int.mul_nonneg (show (0 : Int) ≤ (q.1.natAbs : Int) by omega) (hq q (by simp))
        unfold addT; omega
    simpa using mono (p :: ps) T h
  | p :: ps, T, i + 1, h => topR_take ps (addT T p) i fun q hq => h q (by simp [hq])
theorem few_len {l ys : List Int} {T : Int} (hT : T ≤ 31) (h : ∀ x ∈ l, -T ≤ x ∧ x ≤ T) (nd : ys.Nodup) (hs : ∀ k ∈ ys, k ∈ l) : ys.length < 64 := by
  have := nd_sub_len (l := irg (-31) 32) nd fun k hk => by
    have := h k (hs k hk)
    exact mem_irg.mpr (by omega)
  rw [irg_len] at this
  have e : ((32 : Int) - -31).toNat = 63 := rfl
  omega
theorem vc_Lsums : goal_Lsums := by
  rintro x0 x1 S P ⟨ws, ms, e, ok, h⟩
  cases e
  unfold rd_Lsums
  walk_at "dg5"
  rw [zip_map2]
  have hpos : ∀ q ∈ ws.zip ms, 0 ≤ q.2 := fun q hq => ok.ok.m0 _ (List.of_mem_zip hq).2
  refine ⟨fun i ρ S' => ∃ ys x3 x4 x5 x6, ρ = [some (.tup (ws.map .int)), some (.tup (ms.map .int)), some (.lst (ys.map .int)), x3, x4, x5, x6, none] ∧ S' = S ∧ Srt (sumsR ((ws.zip ms).take i)) ys, ⟨[0], none, none, none, none, rfl, rfl, by simp, by simp [sumsR]⟩, ?_, ?_⟩
  · rintro i d ρ S' hd ⟨ys, x3, x4, x5, x6, rfl, rfl, hy⟩
    rw [List.getElem?_map] at hd
    cases e : (ws.zip ms)[i]? with
    | none => rw [e] at hd; cases hd
    | some q =>
      rw [e] at hd
      cases hd
      have q0 : 0 ≤ q.2 := hpos q (List.mem_of_getElem? e)
      have q1 : q.2 ≤ 31 := ok.m _ (List.of_mem_zip (List.mem_of_getElem? e)).2
      have qw := ok.ok.w _ (List.of_mem_zip (List.mem_of_getElem? e)).1
      have bd : ∀ j, ∀ x ∈ sumsR ((ws.zip ms).take j), -31 ≤ x ∧ x ≤ 31 := fun j x hx => by
        have a := sumsR_bound x hx
        have b := topR_take (ws.zip ms) 0 j hpos
        have c := ok.t
        unfold topR at a c
        omega
      have ly : ys.length < 64 := few_len (T := 31) (by omega) (bd i) (nd_lt hy.lt) fun k hk => (hy.mem k).mp hk
      refine ⟨_, rfl, ?_⟩
      walk_at "dg5"
      have il := irg_len (0 - q.2) (q.2 + 1)
      refine ⟨fun j ρ S2 => ∃ x6', ρ = [some (.tup (ws.map .int)), some (.tup (ms.map .int)), some (.lst (ys.map .int)), some (.int q.1), some (.int q.2), some (.lst ((addS (ys.take j) q).map .int)), x6', none] ∧ S2 = S', ⟨x6, by simp [addS], rfl⟩, ?_, ?_⟩
      · rintro j d2 ρ S2 hd2 ⟨x6', rfl, rfl⟩
        rw [List.getElem?_map] at hd2
        cases e2 : ys[j]? with
        | none => rw [e2] at hd2; cases hd2
        | some one =>
          rw [e2] at hd2
          cases hd2
          have jl := (List.getElem?_eq_some_iff.mp e2).1
          refine ⟨_, rfl, ?_⟩
          walk_at "dg5"
          rw [rng_irg]
          refine ⟨by omega, ?_⟩
          refine lcb_ints (irg (0 - q.2) (q.2 + 1)) rfl (by omega) (fun _ => true) (fun f => .int (one + q.1 * f)) (fun _ S3 => S3 = S2) rfl (fun k f S3 hf hs3 => ⟨_, rfl, fun K N hK hN => ?_⟩) fun S3 hs3 => ?_
          · subst hs3
            walk_at "dg5"
            exact ⟨mulS, hK rfl _ rfl⟩
          · subst hs3
            rw [List.filter_eq_self.mpr (fun _ _ => rfl)]
            walk_at "dg5"
            have la := addS_len (ys.take j) q
            rw [List.length_take, show (irg (-q.2) (q.2 + 1)).length = (q.2 + 1 - -q.2).toNat from irg_len _ _] at la
            have : min j ys.length * (q.2 + 1 - -q.2).toNat ≤ 64 * 63 := Nat.mul_le_mul (by omega) (by omega)
            refine ⟨by rw [List.length_map, List.length_map]; omega, some (.int one), ?_⟩
            rw [List.take_add_one, e2]
            unfold addS
            rw [List.flatMap_append, List.map_append, show 0 - q.2 = -q.2 by omega]
            simp [List.map_map, Function.comp_def]
      · rintro ρ S2 ⟨x6', rfl, rfl⟩
        rw [List.length_map, List.take_length]
        unfold dSortSet
        walk_at "dg5"
        simp only [dInts_map]
        have la := addS_len ys q
        rw [show (irg (-q.2) (q.2 + 1)).length = (q.2 + 1 - -q.2).toNat from irg_len _ _] at la
        have : ys.length * (q.2 + 1 - -q.2).toNat ≤ 63 * 63 := Nat.mul_le_mul (by omega) (by omega)
        have same : ∀ k, k ∈ addS ys q ↔ k ∈ sumsR ((ws.zip ms).take (i + 1)) := fun k => by
          rw [sums_take e]
          exact addS_congr (fun k => hy.mem k) q k
        refine ⟨by omega, fun c nd hc => few_len (T := 31) (by omega) (bd (i + 1)) nd fun k hk => (same k).mp (hc k hk), fun zs hz1 hz2 => ?_⟩
        exact ⟨zs, some (.int q.1), some (.int q.2), some (.lst ((addS ys q).map .int)), x6', by simp, hz1, fun k => (hz2 k).trans (same k)⟩
  · rintro ρ S' ⟨ys, x3, x4, x5, x6, rfl, rfl, hy⟩
    rw [List.length_map, List.take_length] at hy
    walk_at "dg5"
    exact h ys hy
theorem vc_Lrules : goal_Lrules := by
  rintro x0 x1 S P ⟨b, over, most, L, ws, ms, sums, e, ok, hs, b0, b1, o0, o1, hL, hne, q⟩
  cases e
  unfold rd_Lrules gameD
  walk_at "dg5"
  refine ⟨ws, ms, rfl, ok, fun ys hy => ?_⟩
  have : ys = sums := hy.uniq hs fun _ => Iff.rfl
  subst this
  walk_at "dg5"
  refine ⟨by omega, by omega, fun i ρ S' => ∃ x9, ρ = [some (.tup [.int b, .tup (ws.map .int), .int over, .tup (ms.map .int), .int most]), some (.int (L : Int)), some (.int b), some (.tup (ws.map .int)), some (.int over), some (.tup (ms.map .int)), some (.int most), some (.lst (ys.map .int)), some (.int (over * b ^ i)), x9] ∧ S' = S, ⟨none, by simp, rfl⟩, ?_, ?_⟩
  · rintro i d ρ S' hd ⟨x9, rfl, rfl⟩
    refine ⟨_, rfl, ?_⟩
    walk_at "dg5"
    refine ⟨mulS2, some d, ?_⟩
    rw [Int.pow_succ, Int.mul_assoc]
  · rintro ρ S' ⟨x9, rfl, rfl⟩
    rw [rng_len]
    walk_at "dg5"
    rw [atI_lastG (by simpa using hne) (.int 0)]
    walk_at "dg5"
    refine ⟨by show ([Sum.inr (Str.ofString "root"), .inr (Str.ofString "step"), .inr (Str.ofString "sums"), .inr (Str.ofString "all"), .inr (Str.ofString "wide")] : List Key).Nodup; decide, fun p hp => ?_⟩
    have e : (List.map D.int ys).getLastD (.int 0) = .int (gmAt b over most ys L).top := by
      unfold Gm.top gmAt
      rw [List.getLastD_eq_getLast?, List.getLastD_eq_getLast?, List.getLast?_map]
      cases ys.getLast? <;> rfl
    rw [e, show ((L : Int)).toNat = L by omega]
    exact q p _ (Grown.new hp) supd_at
theorem irg_cons {lo hi : Int} (h : lo < hi) : irg lo hi = lo :: irg (lo + 1) hi := by
  refine srt_uniq (irg_lt _ _) (List.pairwise_cons.mpr ⟨fun x hx => ?_, irg_lt _ _⟩) fun x => ?_
  · rw [mem_irg] at hx; omega
  · rw [List.mem_cons, mem_irg, mem_irg]; omega
theorem irg_none {lo hi : Int} (h : hi ≤ lo) : irg lo hi = [] := by
  unfold irg
  rw [show (hi - lo).toNat = 0 by omega]; rfl
/-- there and back -/
theorem irg_both (i : Nat) : (((irg 0 i).drop 1).reverse.map fun x => 0 - x) ++ irg 0 i = irg (1 - i) i := by
  cases i with
  | zero => rw [irg_none (by omega), irg_none (by omega)]; rfl
  | succ n =>
    rw [irg_cons (lo := 0) (by omega)]
    simp only [List.drop_succ_cons, List.drop_zero]
    refine srt_uniq ?_ (irg_lt _ _) fun x => ?_
    · rw [List.pairwise_append]
      refine ⟨?_, List.pairwise_cons.mpr ⟨fun x hx => by rw [mem_irg] at hx; omega, irg_lt _ _⟩, fun a ha b hb => ?_⟩
      · rw [List.pairwise_map, List.pairwise_reverse]
        exact (irg_lt _ _).imp fun h => by omega
      · obtain ⟨y, hy, rfl⟩ := List.mem_map.mp ha
        rw [List.mem_reverse, mem_irg] at hy
        rcases List.mem_cons.mp hb with rfl | hb
        · omega
        · rw [mem_irg] at hb; omega
    · rw [List.mem_append, List.mem_map, List.mem_cons, mem_irg, mem_irg]
      constructor
      · rintro (⟨y, hy, rfl⟩ | rfl | h)
        · rw [List.mem_reverse, mem_irg] at hy; omega
        · omega
        · omega
      · intro h
        by_cases c : x < 0
        · exact .inl ⟨-x, by rw [List.mem_reverse, mem_irg]; omega, by omega⟩
        · by_cases c2 : x = 0
          · exact .inr (.inl c2)
          · exact .inr (.inr (by omega))
theorem irg_snoc (i : Nat) : irg 0 (i + 1 : Nat) = irg 0 i ++ [(i : Int)] := by
  unfold irg
  rw [show (((i + 1 : Nat) : Int) - 0).toNat = i + 1 by omega, show ((i : Int) - 0).toNat = i by omega, List.range_succ, List.map_append]
  simp
theorem lost_iff {g : Gm} (ok : GmOk g) (i : Nat) : (decide (g.st * g.w < (g.b - 1) * (((i : Int)).natAbs : Int) + g.top)) = decide (g.gr < (i : Int)) := by
  have h := fdiv_lt_iff (a := g.st * g.w - g.top) (x := (i : Int)) (k := g.b - 1) (by have := ok.b0; omega)
  rw [show (((i : Int)).natAbs : Int) = (i : Int) by omega, Int.mul_comm (g.b - 1) (i : Int)]
  unfold Gm.gr
  by_cases c : (i : Int) ≤ (g.st * g.w - g.top).fdiv (g.b - 1)
  · have := h.mp c
    rw [decide_eq_false (by omega), decide_eq_false (by omega)]
  · have : ¬ (i : Int) * (g.b - 1) ≤ g.st * g.w - g.top := fun z => c (h.mpr z)
    rw [decide_eq_true (by omega), decide_eq_true (by omega)]
theorem vc_Lrests : goal_Lrests := by
  rintro x0 S P ⟨q, g, e, hq, ok, h⟩
  cases e
  unfold rd_Lrests
  walk_at "dg5"
  intro a ha
  have few := ok.few
  refine ⟨by omega, by omega, fun i ρ S' => ∃ x2 x3, ρ = [some (.obj q), some (.obj a), x2, x3] ∧ Grown S S' ∧ S' a = some (.lst ((irg 0 i).map .int)) ∧ (i : Int) ≤ max 0 (g.gr + 1), ⟨none, none, rfl, Grown.new ha, supd_at, by omega⟩, ?_, ?_⟩
  · rintro i d ρ S' hd ⟨x2, x3, rfl, hg, hl, hi⟩
    obtain ⟨hi2, rfl⟩ := rng_get hd
    refine ⟨_, rfl, ?_⟩
    walk_at "dg5"
    have ll : (irg 0 i).length = i := by rw [irg_len]; omega
    refine ⟨q, g, (i : Int), by simp, hq.grown hg, ok, by omega, ?_⟩
    rw [lost_iff ok]
    walk_at "dg5"
    by_cases c : g.gr < (i : Int)
    · rw [if_pos c]
      simp only [hl]
      refine lcb_ints ((irg 0 i).drop 1).reverse (by rw [List.map_reverse, List.map_drop]) (by rw [List.length_reverse, List.length_drop]; omega) (fun _ => true) (fun x => .int (0 - x)) (fun _ S2 => S2 = S') rfl (fun j x S2 hx hs => ⟨_, rfl, fun K N hK hN => ?_⟩) fun S2 hs => ?_
      · subst hs
        walk_at "dg5"
        exact hK rfl _ rfl
      · subst hs
        rw [List.filter_eq_self.mpr (fun _ _ => rfl)]
        walk_at "dg5"
        simp only [hl]
        have z := h S2 hg
        have e : g.rests = (((irg 0 i).drop 1).reverse.map fun x => 0 - x) ++ irg 0 i := by
          rw [irg_both]
          unfold Gm.rests
          by_cases c2 : 0 ≤ g.gr
          · rw [show (i : Int) = g.gr + 1 by omega, show (1 : Int) - (g.gr + 1) = -g.gr by omega]
          · rw [irg_none (by omega), irg_none (by omega)]
        rw [e, List.map_append, List.map_map] at z
        exact ⟨by simp; omega, z⟩
    · rw [if_neg c]
      simp only [hl]
      walk_at "dg5"
      refine ⟨_, rfl, _, rfl, by rw [List.length_map]; omega, _, x3, rfl, hg.again ha, ?_, by omega⟩
      rw [irg_snoc, List.map_append]
      simp
  · rintro ρ S' ⟨x2, x3, rfl, hg, hl, hi⟩
    rw [rng_len] at hi
    exfalso
    omega
theorem pairs_ints (f : Int → D) : ∀ xs : List Int, DL.pairsOf (xs.map fun r => .tup [.int r, f r]) = some (kI f xs)
  | [] => rfl
  | x :: xs => by
    rw [List.map_cons]
    unfold DL.pairsOf
    rw [pairs_ints f xs]
    rfl
theorem mrg_ints (f : Int → D) {xs : List Int} (nd : xs.Nodup) : dMrg [] (kI f xs) = kI f xs := by
  rw [dMrg_new (by rw [kI_keys]; exact nd_inl nd) (by simp)]
  rfl
theorem wo_ints (f : Int → D) (xs : List Int) (r : Int) : dWo (kI f xs) (.inl r) = kI f (xs.filter fun x => decide (x ≠ r)) := by
  unfold dWo kI
  rw [List.filter_map]
  congr 1
  refine List.filter_congr fun x _ => ?_
  simp
theorem lay_keys (found : List (Int × Int × Int)) : (found.map layD).map (·.1) = (found.map (·.1)).map Sum.inl := by
  rw [List.map_map, List.map_map]; rfl
theorem RuAt.some {S : Store} {q : Addr} {g : Gm} (h : RuAt S q g) : ∃ m, S q = Option.some m := by
  unfold RuAt dctOf at h
  cases e : S q with
  | none => simp [e] at h
  | some m => exact ⟨m, rfl⟩
theorem vc_Llayers : goal_Llayers := by
  rintro x0 S P ⟨q, g, e, hq, ok, h⟩
  cases e
  unfold rd_Llayers rd_Llayers_1
  walk_at "dg5"
  intro pf hpf
  refine ⟨q, g, rfl, hq.grown (Grown.new hpf), ok, fun S1 g1 => ?_⟩
  have rl := rests_len ok
  obtain ⟨mq, hmq⟩ := hq.some
  walk_at "dg5"
  refine lcb_ints g.rests rfl (by omega) (fun _ => true) (fun r => .tup [.int r, .bl true]) (fun _ S' => S' = S1) rfl (fun i r S' hr hs => ⟨_, rfl, fun K N hK hN => ?_⟩) fun S2 hs => ?_
  · subst hs
    walk_at "dg5"
    exact hK rfl _ rfl
  · subst hs
    rw [List.filter_eq_self.mpr (fun _ _ => rfl)]
    walk_at "dg5"
    rw [pairs_ints (fun _ => .bl true)]
    simp only
    rw [mrg_ints (xs := g.rests) _ (irg_nd _ _)]
    refine ⟨by rw [kI_len]; omega, fun ph hph => ?_⟩
    have g0 := (Grown.new hpf).trans g1
    have hpf1 := g1 _ _ (supd_at (S := S) (p := pf) (m := .dK []))
    have nep : ph ≠ pf := fun z => by rw [z, hpf1] at hph; cases hph
    have phn : S ph = none := by
      cases e : S ph with
      | none => rfl
      | some m => rw [g0 _ _ e] at hph; cases hph
    have qh : q ≠ ph := fun z => by rw [z, phn] at hmq; cases hmq
    rw [dct_dK supd_at]
    simp only
    rw [kI_len]
    refine ⟨by omega, by omega, fun i ρ S' => ∃ H found k x4 x5 x6, ρ = [some (.obj q), some (.obj pf), some (.obj ph), some (.int k), x4, x5, x6] ∧ Grown S S' ∧ S' pf = some (.dK (found.map layD)) ∧ S' ph = some (.dK (kI (fun _ => .bl true) H)) ∧
      H.Nodup ∧ (∀ r ∈ H, r ∈ g.rests) ∧ H.length + i ≤ g.rests.length ∧ (∀ t ∈ found, t.1 ∉ H) ∧ found.length + H.length ≤ g.rests.length ∧ g.ranksN (H.length + 1) found H k = g.ranks,
      ⟨g.rests, [], 0, none, none, none, rfl, g0.again phn, (supd_ne nep.symm).trans hpf1, supd_at, irg_nd _ _, fun _ h => h, by omega, by simp, by simp, rfl⟩, ?_, ?_⟩
    · rintro i d ρ S' hd ⟨H, found, k, x4, x5, x6, rfl, gr0, hpf', hph', nd, hin, hlen, hdis, hsum, hrk⟩
      refine ⟨_, rfl, ?_⟩
      walk_at "dg5"
      refine .inr ⟨ph, _, hph', fun o vs => ?_⟩
      walk_at "dg5"
      refine ⟨ph, o, vs, _, rfl, supd_at, ?_⟩
      refine lcp_ints H (kI_dkeys H) (by omega) (fun r => !g.safe H r) .int (fun _ S3 => S3 = supd S' ph (.dZ o vs (kI (fun _ => .bl true) H))) rfl (fun i S3 h => by rw [h]; exact supd_at) (fun i r S3 hr hs => ⟨_, rfl, fun K N hK hN => ?_⟩) fun S3 hs => ?_
      · subst hs
        walk_at "dg5"
        have hr1 := hin r (List.mem_of_getElem? hr)
        have hgr := gr_bd ok
        unfold Gm.rests at hr1
        rw [mem_irg] at hr1
        refine ⟨q, ph, g, r, H, rfl, (dct_supd qh).trans (hq.grown gr0), ok, ⟨_, dct_dZ supd_at, kI_keys _ _⟩, hin, by omega, ?_⟩
        cases ef : g.safe H r with
        | true => exact hN (by rw [ef]; rfl) _ rfl
        | false => exact hK (by rw [ef]; rfl) _ rfl
      · subst hs
        refine ⟨supd_at, ?_⟩
        rw [supd_unlock hph']
        walk_at "dg5"
        have ndg : (H.filter fun r => !g.safe H r).Nodup := nd.filter _
        have lg := List.length_filter_le (fun r => !g.safe H r) H
        refine ⟨fun j ρ S3 => ∃ x4', ρ = [some (.obj q), some (.obj pf), some (.obj ph), some (.int k), x4', some d, some (.lst ((H.filter fun r => !g.safe H r).map .int))] ∧ Grown S S3 ∧ S3 pf = some (.dK ((found ++ (g.gone H k).take j).map layD)) ∧
          S3 ph = some (.dK (kI (fun _ => .bl true) (H.filter fun x => decide (x ∉ (H.filter fun r => !g.safe H r).take j)))), ⟨x4, rfl, gr0, ?_, ?_⟩, ?_, ?_⟩
        · simpa using hpf'
        · rw [List.filter_eq_self.mpr (fun _ _ => by simp)]
          exact hph'
        · rintro j d2 ρ S3 hd2 ⟨x4', rfl, gr3, hf3, hh3⟩
          rw [List.getElem?_map] at hd2
          cases e2 : (H.filter fun r => !g.safe H r)[j]? with
          | none => rw [e2] at hd2; cases hd2
          | some r =>
            rw [e2] at hd2
            cases hd2
            refine ⟨_, rfl, ?_⟩
            walk_at "dg5"
            have rH : r ∈ H := (List.mem_filter.mp (List.mem_of_getElem? e2)).1
            have rn : r ∉ (H.filter fun r => !g.safe H r).take j := take_nd ndg e2
            have eg : (g.gone H k)[j]? = some (r, k, (g.fatal H r).getD 0) := by
              unfold Gm.gone
              rw [List.getElem?_map, e2]; rfl
            have lk : (g.gone H k).length ≤ H.length := by
              unfold Gm.gone
              rw [List.length_map]; exact lg
            have nk : (Sum.inl r : Key) ∉ ((found ++ (g.gone H k).take j).map layD).map (·.1) := by
              rw [lay_keys, inl_mem, List.map_append, List.mem_append]
              rintro (z | z)
              · obtain ⟨t, ht, e⟩ := List.mem_map.mp z
                exact hdis t ht (e ▸ rH)
              · apply rn
                unfold Gm.gone at z
                rw [← List.map_take, List.map_map] at z
                obtain ⟨y, hy, e⟩ := List.mem_map.mp z
                have e' : y = r := e
                rw [← e']; exact hy
            refine ⟨pf, _, .inl r, rfl, hf3, rfl, ?_, ?_⟩
            · rw [List.length_map, List.length_append, List.length_take]; omega
            · rw [dPut_new _ nk]
              have hh4 := (supd_ne (S := S3) (m := .dK ((found ++ (g.gone H k).take j).map layD ++ [(.inl r, .int k)])) nep).trans hh3
              refine ⟨by rw [dct_dK hh4]; rfl, ph, _, .inl r, .bl true, rfl, hh4, rfl, ?_, ?_⟩
              · rw [kI_val, if_pos (List.mem_filter.mpr ⟨rH, decide_eq_true rn⟩)]
              · rw [wo_ints]
                refine ⟨_, rfl, (gr3.again hpf).again phn, ?_, ?_⟩
                · rw [supd_ne nep.symm, supd_at, List.take_add_one, eg]
                  simp [layD]
                · rw [supd_at, List.filter_filter, List.take_add_one, e2]
                  congr 3
                  refine List.filter_congr fun x _ => ?_
                  by_cases c1 : x = r
                  · simp [c1]
                  · by_cases c2 : x ∈ (H.filter fun r => !g.safe H r).take j <;> simp [c1, c2]
        · rintro ρ S3 ⟨x4', rfl, gr3, hf3, hh3⟩
          rw [List.length_map, List.take_of_length_le (by unfold Gm.gone; rw [List.length_map]; exact Nat.le_refl _)] at hf3
          rw [List.length_map, List.take_of_length_le (Nat.le_refl _)] at hh3
          have hfs : (H.filter fun x => decide (x ∉ (H.filter fun r => !g.safe H r))) = H.filter (g.safe H) := List.filter_congr fun x hx => by
            cases e : g.safe H x <;> simp [hx, e]
          rw [hfs] at hh3
          walk_at "dg5"
          rw [show dEqB (.lst ((H.filter fun r => !g.safe H r).map D.int)) (.lst []) = some (decide ((H.filter fun r => !g.safe H r) = [])) from eqB_intsG _ []]
          simp only
          by_cases hall : H.all (g.safe H) = true
          · have eg : (H.filter fun r => !g.safe H r) = [] := by
              rw [List.filter_eq_nil_iff]
              intro r hr
              rw [List.all_eq_true.mp hall r hr]; simp
            have es : H.filter (g.safe H) = H := List.filter_eq_self.mpr (List.all_eq_true.mp hall)
            have en : g.gone H k = [] := by unfold Gm.gone; rw [eg]; rfl
            rw [en, List.append_nil] at hf3
            rw [es] at hh3
            rw [eg]
            simp only [decide_true, reduceIte]
            rw [ranksN_end g hall] at hrk
            refine ⟨⟨pf, _, rfl, hf3⟩, .inr ⟨ph, _, hh3, fun o2 vs2 => ?_⟩⟩
            walk_at "dg5"
            refine ⟨ph, o2, vs2, _, rfl, supd_at, ?_⟩
            refine lcp_ints H (kI_dkeys H) (by omega) (fun _ => true) (fun r => .tup [.int r, .non]) (fun _ S5 => S5 = supd S3 ph (.dZ o2 vs2 (kI (fun _ => .bl true) H))) rfl (fun i S5 h => by rw [h]; exact supd_at) (fun i r S5 hr hs => ⟨_, rfl, fun K N hK hN => ?_⟩) fun S5 hs => ?_
            · subst hs
              walk_at "dg5"
              exact hK rfl _ rfl
            · subst hs
              rw [List.filter_eq_self.mpr (fun _ _ => rfl)]
              walk_at "dg5"
              rw [pairs_ints (fun _ => .non)]
              simp only
              rw [mrg_ints (xs := H) _ nd]
              refine ⟨by rw [kI_len]; omega, fun pu hpu => ?_⟩
              rw [supd_unlock hh3] at hpu ⊢
              have uf : pf ≠ pu := Grown.ne hf3 hpu
              refine ⟨pf, pu, _, _, rfl, rfl, uf, (supd_ne uf).trans hf3, dct_dK supd_at, by rw [List.length_map, kI_len]; omega, ?_⟩
              have mrg : dMrg (found.map layD) (kI (fun _ => D.non) H) = layK g := by
                rw [dMrg_new (by rw [kI_keys]; exact nd_inl nd) fun x hx => ?_]
                · unfold layK
                  rw [← hrk]
                · rw [kI_keys] at hx
                  obtain ⟨r, hr, rfl⟩ := List.mem_map.mp hx
                  rw [lay_keys, inl_mem]
                  intro z
                  obtain ⟨t, ht, e⟩ := List.mem_map.mp z
                  exact hdis t ht (e ▸ hr)
              rw [mrg]
              exact h pf _ ((gr3.trans (Grown.new hpu)).again hpf) hpf supd_at
          · have eg : ¬ (H.filter fun r => !g.safe H r) = [] := by
              intro z
              apply hall
              rw [List.filter_eq_nil_iff] at z
              rw [List.all_eq_true]
              intro r hr
              simpa using z r hr
            simp only [eg, decide_false, Bool.false_eq_true, reduceIte]
            have l' := filter_lt hall
            have lc : (H.filter (g.safe H)).length + (g.gone H k).length = H.length := by
              unfold Gm.gone
              rw [List.length_map]
              have := filter_two (g.safe H) H
              omega
            refine ⟨H.filter (g.safe H), found ++ g.gone H k, k + 1, _, _, _, rfl, gr3, hf3, hh3, nd.filter _, fun r hr => hin r (List.mem_filter.mp hr).1, by omega, fun t ht => ?_, ?_, ?_⟩
            · rcases List.mem_append.mp ht with ht | ht
              · exact fun z => hdis t ht (List.mem_filter.mp z).1
              · unfold Gm.gone at ht
                obtain ⟨r, hr, rfl⟩ := List.mem_map.mp ht
                intro z
                have h1 := (List.mem_filter.mp hr).2
                have h2 := (List.mem_filter.mp z).2
                simp at h1 h2
                rw [h1] at h2; cases h2
            · rw [List.length_append]; omega
            · rw [← ranksN_step g hall]; exact hrk
    · rintro ρ S' ⟨H, found, k, x4, x5, x6, rfl, gr0, hpf', hph', nd, hin, hlen, hdis, hsum, hrk⟩
      rw [rng_len] at hlen
      exfalso
      omega
theorem mem3 {x : Int} (h0 : 0 ≤ x) (h3 : x < 3) : x = 0 ∨ x = 1 ∨ x = 2 := by omega
theorem vc_Ldrawn : goal_Ldrawn := by
  rintro x0 S P ⟨p, n, e, hb, hn, h⟩
  cases e
  unfold rd_Ldrawn
  walk_at "dg5"
  refine ⟨p, _, [.int 2, .int 2, .int 3, .int 3, .int 4, .int 5], n, rfl, .inl rfl, by simp, by simp, hb, by omega, fun x S1 hx d1 => ?_⟩
  obtain ⟨b, rfl, b0, b1⟩ : ∃ b : Int, x = .int b ∧ 2 ≤ b ∧ b ≤ 5 := by
    simp only [List.mem_cons, List.not_mem_nil, or_false] at hx
    rcases hx with rfl | rfl | rfl | rfl | rfl | rfl <;> exact ⟨_, rfl, by omega, by omega⟩
  walk_at "dg5"
  refine ⟨divS (by omega) (by omega), p, 2, n + 1, rfl, by omega, by omega, d1.box, by omega, fun t S2 t0 t1 d2 => ?_⟩
  walk_at "dg5"
  have hl : (b + 1).fdiv 2 = (b + 1) / 2 := Int.fdiv_eq_ediv_of_nonneg _ (by omega)
  rw [hl]
  refine ⟨by omega, by omega, by rw [rng_len]; omega, fun i acc S' => ∃ ws : List Int, acc = ws.map .int ∧ ws.length = i ∧ (∀ w ∈ ws, w.natAbs ≤ 3) ∧ BoxAt S' p (n + 2 + i), ⟨[], rfl, rfl, by simp, d2.box⟩, ?_, ?_⟩
  · rintro i d acc S' hd ⟨ws, rfl, rfl, hw, hb'⟩
    obtain ⟨hi, rfl⟩ := rng_get hd
    refine ⟨_, rfl, ?_⟩
    walk_at "dg5"
    refine ⟨p, _, [.int 1, .int 1, .int (-1), .int 2, .int 3], n + 2 + ws.length, rfl, .inl rfl, by simp, by simp, hb', by omega, fun x S3 hx d3 => ?_⟩
    obtain ⟨w, rfl, hw1⟩ : ∃ w : Int, x = .int w ∧ w.natAbs ≤ 3 := by
      simp only [List.mem_cons, List.not_mem_nil, or_false] at hx
      rcases hx with rfl | rfl | rfl | rfl | rfl <;> exact ⟨_, rfl, by omega⟩
    refine ⟨ws ++ [w], by simp, by simp, fun y hy => ?_, d3.box⟩
    rcases List.mem_append.mp hy with hy | hy
    · exact hw y hy
    · simp at hy
      subst hy; exact hw1
  · rintro acc S3 ⟨ws, rfl, hlw, hw, hb3⟩
    rw [rng_len] at hlw hb3
    walk_at "dg5"
    refine ⟨by rw [List.length_map]; omega, fun i acc S' => ∃ ms : List Int, acc = ms.map .int ∧ ms.length = i ∧ (∀ m ∈ ms, (b + 1) / 2 ≤ m ∧ m ≤ (b + 1) / 2 + 1) ∧ BoxAt S' p (n + 2 + ws.length + i), ⟨[], rfl, rfl, by simp, by rw [hlw]; exact hb3⟩, ?_, ?_⟩
    · rintro i d acc S' hd ⟨ms, rfl, rfl, hm, hb'⟩
      rw [List.getElem?_map] at hd
      cases e2 : ws[ms.length]? with
      | none => rw [e2] at hd; cases hd
      | some w =>
        rw [e2] at hd
        cases hd
        have := (List.getElem?_eq_some_iff.mp e2).1
        refine ⟨_, rfl, ?_⟩
        walk_at "dg5"
        refine ⟨p, 2, n + 2 + ws.length + ms.length, rfl, by omega, by omega, hb', by omega, fun u S4 u0 u1 d4 => ?_⟩
        refine ⟨ms ++ [(b + 1) / 2 + u], by simp, by simp, fun y hy => ?_, d4.box⟩
        rcases List.mem_append.mp hy with hy | hy
        · exact hm y hy
        · simp at hy
          subst hy; omega
    · rintro acc S4 ⟨ms, rfl, hlm, hm, hb4⟩
      rw [List.length_map] at hlm hb4
      walk_at "dg5"
      refine ⟨p, 3, _, rfl, by omega, by omega, hb4, by omega, fun v S5 v0 v1 d5 => ?_⟩
      have fin : ∀ u : Int, (1 ≤ u ∧ u ≤ 5) → ∀ S6 P', (∀ z S7, 0 ≤ z → z < u → BoxAt S7 p (n + 2 + ws.length + ws.length + 2) → P' (.int z) S7) → BoxAt S6 p (n + 2 + ws.length + ws.length + 1) → sp_Ltake [.obj p, .int u] S6 P' :=
        fun u hu S6 P' hP hb6 => ⟨p, u, _, rfl, by omega, by omega, hb6, by omega, fun z S7 z0 z1 d7 => hP z S7 z0 z1 d7.box⟩
      have fin2 : ∀ (o : Int) S7, 1 ≤ o → o ≤ 5 → BoxAt S7 p (n + 2 + ws.length + ws.length + 2) → sp_Ltake [.obj p, .int 3] S7 fun x S8 => dAdd (.int ((b + 1) / 2)) x S8 fun x1 S9 => P (.tup [.int b, .tup (ws.map .int), .int o, .tup (ms.map .int), x1]) S9 :=
        fun o S7 o0 o1 hb7 => ⟨p, 3, _, rfl, by omega, by omega, hb7, by omega, fun z S8 z0 z1 d8 => h b o ((b + 1) / 2 + z) ws ms S8
          { b0 := b0, b1 := b1, o0 := o0, o1 := o1, l := hlm.symm, n := by omega, w := hw, m0 := fun m hm' => by have := hm m hm'; omega, m1 := fun m hm' => by have := hm m hm'; omega, m2 := fun m hm' => (hm m hm').2, t0 := by omega, t1 := by omega }
          (by obtain ⟨a, s, t, q1, q2, q3, q4, q5, q6⟩ := d8.box; exact ⟨a, s, t, q1, q2, q3, q4, q5, by omega⟩)⟩
      rcases mem3 v0 v1 with rfl | rfl | rfl
      · walk_at "dg5"
        refine fin 1 (by omega) _ _ (fun z S7 z0 z1 hb7 => ?_) d5.box
        walk_at "dg5"
        exact fin2 _ _ (by omega) (by omega) hb7
      · walk_at "dg5"
        refine fin 3 (by omega) _ _ (fun z S7 z0 z1 hb7 => ?_) d5.box
        walk_at "dg5"
        exact fin2 _ _ (by omega) (by omega) hb7
      · walk_at "dg5"
        refine fin 5 (by omega) _ _ (fun z S7 z0 z1 hb7 => ?_) d5.box
        walk_at "dg5"
        exact fin2 _ _ (by omega) (by omega) hb7
theorem Drawn.cases {b over most : Int} {ws ms : List Int} (h : Drawn b over most ws ms) : (∃ w m, ws = [w] ∧ ms = [m]) ∨ ∃ w v m l, ws = [w, v] ∧ ms = [m, l] := by
  have hl := h.l
  rcases h.n with e | e
  · obtain ⟨w, rfl⟩ := List.length_eq_one_iff.mp e
    obtain ⟨m, rfl⟩ := List.length_eq_one_iff.mp (by rw [← hl]; exact e)
    exact .inl ⟨w, m, rfl, rfl⟩
  · have two : ∀ xs : List Int, xs.length = 2 → ∃ a b, xs = [a, b] := fun xs hx => by
      match xs, hx with
      | [a, b], _ => exact ⟨a, b, rfl⟩
    obtain ⟨w, v, rfl⟩ := two ws e
    obtain ⟨m, l, rfl⟩ := two ms (by rw [← hl]; exact e)
    exact .inr ⟨w, v, m, l, rfl, rfl⟩
theorem prod12 {w m : Int} (hw : w.natAbs ≤ 3) (h0 : 1 ≤ m) (h1 : m ≤ 4) : 0 ≤ (w.natAbs : Int) * m ∧ (w.natAbs : Int) * m ≤ 12 := by
  have : (w.natAbs : Int) * m ≤ 3 * 4 := Int.mul_le_mul (by omega) h1 (by omega) (by omega)
  have : 0 ≤ (w.natAbs : Int) * m := Int.mul_nonneg (by omega) (by omega)
  omega
theorem Drawn.top {b over most : Int} {ws ms : List Int} (h : Drawn b over most ws ms) : topR (ws.zip ms) ≤ 24 := by
  rcases h.cases with ⟨w, m, rfl, rfl⟩ | ⟨w, v, m, l, rfl, rfl⟩
  · have := prod12 (h.w w (by simp)) (h.m0 m (by simp)) (h.m1 m (by simp))
    simp only [topR, addT, List.zip_cons_cons, List.zip_nil_right, List.foldl_cons, List.foldl_nil]
    omega
  · have := prod12 (h.w w (by simp)) (h.m0 m (by simp)) (h.m1 m (by simp))
    have := prod12 (h.w v (by simp)) (h.m0 l (by simp)) (h.m1 l (by simp))
    simp only [topR, addT, List.zip_cons_cons, List.zip_nil_right, List.foldl_cons, List.foldl_nil]
    omega
theorem Drawn.len {b over most : Int} {ws ms : List Int} (h : Drawn b over most ws ms) : (sumsR (ws.zip ms)).length ≤ 81 := by
  have one : ∀ m : Int, 1 ≤ m → m ≤ 4 → (irg (-m) (m + 1)).length ≤ 9 := fun m h0 h1 => by rw [irg_len]; omega
  rcases h.cases with ⟨w, m, rfl, rfl⟩ | ⟨w, v, m, l, rfl, rfl⟩
  · have := one m (h.m0 m (by simp)) (h.m1 m (by simp))
    simp only [sumsR, List.zip_cons_cons, List.zip_nil_right, List.foldl_cons, List.foldl_nil, addS_len, List.length_cons, List.length_nil]
    omega
  · have h1 := one m (h.m0 m (by simp)) (h.m1 m (by simp))
    have h2 := one l (h.m0 l (by simp)) (h.m1 l (by simp))
    simp only [sumsR, List.zip_cons_cons, List.zip_nil_right, List.foldl_cons, List.foldl_nil, addS_len, List.length_cons, List.length_nil]
    have := Nat.mul_le_mul h1 h2
    rw [Nat.zero_add, Nat.one_mul]
    omega
theorem Drawn.few {b over most : Int} {ws ms : List Int} (h : Drawn b over most ws ms) : SumFew ws ms :=
  ⟨⟨h.l, fun w hw => by have := h.w w hw; omega, fun m hm => by have := h.m0 m hm; omega, fun m hm => by have := h.m1 m hm; omega, by have := h.len; omega⟩, by have := h.top; omega, fun m hm => by have := h.m1 m hm; omega⟩
/-- the sums there are -/
theorem Drawn.sums {b over most : Int} {ws ms : List Int} (h : Drawn b over most ws ms) : ∃ ys, Srt (sumsR (ws.zip ms)) ys := by
  refine ⟨(irg (-24) 25).filter fun x => decide (x ∈ sumsR (ws.zip ms)), (irg_lt _ _).filter _, fun k => ?_⟩
  rw [List.mem_filter, mem_irg, decide_eq_true_eq]
  refine ⟨fun z => z.2, fun z => ⟨?_, z⟩⟩
  have := sumsR_bound k z
  have := h.top
  omega
structure SumsOf (ws ms ys : List Int) : Prop where
  srt : Srt (sumsR (ws.zip ms)) ys
  ne : ys ≠ []
  len : ys.length < 64
  bd : ∀ x ∈ ys, x.natAbs ≤ 31
theorem Drawn.of {b over most : Int} {ws ms ys : List Int} (h : Drawn b over most ws ms) (hy : Srt (sumsR (ws.zip ms)) ys) : SumsOf ws ms ys := by
  have bd : ∀ x ∈ sumsR (ws.zip ms), -24 ≤ x ∧ x ≤ 24 := fun x hx => by
    have := sumsR_bound x hx
    have := h.top
    omega
  refine ⟨hy, ?_, few_len (T := 24) (by omega) bd (nd_lt hy.lt) fun k hk => (hy.mem k).mp hk, fun x hx => by have := bd x ((hy.mem x).mp hx); omega⟩
  intro z
  have : (0 : Int) ∈ ys := (hy.mem 0).mpr (zero_sumsR fun p hp => by have := h.m0 _ (List.of_mem_zip hp).2; omega)
  rw [z] at this
  simp at this
theorem pow_small {b : Int} {L : Nat} (h0 : 2 ≤ b) (h1 : b ≤ 5) (hL : L ≤ 2) : 1 ≤ b ^ L ∧ b ^ L ≤ 25 := by
  have hb : b = 2 ∨ b = 3 ∨ b = 4 ∨ b = 5 := by omega
  have hl : L = 0 ∨ L = 1 ∨ L = 2 := by omega
  rcases hb with rfl | rfl | rfl | rfl <;> rcases hl with rfl | rfl | rfl <;> decide
theorem Drawn.gm {b over most : Int} {ws ms ys : List Int} (h : Drawn b over most ws ms) (hy : SumsOf ws ms ys) {L : Nat} (hL : L ≤ 2) : GmOk (gmAt b over most ys L) ∧ (gmAt b over most ys L).rests.length * ys.length ≤ 99999 := by
  have hp := pow_small h.b0 h.b1 hL
  have b0 := h.b0; have b1 := h.b1; have o0 := h.o0; have o1 := h.o1; have t0 := h.t0; have t1 := h.t1
  have st : 1 ≤ over * b ^ L ∧ over * b ^ L ≤ 125 := by
    have : over * b ^ L ≤ 5 * 25 := Int.mul_le_mul o1 hp.2 (by omega) (by omega)
    have : 1 * 1 ≤ over * b ^ L := Int.mul_le_mul o0 hp.1 (by omega) (by omega)
    omega
  have sw : 0 ≤ over * b ^ L * most ∧ over * b ^ L * most ≤ 625 := by
    have : over * b ^ L * most ≤ 125 * 5 := Int.mul_le_mul st.2 (by omega) (by omega) (by omega)
    have : 0 ≤ over * b ^ L * most := Int.mul_nonneg (by omega) (by omega)
    omega
  have tp : ((gmAt b over most ys L).top).natAbs ≤ 31 := hy.bd _ (top_mem (g := gmAt b over most ys L) hy.ne)
  have gr : (gmAt b over most ys L).gr ≤ 656 := by
    have := fdiv_bd (x := over * b ^ L * most - (gmAt b over most ys L).top) (k := b - 1) (B := 656) (by omega) (by omega) (by omega) (by omega)
    exact this.2
  refine ⟨⟨b0, by show b ≤ 16; omega, by show 0 ≤ most; omega, by show most ≤ 1000; omega, by show 0 < over * b ^ L; omega, by show over * b ^ L < 2 ^ 40; omega, hy.ne, by show ys.length ≤ 2000; have := hy.len; omega, fun s hs => by have := hy.bd s hs; omega, by omega⟩, ?_⟩
  have hr : (gmAt b over most ys L).rests.length ≤ 1313 := by
    unfold Gm.rests
    rw [irg_len]; omega
  have := Nat.mul_le_mul hr (show ys.length ≤ 63 by have := hy.len; omega)
  omega
/-! ### the layers of a game -/
theorem ranksN_dis (g : Gm) : ∀ (n : Nat) (found : List (Int × Int × Int)) (H : List Int) (k : Int), (∀ t ∈ found, t.1 ∉ H) → ∀ t ∈ (g.ranksN n found H k).1, t.1 ∉ (g.ranksN n found H k).2
  | 0, found, H, k, h => h
  | n + 1, found, H, k, h => by
    unfold Gm.ranksN
    by_cases e : H.all (g.safe H) = true
    · rw [if_pos e]; exact h
    · rw [if_neg e]
      refine ranksN_dis g n _ _ _ fun t ht => ?_
      rcases List.mem_append.mp ht with ht | ht
      · exact fun z => h t ht (List.mem_filter.mp z).1
      · unfold Gm.gone at ht
        obtain ⟨r, hr, rfl⟩ := List.mem_map.mp ht
        intro z
        have h1 := (List.mem_filter.mp hr).2
        have h2 := (List.mem_filter.mp z).2
        simp at h1 h2
        rw [h1] at h2; cases h2
theorem lay_val (g : Gm) (r : Int) : (r ∈ g.ranks.2 ∧ dVal (layK g) (.inl r) = some .non) ∨ (r ∉ g.ranks.2 ∧ (dVal (layK g) (.inl r) = none ∨ ∃ i, dVal (layK g) (.inl r) = some (.int i))) := by
  have hv : dVal (layK g) (.inl r) = (dVal (g.ranks.1.map layD) (.inl r)).or (dVal (kI (fun _ => .non) g.ranks.2) (.inl r)) := by
    unfold dVal layK
    rw [List.find?_append]
    cases (g.ranks.1.map layD).find? fun kv => decide (kv.1 = (.inl r : Key)) <;> rfl
  rw [hv, kI_val]
  by_cases c : r ∈ g.ranks.2
  · refine .inl ⟨c, ?_⟩
    have : dVal (g.ranks.1.map layD) (.inl r : Key) = none := by
      rw [dVal_none, lay_keys, inl_mem]
      intro z
      obtain ⟨t, ht, e⟩ := List.mem_map.mp z
      exact ranksN_dis g _ [] _ _ (by simp) t ht (by rw [e]; exact c)
    rw [this, if_pos c]; rfl
  · refine .inr ⟨c, ?_⟩
    rw [if_neg c, Option.or_none]
    cases e : dVal (g.ranks.1.map layD) (.inl r : Key) with
    | none => exact .inl rfl
    | some d =>
      refine .inr ?_
      unfold dVal at e
      cases e2 : (g.ranks.1.map layD).find? fun kv => decide (kv.1 = (.inl r : Key)) with
      | none => rw [e2] at e; cases e
      | some kv =>
        rw [e2] at e
        cases e
        obtain ⟨t, _, rfl⟩ := List.mem_map.mp (List.mem_of_find?_eq_some e2)
        exact ⟨t.2.1, rfl⟩
def sp_Game_is_lostE : DSp := fun ds S P => ∃ (p : Addr) (g : Gm) (r : Int), ds = [.obj p, .int r] ∧ GAt S p g ∧ GmOk g ∧ r.natAbs < 2 ^ 40 ∧ P (.bl (decide (g.gr < (r.natAbs : Int)))) S
/-- a game in order -/
structure Fit (b over most : Int) (ws ms ys : List Int) (L : Nat) : Prop where
  ok : SumOk ws ms
  srt : Srt (sumsR (ws.zip ms)) ys
  gm : GmOk (gmAt b over most ys L)
  few : (gmAt b over most ys L).rests.length * ys.length ≤ 99999
  o0 : 0 < over
  o1 : over < 2 ^ 60
  lag : L ≤ 900
def callG (b over most : Int) (ws ms : List Int) (L : Nat) : List D := [.int b, .tup (ws.map .int), .int over, .tup (ms.map .int), .int most, .int L]
def Gm.shows (g : Gm) (xs : List Int) : Bool := xs.all (fun r => decide ((r.natAbs : Int) ≤ g.gr)) && (decide (0 ∈ xs) && xs.all (g.safe xs))
def rd_Game_is_lostE : DS :=
  (dRet (dOp dGt (dOp dAdd (dOp dMul (dOp dSub (dFld 3 "own_base" (dVar 0)) (dC (.int 1))) (dCB cAbs (dCons (dVar 1) dNil))) (dOp dIx (dFld 3 "own_sums" (dVar 0)) (dUn dNeg (dC (.int 1))))) (dOp dMul (dFld 3 "own_step" (dVar 0)) (dFld 3 "own_most" (dVar 0)))))
def goal_Game_is_lostE : Prop := ∀ (x0 x1 : D) (S : Store) (P : D → Store → Prop), sp_Game_is_lostE [x0, x1] S P → rd_Game_is_lostE (dEnd P) [some x0, some x1] S
theorem len_Game_is_lostE : ∀ ds S P, sp_Game_is_lostE ds S P → ds.length = 2 := by rintro ds S P ⟨a, b, c, rfl, _⟩; rfl
theorem lost_iffI {g : Gm} (ok : GmOk g) (r : Int) : (decide (g.st * g.w < (g.b - 1) * ((r.natAbs : Int)) + g.top)) = decide (g.gr < (r.natAbs : Int)) := by
  have := lost_iff ok r.natAbs
  rwa [show (((r.natAbs : Int)).natAbs) = r.natAbs by omega] at this
theorem vc_Game_is_lostE : goal_Game_is_lostE := by
  rintro x0 x1 S P ⟨p, g, r, e, hg, ok, hr, h⟩
  cases e
  unfold rd_Game_is_lostE
  walk_at "dg5"
  simp only [gf_b hg, gf_w hg, gf_s hg, gf_t hg, gm_top ok]
  have := ok.w1; have := ok.w0; have := ok.b0; have := ok.b1
  rw [abs_if, lost_iffI ok]
  exact ⟨mulS, mulS2, h⟩
/-! ### what stays is in order -/
theorem ranksN_lt (g : Gm) : ∀ (n : Nat) (found : List (Int × Int × Int)) (H : List Int) (k : Int), H.Pairwise (· < ·) → (g.ranksN n found H k).2.Pairwise (· < ·)
  | 0, found, H, k, h => h
  | n + 1, found, H, k, h => by
    unfold Gm.ranksN
    by_cases e : H.all (g.safe H) = true
    · rw [if_pos e]; exact h
    · rw [if_neg e]
      exact ranksN_lt g n _ _ _ (h.filter _)
theorem ranks_lt (g : Gm) : g.ranks.2.Pairwise (· < ·) := ranksN_lt g _ _ _ _ (irg_lt _ _)
theorem ranksN_len (g : Gm) : ∀ (n : Nat) (found : List (Int × Int × Int)) (H : List Int) (k : Int), (g.ranksN n found H k).1.length + (g.ranksN n found H k).2.length = found.length + H.length
  | 0, found, H, k => rfl
  | n + 1, found, H, k => by
    unfold Gm.ranksN
    by_cases e : H.all (g.safe H) = true
    · rw [if_pos e]
    · rw [if_neg e, ranksN_len g n, List.length_append]
      unfold Gm.gone
      rw [List.length_map]
      have := filter_two (g.safe H) H
      omega
theorem ranks_len {g : Gm} (ok : GmOk g) : g.ranks.1.length + g.ranks.2.length ≤ 2001 := by
  have := ranksN_len g (g.rests.length + 1) [] g.rests 0
  have := rests_len ok
  unfold Gm.ranks
  simp only [List.length_nil] at *
  omega
theorem ranksN_sub (g : Gm) : ∀ (n : Nat) (found : List (Int × Int × Int)) (H : List Int) (k : Int), ∀ x ∈ (g.ranksN n found H k).2, x ∈ H
  | 0, found, H, k => fun x h => h
  | n + 1, found, H, k => by
    unfold Gm.ranksN
    by_cases e : H.all (g.safe H) = true
    · rw [if_pos e]; exact fun x h => h
    · rw [if_neg e]
      exact fun x h => (List.mem_filter.mp (ranksN_sub g n _ _ _ x h)).1
theorem ranks_sub (g : Gm) : ∀ x ∈ g.ranks.2, x ∈ g.rests := ranksN_sub g _ _ _ _
theorem heldB_congr (g : Gm) {H H' : List Int} (h : ∀ x, x ∈ H ↔ x ∈ H') (a : Int) : g.heldB H a = g.heldB H' a := by
  unfold Gm.heldB
  congr 1
  funext x
  by_cases c : x ∈ H
  · rw [decide_eq_true c, decide_eq_true ((h x).mp c)]
  · rw [decide_eq_false c, decide_eq_false fun z => c ((h x).mpr z)]
theorem safe_congr (g : Gm) {H H' : List Int} (h : ∀ x, x ∈ H ↔ x ∈ H') (r : Int) : g.safe H r = g.safe H' r := by
  unfold Gm.safe Gm.fatal
  congr 2
  funext s
  rw [heldB_congr g h]
theorem all_congr {p : Int → Bool} {H H' : List Int} (h : ∀ x, x ∈ H ↔ x ∈ H') : H.all p = H'.all p := by
  rw [Bool.eq_iff_iff, List.all_eq_true, List.all_eq_true]
  exact ⟨fun z x hx => z x ((h x).mpr hx), fun z x hx => z x ((h x).mp hx)⟩
end Lb

namespace Lb
open PySem PySem.Spec PyProof.Rows L2 DL
local macro_rules | `(tactic| walk_at "dgo") => `(tactic| try simp only [dSeq, dSet, dPar, dOp, dUn, dVar, dC, dCB, dCons, dNil, dTup, dLst, dLstM, dIfS, dIf, dTest, dNot, dAnd, dOr, dAndV, dOrV, dNotV, dRet, dRetN, dEnd, dNext, dAdd, dSub, dMul, dFdiv, dMod, dPow, dNeg, dLt, dLe, dGt, dGe, dEq, dNe, eqB_ii, eqB_bb, eqB_ss, eqB_nn, eqB_ni, eqB_in, eqB_ns, eqB_sn, eqB_is, eqB_si, eqB_nb, eqB_bn, dIx, dIn, dIsN, dNotN, DL.isNon, cAbs, cMax2, cMin2, cInt, cLen, cList, cTuple, dIsB, dNotB, dPar3, ForN, LcN, pinOf, pin2, dEnum2, dAppend, supd_same0, isi_non_int, isi_non_bool, isi_non_str, isi_non_list, isi_non_tuple, isi_non_lt, isi_bl_int, isi_bl_bool, isi_bl_str, isi_bl_list, isi_bl_tuple, isi_bl_lt, isi_int_int, isi_int_bool, isi_int_str, isi_int_list, isi_int_tuple, isi_int_lt, isi_str_int, isi_str_bool, isi_str_str, isi_str_list, isi_str_tuple, isi_str_lt, isi_lst_int, isi_lst_bool, isi_lst_str, isi_lst_list, isi_lst_tuple, isi_lst_lt, isi_tup_int, isi_tup_bool, isi_tup_str, isi_tup_list, isi_tup_tuple, isi_tup_lt, dAug, dIAdd, dIMul, dDrop, dSl, dPart, dNoPart, dRevL, dCallK, dChainR, dAsg, put_nm, put_tp, put_tl, putL_nil, putL_cons, Option.bind, seqOf, lstOf, dFor, dLc, dLcM, dItSeq, dZip, dZipS, dEnum, dRng1, dRng2, dYes, dwipe, Tgt.slots, Tgt.slotsL,
  atI_0, atI_1, atI_2, atI_3, List.getElem?_cons_zero, List.getElem?_cons_succ, List.set_cons_zero, List.set_cons_succ, decide_eq_true_eq, List.length_cons, List.length_nil, List.cons_append, List.nil_append, List.append_nil, ofString_inj, String.reduceEq, decide_true, decide_false, reduceIte, Bool.false_eq_true, Bool.not_true, Bool.not_false, eqFlat, isFlat, List.any_cons, List.any_nil, List.all_cons, List.all_nil, Bool.or_false, Bool.or_true, Bool.false_or, Bool.true_or, Bool.and_true, Bool.true_and, true_and, and_true, Nat.reduceAdd, Nat.reduceLeDiff, Int.reduceLT, Int.reduceLE, Int.reduceNeg])
theorem BoxAt.other {S : Store} {p q : Addr} {n : Nat} {m : MO} (h : BoxAt S p n) (hq : p ≠ q) : BoxAt (supd S q m) p n := by
  obtain ⟨a, s, t, e, h⟩ := h
  exact ⟨a, s, t, by rw [supd_ne hq]; exact e, h⟩
theorem BoxAt.ne {S : Store} {p q : Addr} {n : Nat} (h : BoxAt S p n) (hq : S q = none) : p ≠ q := by
  obtain ⟨a, s, t, e, h⟩ := h
  intro z; rw [z, hq] at e; cases e
/-! ### what is a row -/
def isNumB : D → Bool
  | .int _ => true
  | _ => false
def sp_is_number : DSp := fun ds S P => ∃ (n : Nat) (x : D), ds = [x] ∧ Plain n x ∧ P (.bl (isNumB x)) S
def rd_is_number : DS :=
  (dRet (dAndV (dCB cIsi (dCons (dVar 0) (dCons (dC (.ty "int")) dNil))) (dNotV (dCB cIsi (dCons (dVar 0) (dCons (dC (.ty "bool")) dNil))))))
def goal_is_number : Prop := ∀ (x0 : D) (S : Store) (P : D → Store → Prop), sp_is_number [x0] S P → rd_is_number (dEnd P) [some x0] S
theorem len_is_number : ∀ ds S P, sp_is_number ds S P → ds.length = 1 := by
  rintro ds S P ⟨a, b, rfl, _⟩; rfl
theorem vc_is_number : goal_is_number := by
  rintro x0 S P ⟨n, x, e, hp, h⟩
  cases e
  unfold rd_is_number
  cases hp <;> (walk_at "dgo"; exact h)
/-! ### what rows may come to -/
def whole (b : Int) (fs : List Int) : Int := fs.foldl (fun a f => a * b + f) 0
def Rw.pw (b : Int) (r : Rw) : Rat := (b : Rat) ^ (r.e - (r.fs.length : Int))
def Rw.worth (b : Int) (r : Rw) : Rat := ((whole b r.fs : Int) : Rat) * r.pw b
def Rw.tail (b : Int) (r : Rw) : Rat := (r.m : Rat) / ((b - 1 : Int) : Rat) * r.pw b
def Rw.lo (b : Int) (r : Rw) : Rat := r.worth b - r.tail b
def Rw.hi (b : Int) (r : Rw) : Rat := r.worth b + r.tail b
def Rw.cut (r : Rw) (k : Int) : Rw := ⟨r.e, r.m, r.fs.take (k + r.e).toNat⟩
structure Rw.Ok (b : Int) (r : Rw) : Prop where
  b0 : 2 ≤ b
  b1 : b ≤ 16
  e0 : -40 ≤ r.e
  e1 : r.e ≤ 40
  m0 : 0 ≤ r.m
  m1 : r.m ≤ 1000
  l : r.fs.length ≤ 80
  f : ∀ f, f ∈ r.fs → f.natAbs ≤ 1000
theorem Rw.Drawn.ok {b : Int} {r : Rw} (h : r.Drawn b) (b0 : 2 ≤ b) (b1 : b ≤ 16) : r.Ok b :=
  ⟨b0, b1, by have := h.e0; omega, by have := h.e1; omega, by have := h.m0; omega, by have := h.m1; omega, by have := h.l; omega, fun f hf => by have := h.f f hf; have := h.m1; omega⟩
theorem fold_bound {b : Int} (b0 : 2 ≤ b) (b1 : b ≤ 16) : ∀ (fs : List Int) (a : Int), (∀ f, f ∈ fs → f.natAbs ≤ 1000) → (fs.foldl (fun a f => a * b + f) a).natAbs + 1000 ≤ (a.natAbs + 1000) * 16 ^ fs.length
  | [], a, _ => by simp
  | f :: fs, a, h => by
    have ih := fold_bound b0 b1 fs (a * b + f) (fun z hz => h z (by simp [hz]))
    have h1 := h f (by simp)
    have h2 : (a * b).natAbs ≤ a.natAbs * 16 := by
      rw [Int.natAbs_mul]
      exact Nat.mul_le_mul_left _ (by omega)
    have h3 : (a * b + f).natAbs + 1000 ≤ (a.natAbs + 1000) * 16 := by
      have := Int.natAbs_add_le (a * b) f
      omega
    rw [List.foldl_cons, List.length_cons, Nat.pow_succ]
    refine Nat.le_trans ih (Nat.le_trans (Nat.mul_le_mul_right _ h3) ?_)
    rw [Nat.mul_assoc, Nat.mul_comm 16]
    exact Nat.le_refl _
section
variable {b : Int} {r : Rw}
theorem Rw.Ok.whole (h : r.Ok b) : (whole b r.fs).natAbs < 2 ^ 331 := by
  have h1 := fold_bound h.b0 h.b1 r.fs 0 h.f
  have h2 : (16 : Nat) ^ r.fs.length ≤ 16 ^ 80 := Nat.pow_le_pow_right (by decide) h.l
  have h3 : (1000 : Nat) * 16 ^ 80 < 2 ^ 331 := by decide
  unfold Lb.whole
  have h4 := Nat.mul_le_mul_left 1000 h2
  simp only [Int.natAbs_zero, Nat.zero_add] at h1
  generalize (16 : Nat) ^ r.fs.length = x at *
  generalize (16 : Nat) ^ 80 = y at *
  generalize (2 : Nat) ^ 331 = z at *
  omega
theorem Rw.Ok.pw (h : r.Ok b) : Sz 481 (r.pw b) := (sz_zpow (k := r.e - (r.fs.length : Int)) (by have := h.b0; omega) (by have := h.b1; omega)).mono (by
  have := h.e0; have := h.e1; have := h.l; omega)
theorem Rw.Ok.bp (h : r.Ok b) : (0 : Rat) < (b : Rat) := ratpos (by have := h.b0; omega)
theorem Rw.Ok.pwp (h : r.Ok b) : 0 < r.pw b := Rat.zpow_pos h.bp
theorem Rw.Ok.cne (h : r.Ok b) : (b - 1 : Int) ≠ 0 := by have := h.b0; omega
theorem Rw.Ok.cp (h : r.Ok b) : (0 : Rat) < ((b - 1 : Int) : Rat) := ratpos (by have := h.b0; omega)
theorem Rw.Ok.worth (h : r.Ok b) : Sz 820 (r.worth b) := (sz_mul (sz_int h.whole) h.pw).mono (by decide)
theorem Rw.Ok.fr (h : r.Ok b) : Sz 11 ((r.m : Rat) / ((b - 1 : Int) : Rat)) := sz_frac h.cne (by have := h.m0; have := h.m1; omega) (by have := h.b0; have := h.b1; omega)
theorem Rw.Ok.tail (h : r.Ok b) : Sz 500 (r.tail b) := (sz_mul h.fr h.pw).mono (by decide)
theorem Rw.Ok.lo (h : r.Ok b) : Sz 1330 (r.lo b) := (sz_sub h.worth h.tail).mono (by decide)
theorem Rw.Ok.hi (h : r.Ok b) : Sz 1330 (r.hi b) := (sz_add h.worth h.tail).mono (by decide)
theorem Rw.Ok.cut (h : r.Ok b) (k : Int) : (r.cut k).Ok b := ⟨h.b0, h.b1, h.e0, h.e1, h.m0, h.m1, by
  have := h.l
  show (r.fs.take _).length ≤ 80
  rw [List.length_take]; omega, fun f hf => h.f f (List.mem_of_mem_take hf)⟩
end
def spanD (b : Int) (r : Rw) : D := .tup [encR (r.lo b), encR (r.hi b)]
/-! ### one figure more -/
def Rw.snoc (r : Rw) (f : Int) : Rw := ⟨r.e, r.m, r.fs ++ [f]⟩
theorem whole_snoc (b : Int) (fs : List Int) (f : Int) : whole b (fs ++ [f]) = whole b fs * b + f := by unfold whole; simp
/-- the next place's power -/
def Rw.nx (b : Int) (r : Rw) : Rat := (b : Rat) ^ (r.e - (r.fs.length : Int) - 1)
section
variable {b : Int} {r : Rw}
theorem Rw.snoc_pw (r : Rw) (f : Int) : (r.snoc f).pw b = r.nx b := by
  unfold Rw.pw Rw.nx Rw.snoc
  simp only [List.length_append, List.length_cons, List.length_nil]
  congr 1; omega
theorem Rw.pw_nx (h : b ≠ 0) : r.pw b = r.nx b * (b : Rat) := by
  unfold Rw.pw Rw.nx
  have hb : (b : Rat) ≠ 0 := by exact_mod_cast h
  rw [← Rat.zpow_add_one hb]
  congr 1; omega
theorem Rw.snoc_worth (h : b ≠ 0) (f : Int) : (r.snoc f).worth b = r.worth b + (f : Rat) * r.nx b := by
  unfold Rw.worth
  rw [Rw.snoc_pw, Rw.pw_nx h]
  show ((whole b (r.fs ++ [f]) : Int) : Rat) * _ = _
  rw [whole_snoc, Rat.intCast_add, Rat.intCast_mul]
  grind
theorem Rw.snoc_tail (f : Int) : (r.snoc f).tail b = (r.m : Rat) / ((b - 1 : Int) : Rat) * r.nx b := by
  unfold Rw.tail
  rw [Rw.snoc_pw]; rfl
theorem cast_sub1 (b : Int) : ((b - 1 : Int) : Rat) = (b : Rat) - 1 := by
  rw [Rat.intCast_sub]; rfl
/-- the tail is what the next figure at its greatest and its tail are -/
theorem Rw.tail_nx (h : 2 ≤ b) : r.tail b = (r.m : Rat) * r.nx b + (r.m : Rat) / ((b - 1 : Int) : Rat) * r.nx b := by
  unfold Rw.tail
  rw [Rw.pw_nx (by omega), cast_sub1]
  have hb : (b : Rat) - 1 ≠ 0 := by
    have := ratpos (b := b - 1) (by omega)
    rw [cast_sub1] at this
    grind
  generalize r.nx b = u
  generalize (r.m : Rat) = m
  generalize (b : Rat) = c at *
  grind
theorem Rw.Ok.snoc (h : r.Ok b) (hl : r.fs.length ≤ 79) {f : Int} (hf : f.natAbs ≤ 1000) : (r.snoc f).Ok b :=
  ⟨h.b0, h.b1, h.e0, h.e1, h.m0, h.m1, by show (r.fs ++ [f]).length ≤ 80; simp; omega, fun z hz => by
    rcases List.mem_append.mp hz with hz | hz
    · exact h.f z hz
    · simp only [List.mem_singleton] at hz
      subst hz; exact hf⟩
/-- the ends of the next figure f's span -/
theorem Rw.snoc_lo (h : 2 ≤ b) (f : Int) : (r.snoc f).lo b = r.worth b + (f : Rat) * r.nx b - (r.m : Rat) / ((b - 1 : Int) : Rat) * r.nx b := by
  unfold Rw.lo; rw [Rw.snoc_worth (by omega), Rw.snoc_tail]
theorem Rw.snoc_hi (h : 2 ≤ b) (f : Int) : (r.snoc f).hi b = r.worth b + (f : Rat) * r.nx b + (r.m : Rat) / ((b - 1 : Int) : Rat) * r.nx b := by
  unfold Rw.hi; rw [Rw.snoc_worth (by omega), Rw.snoc_tail]
end
/-! ### items and lengths of what is known, one rule each -/
theorem g_ix_tup {ds : List D} {i : Int} {S : Store} {P : D → Store → Prop} : dIx (.tup ds) (.int i) S P = (match atI ds i with | some d => P d S | none => False) := rfl
theorem g_ix_lst {ds : List D} {i : Int} {S : Store} {P : D → Store → Prop} : dIx (.lst ds) (.int i) S P = (match atI ds i with | some d => P d S | none => False) := rfl
theorem g_ix_ext {ds : List D} {i : Int} {S : Store} {P : D → Store → Prop} : dIx (.ext ds) (.int i) S P = (match atI ds i with | some d => P d S | none => False) := rfl
theorem g_ln_tup {ds : List D} {S : Store} {P : D → Store → Prop} : cLen [.tup ds] S P = P (.int ds.length) S := rfl
theorem g_ln_lst {ds : List D} {S : Store} {P : D → Store → Prop} : cLen [.lst ds] S P = P (.int ds.length) S := rfl
theorem g_ln_ext {ds : List D} {S : Store} {P : D → Store → Prop} : cLen [.ext ds] S P = P (.int ds.length) S := rfl
theorem g_nn_non {S : Store} {P : D → Store → Prop} : dNotN .non .non S P = P (.bl false) S := rfl
theorem g_nn_int {i : Int} {S : Store} {P : D → Store → Prop} : dNotN (.int i) .non S P = P (.bl true) S := rfl
theorem g_nn_tup {ds : List D} {S : Store} {P : D → Store → Prop} : dNotN (.tup ds) .non S P = P (.bl true) S := rfl
theorem g_in_non {S : Store} {P : D → Store → Prop} : dIsN .non .non S P = P (.bl true) S := rfl
theorem g_in_int {i : Int} {S : Store} {P : D → Store → Prop} : dIsN (.int i) .non S P = P (.bl false) S := rfl
theorem g_in_tup {ds : List D} {S : Store} {P : D → Store → Prop} : dIsN (.tup ds) .non S P = P (.bl false) S := rfl
theorem g_ix_row0 {r : Rw} {S : Store} {P : D → Store → Prop} : dIx r.d (.int 0) S P = P (.int r.e) S := rfl
theorem g_ix_row1 {r : Rw} {S : Store} {P : D → Store → Prop} : dIx r.d (.int 1) S P = P (.int r.m) S := rfl
theorem g_ix_row2 {r : Rw} {S : Store} {P : D → Store → Prop} : dIx r.d (.int 2) S P = P (.tup (r.fs.map .int)) S := rfl
theorem g_ix_span0 {b : Int} {r : Rw} {S : Store} {P : D → Store → Prop} : dIx (spanD b r) (.int 0) S P = P (encR (r.lo b)) S := rfl
theorem g_ix_span1 {b : Int} {r : Rw} {S : Store} {P : D → Store → Prop} : dIx (spanD b r) (.int 1) S P = P (encR (r.hi b)) S := rfl
theorem g_nn_span {b : Int} {r : Rw} {S : Store} {P : D → Store → Prop} : dNotN (spanD b r) .non S P = P (.bl true) S := rfl
theorem g_nn_encR {q : Rat} {S : Store} {P : D → Store → Prop} : dNotN (encR q) .non S P = P (.bl true) S := rfl
theorem g_in_span {b : Int} {r : Rw} {S : Store} {P : D → Store → Prop} : dIsN (spanD b r) .non S P = P (.bl false) S := rfl
theorem g_put_row {ts : List Tgt} {r : Rw} {ρ : DSt} : Tgt.put (.tp ts) r.d ρ = Tgt.putL ts [.int r.e, .int r.m, .tup (r.fs.map .int)] ρ := by unfold Rw.d; exact put_tp
theorem g_put_span {ts : List Tgt} {b : Int} {r : Rw} {ρ : DSt} : Tgt.put (.tp ts) (spanD b r) ρ = Tgt.putL ts [encR (r.lo b), encR (r.hi b)] ρ := by unfold spanD; exact put_tp
local macro_rules | `(tactic| walk_at "dg2") => `(tactic| try simp only [dSeq, dSet, dPar, dOp, dUn, dVar, dC, dCB, dCons, dNil, dTup, dLst, dLstM, dIfS, dIf, dTest, dNot, dAnd, dOr, dAndV, dOrV, dNotV, dRet, dRetN, dEnd, dNext, dAdd, dSub, dMul, dFdiv, dMod, dPow, dNeg, dLt, dLe, dGt, dGe, dEq, dNe, eqB_ii, eqB_bb, eqB_ss, eqB_nn, eqB_ni, eqB_in, eqB_ns, eqB_sn, eqB_is, eqB_si, eqB_nb, eqB_bn, dIn, g_ix_tup, g_ix_lst, g_ix_ext, g_ln_tup, g_ln_lst, g_ln_ext, g_nn_non, g_nn_int, g_nn_tup, g_in_non, g_in_int, g_in_tup, g_ix_row0, g_ix_row1, g_ix_row2, g_ix_span0, g_ix_span1, g_nn_span, g_nn_encR, g_in_span, cAbs, cMax2, cMin2, cInt, cList, cTuple, dIsB, dNotB, dPar3, ForN, LcN, pinOf, pin2, dEnum2, dAppend, supd_same0, isi_non_int, isi_non_bool, isi_non_str, isi_non_list, isi_non_tuple, isi_non_lt, isi_bl_int, isi_bl_bool, isi_bl_str, isi_bl_list, isi_bl_tuple, isi_bl_lt, isi_int_int, isi_int_bool, isi_int_str, isi_int_list, isi_int_tuple, isi_int_lt, isi_str_int, isi_str_bool, isi_str_str, isi_str_list, isi_str_tuple, isi_str_lt, isi_lst_int, isi_lst_bool, isi_lst_str, isi_lst_list, isi_lst_tuple, isi_lst_lt, isi_tup_int, isi_tup_bool, isi_tup_str, isi_tup_list, isi_tup_tuple, isi_tup_lt, dAug, dIAdd, dIMul, dDrop, dSl, dPart, dNoPart, dRevL, dCallK, dChainR, dAsg, put_nm, put_tp, put_tl, g_put_row, g_put_span, putL_nil, putL_cons, Option.bind, seqOf, lstOf, dFor, dLc, dLcM, dItSeq, dZip, dZipS, dEnum, dRng1, dRng2, dYes, dwipe, Tgt.slots, Tgt.slotsL,
  atI_0, atI_1, atI_2, atI_3, List.getElem?_cons_zero, List.getElem?_cons_succ, List.set_cons_zero, List.set_cons_succ, decide_eq_true_eq, List.length_cons, List.length_nil, List.cons_append, List.nil_append, List.append_nil, ofString_inj, String.reduceEq, decide_true, decide_false, reduceIte, Bool.false_eq_true, Bool.not_true, Bool.not_false, eqFlat, isFlat, List.any_cons, List.any_nil, List.all_cons, List.all_nil, Bool.or_false, Bool.or_true, Bool.false_or, Bool.true_or, Bool.and_true, Bool.true_and, true_and, and_true, Nat.reduceAdd, Nat.reduceLeDiff, Int.reduceLT, Int.reduceLE, Int.reduceNeg])
/-! ### standing for a number, order, being told apart -/
def Rw.Has (b : Int) (r : Rw) (q : Rat) : Prop := r.lo b ≤ q ∧ q ≤ r.hi b
instance (b : Int) (r : Rw) (q : Rat) : Decidable (r.Has b q) := inferInstanceAs (Decidable (_ ∧ _))
/-- their spans touch -/
def Meet (b : Int) (r s : Rw) : Prop := r.lo b ≤ s.hi b ∧ s.lo b ≤ r.hi b
/-! ### == of plain data without texts -/
inductive Pi : Nat → D → Prop
  | non {n} : Pi n .non
  | bl {n b} : Pi n (.bl b)
  | int {n i} : Pi n (.int i)
  | lst {n ds} (h : ∀ y, y ∈ ds → Pi n y) : Pi (n + 1) (.lst ds)
  | tup {n ds} (h : ∀ y, y ∈ ds → Pi n y) : Pi (n + 1) (.tup ds)
theorem Pi.mono {n : Nat} {x : D} (h : Pi n x) : ∀ {m : Nat}, n ≤ m → Pi m x := by
  induction h with
  | non => intro m _; exact .non
  | bl => intro m _; exact .bl
  | int => intro m _; exact .int
  | lst h ih => intro m hm; cases m with
    | zero => omega
    | succ m => exact .lst fun y hy => ih y hy (by omega)
  | tup h ih => intro m hm; cases m with
    | zero => omega
    | succ m => exact .tup fun y hy => ih y hy (by omega)
/-- its Python data -/
structure PyI (n : Nat) (x : D) (p : PyData) : Prop where
  e : x.py = some p
  l : p.canLay0 = true
  d : p.depth ≤ n
  r : PyData.eqv p p = true
theorem py_all {n : Nat} : ∀ {ds : List D}, (∀ y, y ∈ ds → ∃ p, PyI n y p) → ∃ ps, D.pyL ds = some ps ∧ PyData.canLayAll0 ps = true ∧ PyData.depthAll ps ≤ n ∧ PyData.eqvAll ps ps = true ∧ ps.length = ds.length
  | [], _ => ⟨[], by simp [D.pyL], by simp [PyData.canLayAll0], by simp [PyData.depthAll], by simp [PyData.eqvAll], rfl⟩
  | y :: ds, h => by
    obtain ⟨p, h1⟩ := h y (by simp)
    obtain ⟨ps, e1, e2, e3, e4, e5⟩ := py_all (ds := ds) (fun z hz => h z (by simp [hz]))
    refine ⟨p :: ps, by simp [D.pyL, h1.e, e1], by simp [PyData.canLayAll0, h1.l, e2], ?_, by simp [PyData.eqvAll, h1.r, e4], by simp [e5]⟩
    have := h1.d
    simp only [PyData.depthAll]
    omega
theorem Pi.py {n : Nat} {x : D} (h : Pi n x) : ∃ p, PyI n x p := by
  induction h with
  | non => exact ⟨.none, by simp [D.py], by simp [PyData.canLay0], by simp [PyData.depth], by simp [PyData.eqv]⟩
  | @bl n b => exact ⟨.bool b, by simp [D.py], by simp [PyData.canLay0], by simp [PyData.depth], by simp [PyData.eqv]⟩
  | @int n i => exact ⟨.int i, by simp [D.py], by simp [PyData.canLay0], by simp [PyData.depth], by simp [PyData.eqv]⟩
  | lst h ih =>
    obtain ⟨ps, e1, e2, e3, e4, e5⟩ := py_all ih
    exact ⟨.list ps, by simp [D.py, e1], by simp [PyData.canLay0, e2], by simp only [PyData.depth]; omega, by simp [PyData.eqv, e4]⟩
  | tup h ih =>
    obtain ⟨ps, e1, e2, e3, e4, e5⟩ := py_all ih
    exact ⟨.tuple ps, by simp [D.py, e1], by simp [PyData.canLay0, e2], by simp only [PyData.depth]; omega, by simp [PyData.eqv, e4]⟩
theorem PyI.shaped {n : Nat} {x : D} {p : PyData} (h : PyI n x p) (hn : n ≤ 64) : SeqAt.shaped p = true := by
  unfold SeqAt.shaped
  rw [h.l]
  have := h.d
  simp; omega
/-! ### some next figure is right -/
section
variable {b : Int} {r : Rw}
end
/-! ### beginnings lie in one another -/
theorem snoc_in' {b : Int} {r : Rw} (b0 : 2 ≤ b) {f : Int} (h1 : -r.m ≤ f) (h2 : f ≤ r.m) : r.lo b ≤ (r.snoc f).lo b ∧ (r.snoc f).hi b ≤ r.hi b := by
  have up : 0 < r.nx b := Rat.zpow_pos (ratpos (by omega))
  have a1 : (0 : Rat) ≤ ((f + r.m : Int) : Rat) := by
    have : ((0 : Int) : Rat) ≤ ((f + r.m : Int) : Rat) := Rat.intCast_le_intCast.mpr (by omega)
    exact this
  have a2 : (0 : Rat) ≤ ((r.m - f : Int) : Rat) := by
    have : ((0 : Int) : Rat) ≤ ((r.m - f : Int) : Rat) := Rat.intCast_le_intCast.mpr (by omega)
    exact this
  rw [Rat.intCast_add] at a1
  rw [Rat.intCast_sub] at a2
  have p1 := Rat.mul_nonneg a1 (Rat.le_of_lt up)
  have p2 := Rat.mul_nonneg a2 (Rat.le_of_lt up)
  rw [Rw.snoc_lo b0, Rw.snoc_hi b0]
  unfold Rw.lo Rw.hi
  rw [Rw.tail_nx b0]
  generalize (r.m : Rat) / ((b - 1 : Int) : Rat) * r.nx b = q
  generalize r.nx b = u at *
  generalize (r.m : Rat) = m at *
  generalize (f : Rat) = g at *
  generalize r.worth b = w
  constructor <;> grind
theorem Meet.symm {b : Int} {r s : Rw} (h : Meet b r s) : Meet b s r := ⟨h.2, h.1⟩
/-- what stood stands -/
def Kept (S S' : Store) : Prop := ∀ q m, S q = some m → S' q = some m
theorem Kept.refl (S : Store) : Kept S S := fun _ _ h => h
theorem Kept.trans {S S1 S2 : Store} (h : Kept S S1) (h2 : Kept S1 S2) : Kept S S2 := fun q m e => h2 q m (h q m e)
theorem BoxAt.kept {S S' : Store} {p : Addr} {n : Nat} (h : BoxAt S p n) (k : Kept S S') : BoxAt S' p n := by
  obtain ⟨a, s, t, e, h⟩ := h
  exact ⟨a, s, t, k _ _ e, h⟩
theorem lo_le_hi {b : Int} {r : Rw} (hr : r.Ok b) : r.lo b ≤ r.hi b := by
  have h1 : 0 ≤ r.tail b := by
    unfold Rw.tail
    refine Rat.mul_nonneg ?_ (Rat.le_of_lt hr.pwp)
    rw [Rat.div_def]
    exact Rat.mul_nonneg (by exact_mod_cast hr.m0) (Rat.le_of_lt (Rat.inv_pos.mpr hr.cp))
  unfold Rw.lo Rw.hi
  grind
/-! ### kinds -/
inductive Kn where
  | sum (ws : List Int) (v : Int) | loose (ws : List Int) | moved (e : Int) | told (q : Rat) | times | over (k : Int) | least | most | choose
def Kn.d : Kn → D
  | .sum ws v => .tup [.str "sum", .tup (ws.map .int), .int v]
  | .loose ws => .tup [.str "loose", .tup (ws.map .int)]
  | .moved e => .tup [.str "moved", .int e]
  | .told q => .tup [.str "told", encR q]
  | .times => .tup [.str "times"]
  | .over k => .tup [.str "over", .int k]
  | .least => .tup [.str "least"]
  | .most => .tup [.str "most"]
  | .choose => .tup [.str "choose"]
def Kn.many : Kn → Nat
  | .sum ws _ => ws.length
  | .loose ws => ws.length
  | .moved _ => 1
  | .told _ => 0
  | .choose => 3
  | _ => 2
def Kn.Ok : Kn → Prop
  | .sum ws v => ws.length ≤ 4 ∧ (∀ w, w ∈ ws → w.natAbs ≤ 100) ∧ 1 ≤ v ∧ v ≤ 1000
  | .loose ws => ws.length ≤ 4 ∧ ∀ w, w ∈ ws → w.natAbs ≤ 100
  | .moved e => e.natAbs ≤ 30
  | .told q => Sz 100 q
  | .over k => k.natAbs ≤ 20
  | _ => True
def wsum : List Int → List Rat → Rat
  | w :: ws, x :: xs => (w : Rat) * x + wsum ws xs
  | _, _ => 0
/-- what comes of numbers -/
def Kn.app (b : Int) : Kn → List Rat → Rat
  | .sum ws v, xs => wsum ws xs / ((v : Int) : Rat)
  | .loose ws, xs => wsum ws xs
  | .moved e, x :: _ => x * (b : Rat) ^ e
  | .told q, _ => q
  | .times, [x, y] => x * y
  | .over k, [x, y] => x / max y ((b : Rat) ^ (-k))
  | .least, [x, y] => min x y
  | .most, [x, y] => max x y
  | .choose, [x, y, z] => if x < 0 then z else y
  | _, _ => 0
/-- corners: which end of each -/
def cor : Nat → List (List Int)
  | 0 => [[]]
  | n + 1 => (cor n).flatMap fun o => [o ++ [0], o ++ [1]]
def spD (s : Rat × Rat) : D := .tup [encR s.1, encR s.2]
def pickAt (ss : List (Rat × Rat)) (o : List Int) : List Rat := (ss.zip o).map fun p => if p.2 = 0 then p.1.1 else p.1.2
def Kn.vals (b : Int) (kn : Kn) (ss : List (Rat × Rat)) : List Rat := (cor ss.length).map fun o => kn.app b (pickAt ss o)
def minL : List Rat → Rat
  | [] => 0
  | x :: xs => xs.foldl min x
def maxL : List Rat → Rat
  | [] => 0
  | x :: xs => xs.foldl max x
/-! ### promises -/
def NumsD (y : D) (xs : List Rat) : Prop := y = .lst (xs.map encR) ∨ y = .tup (xs.map encR)
def spanQ (b : Int) (r : Rw) : Rat × Rat := (r.lo b, r.hi b)
theorem NumsD.seq {y : D} {xs : List Rat} (h : NumsD y xs) (S : Store) : seqOf S y = some (xs.map encR) := by
  rcases h with rfl | rfl <;> rfl
theorem NumsD.pin {y : D} {xs : List Rat} (h : NumsD y xs) (S : Store) : pinOf S y = none := by
  rcases h with rfl | rfl <;> rfl
theorem g_ix_enc0 {q : Rat} {S : Store} {P : D → Store → Prop} : dIx (encR q) (.int 0) S P = P (.int q.num) S := rfl
theorem g_ix_enc1 {q : Rat} {S : Store} {P : D → Store → Prop} : dIx (encR q) (.int 1) S P = P (.int (q.den : Int)) S := rfl
theorem g_ix_sp0 {q : Rat × Rat} {S : Store} {P : D → Store → Prop} : dIx (spD q) (.int 0) S P = P (encR q.1) S := rfl
theorem g_ix_sp1 {q : Rat × Rat} {S : Store} {P : D → Store → Prop} : dIx (spD q) (.int 1) S P = P (encR q.2) S := rfl
theorem lc_mapP {α : Type} {t : Tgt} {de : DE} {P : D → Store → Prop} {p : Store → Prop} {xs : List α} {ρ : DSt} {S : Store} (f g : α → D) (hl : xs.length ≤ 100000) (hp : p S)
    (h : ∀ a, a ∈ xs → ∃ ρ', t.put (f a) (dwipe ρ t.slots) = some ρ' ∧ ∀ Q : D → Store → Prop, Q (g a) S → de ρ' S Q) (q : P (.lst (xs.map g)) S) : LcP t dYes de P (xs.map f) p ρ S := by
  refine ⟨by simpa using hl, fun i acc S' => acc = (xs.take i).map g ∧ S' = S, ⟨rfl, rfl⟩, fun i acc S' h => by rw [h.2]; exact hp, ?_, ?_⟩
  · rintro i d acc S' hd ⟨rfl, rfl⟩
    rw [List.getElem?_map] at hd
    cases e : xs[i]? with
    | none => rw [e] at hd; cases hd
    | some a =>
      rw [e] at hd
      cases hd
      obtain ⟨ρ', h1, h2⟩ := h a (List.mem_of_getElem? e)
      refine ⟨ρ', h1, ?_⟩
      simp only [dYes, reduceIte]
      refine h2 _ ⟨?_, rfl⟩
      rw [List.take_add_one, e]
      simp
  · rintro acc S' ⟨rfl, rfl⟩
    rw [List.length_map, List.take_length]
    exact q
/-- an end of each -/
def Ch : List (Rat × Rat) → List Rat → Prop
  | [], [] => True
  | s :: ss, x :: xs => (x = s.1 ∨ x = s.2) ∧ Ch ss xs
  | _, _ => False
/-- a number of each -/
def Ins : List (Rat × Rat) → List Rat → Prop
  | [], [] => True
  | s :: ss, x :: xs => (s.1 ≤ x ∧ x ≤ s.2) ∧ Ins ss xs
  | _, _ => False
theorem Ch.len : ∀ {ss : List (Rat × Rat)} {xs : List Rat}, Ch ss xs → xs.length = ss.length
  | [], [], _ => rfl
  | [], _ :: _, h => h.elim
  | _ :: _, [], h => h.elim
  | s :: ss, x :: xs, ⟨_, h⟩ => by simp [h.len]
/-! ### isinstance of dict, of (bool, str) -/
theorem isi_non_dict {S : Store} {P : D → Store → Prop} : cIsi [.non, .ty "dict"] S P = P (.bl false) S := propext ⟨fun h => h.2, fun h => ⟨by decide, h⟩⟩
theorem isi_bl_dict {k : Bool} {S : Store} {P : D → Store → Prop} : cIsi [(.bl k), .ty "dict"] S P = P (.bl false) S := propext ⟨fun h => h.2, fun h => ⟨by decide, h⟩⟩
theorem isi_int_dict {k : Int} {S : Store} {P : D → Store → Prop} : cIsi [(.int k), .ty "dict"] S P = P (.bl false) S := propext ⟨fun h => h.2, fun h => ⟨by decide, h⟩⟩
theorem isi_str_dict {k : Str} {S : Store} {P : D → Store → Prop} : cIsi [(.str k), .ty "dict"] S P = P (.bl false) S := propext ⟨fun h => h.2, fun h => ⟨by decide, h⟩⟩
theorem isi_lst_dict {k : List D} {S : Store} {P : D → Store → Prop} : cIsi [(.lst k), .ty "dict"] S P = P (.bl false) S := propext ⟨fun h => h.2, fun h => ⟨by decide, h⟩⟩
theorem isi_tup_dict {k : List D} {S : Store} {P : D → Store → Prop} : cIsi [(.tup k), .ty "dict"] S P = P (.bl false) S := propext ⟨fun h => h.2, fun h => ⟨by decide, h⟩⟩
theorem isi_non_bs {S : Store} {P : D → Store → Prop} : cIsi [.non, .tup [.ty "bool", .ty "str"]] S P = P (.bl false) S := rfl
theorem isi_bl_bs {k : Bool} {S : Store} {P : D → Store → Prop} : cIsi [(.bl k), .tup [.ty "bool", .ty "str"]] S P = P (.bl true) S := rfl
theorem isi_int_bs {k : Int} {S : Store} {P : D → Store → Prop} : cIsi [(.int k), .tup [.ty "bool", .ty "str"]] S P = P (.bl false) S := rfl
theorem isi_str_bs {k : Str} {S : Store} {P : D → Store → Prop} : cIsi [(.str k), .tup [.ty "bool", .ty "str"]] S P = P (.bl true) S := rfl
theorem isi_lst_bs {k : List D} {S : Store} {P : D → Store → Prop} : cIsi [(.lst k), .tup [.ty "bool", .ty "str"]] S P = P (.bl false) S := rfl
theorem isi_tup_bs {k : List D} {S : Store} {P : D → Store → Prop} : cIsi [(.tup k), .tup [.ty "bool", .ty "str"]] S P = P (.bl false) S := rfl
theorem g_put_sp {ts : List Tgt} {s : Rat × Rat} {ρ : DSt} : Tgt.put (.tp ts) (spD s) ρ = Tgt.putL ts [encR s.1, encR s.2] ρ := by unfold spD; exact put_tp
local macro_rules | `(tactic| walk_at "dg3") => `(tactic| try simp only [dDispGet, dictAt, isi_non_dict, isi_bl_dict, isi_int_dict, isi_str_dict, isi_lst_dict, isi_tup_dict, isi_non_bs, isi_bl_bs, isi_int_bs, isi_str_bs, isi_lst_bs, isi_tup_bs, g_ix_enc0, g_ix_enc1, g_ix_sp0, g_ix_sp1, g_put_sp, Int.reduceEq, dSeq, dSet, dPar, dOp, dUn, dVar, dC, dCB, dCons, dNil, dTup, dLst, dLstM, dIfS, dIf, dTest, dNot, dAnd, dOr, dAndV, dOrV, dNotV, dRet, dRetN, dEnd, dNext, dAdd, dSub, dMul, dFdiv, dMod, dPow, dNeg, dLt, dLe, dGt, dGe, dEq, dNe, eqB_ii, eqB_bb, eqB_ss, eqB_nn, eqB_ni, eqB_in, eqB_ns, eqB_sn, eqB_is, eqB_si, eqB_nb, eqB_bn, dIn, g_ix_tup, g_ix_lst, g_ix_ext, g_ln_tup, g_ln_lst, g_ln_ext, g_nn_non, g_nn_int, g_nn_tup, g_in_non, g_in_int, g_in_tup, g_ix_row0, g_ix_row1, g_ix_row2, g_ix_span0, g_ix_span1, g_nn_span, g_nn_encR, g_in_span, cAbs, cMax2, cMin2, cInt, cList, cTuple, dIsB, dNotB, dPar3, ForN, LcN, pinOf, pin2, dEnum2, dAppend, supd_same0, isi_non_int, isi_non_bool, isi_non_str, isi_non_list, isi_non_tuple, isi_non_lt, isi_bl_int, isi_bl_bool, isi_bl_str, isi_bl_list, isi_bl_tuple, isi_bl_lt, isi_int_int, isi_int_bool, isi_int_str, isi_int_list, isi_int_tuple, isi_int_lt, isi_str_int, isi_str_bool, isi_str_str, isi_str_list, isi_str_tuple, isi_str_lt, isi_lst_int, isi_lst_bool, isi_lst_str, isi_lst_list, isi_lst_tuple, isi_lst_lt, isi_tup_int, isi_tup_bool, isi_tup_str, isi_tup_list, isi_tup_tuple, isi_tup_lt, dAug, dIAdd, dIMul, dDrop, dSl, dPart, dNoPart, dRevL, dCallK, dChainR, dAsg, put_nm, put_tp, put_tl, g_put_row, g_put_span, putL_nil, putL_cons, Option.bind, seqOf, lstOf, dFor, dLc, dLcM, dItSeq, dZip, dZipS, dEnum, dRng1, dRng2, dYes, dwipe, Tgt.slots, Tgt.slotsL,
  atI_0, atI_1, atI_2, atI_3, List.getElem?_cons_zero, List.getElem?_cons_succ, List.set_cons_zero, List.set_cons_succ, decide_eq_true_eq, List.length_cons, List.length_nil, List.cons_append, List.nil_append, List.append_nil, ofString_inj, String.reduceEq, decide_true, decide_false, reduceIte, Bool.false_eq_true, Bool.not_true, Bool.not_false, eqFlat, isFlat, List.any_cons, List.any_nil, List.all_cons, List.all_nil, Bool.or_false, Bool.or_true, Bool.false_or, Bool.true_or, Bool.and_true, Bool.true_and, true_and, and_true, Nat.reduceAdd, Nat.reduceLeDiff, Int.reduceLT, Int.reduceLE, Int.reduceNeg])
theorem all_sameP {t : Tgt} {de : DE} {P : D → Store → Prop} {p : Store → Prop} {ds : List D} {f : D → D} {ρ : DSt} {S : Store} (hl : ds.length ≤ 100000) (hp : p S)
    (h : ∀ d, d ∈ ds → ∃ ρ', t.put (f d) (dwipe ρ t.slots) = some ρ' ∧ ∀ Q : D → Store → Prop, Q (.bl true) S → de ρ' S Q) (q : P (.bl true) S) : LcP t dYes de (fun x S1 => cAll [x] S1 P) (ds.map f) p ρ S := by
  refine lc_mapP f (fun _ => .bl true) hl hp h ?_
  unfold cAll
  simp only [lstOf, Option.bind]
  have e : (ds.map fun _ => D.bl true) = (ds.map fun _ => true).map D.bl := by rw [List.map_map]; rfl
  rw [e, dBools_map]
  have e2 : (ds.map fun _ => true).all id = true := by simp
  simp only [e2]
  exact q
/-! ### draws, what stood stands -/
/-- drawn, what stood stands, something new beside -/
def Dk (S S' : Store) (p : Addr) (n : Nat) : Prop := BoxAt S' p n ∧ ∀ q m, q ≠ p → S q = some m → S' q = some m
theorem Drew.dk {S S' : Store} {p : Addr} {n : Nat} (h : Drew S S' p n) : Dk S S' p n := ⟨h.box, fun q m hq e => by rw [h.other hq]; exact e⟩
theorem Dk.trans {S S1 S2 : Store} {p : Addr} {n m : Nat} (h : Dk S S1 p n) (h2 : Dk S1 S2 p m) : Dk S S2 p m := ⟨h2.1, fun q x hq e => h2.2 q x hq (h.2 q x hq e)⟩
theorem Dk.mono {S S' : Store} {p : Addr} {n m : Nat} (h : Dk S S' p n) (hm : n ≤ m) : Dk S S' p m := ⟨h.1.mono hm, h.2⟩
theorem Dk.refl {S : Store} {p : Addr} {n : Nat} (h : BoxAt S p n) : Dk S S p n := ⟨h, fun _ _ _ e => e⟩
theorem Dk.new {S S1 : Store} {p q : Addr} {n : Nat} {m : MO} (h : Dk S S1 p n) (hq : S1 q = none) : Dk S (supd S1 q m) p n :=
  ⟨h.1.other (h.1.ne hq), fun r x hr e => by
    have := h.2 r x hr e
    rw [supd_ne fun z => by rw [z, hq] at this; cases this]
    exact this⟩
theorem Dk.put {S S1 : Store} {p q : Addr} {n : Nat} {m : MO} (h : Dk S S1 p n) (hp : p ≠ q) (hq : S q = none) : Dk S (supd S1 q m) p n :=
  ⟨h.1.other hp, fun r x hr e => by
    rw [supd_ne fun z => by rw [z, hq] at e; cases e]
    exact h.2 r x hr e⟩
theorem takeK {p : Addr} {n : Nat} {size : Int} {S0 S : Store} {P : D → Store → Prop} (hb : Dk S0 S p n) (h0 : 0 < size) (h1 : size ≤ 2 ^ 40) (hn : n ≤ 1000000000) (h : ∀ x S', 0 ≤ x → x < size → Dk S0 S' p (n + 1) → P (.int x) S') : sp_Ltake [.obj p, .int size] S P :=
  ⟨p, size, n, rfl, h0, h1, hb.1, hn, fun x S' a b d => h x S' a b (hb.trans d.dk)⟩
/-! ### bases, mosts, figures, rows -/
structure Small (b k : Int) (r : Rw) : Prop where
  e0 : -2 ≤ r.e
  e1 : r.e ≤ 3
  m0 : b ≤ 2 * r.m
  m1 : r.m ≤ 15
  l : (r.fs.length : Int) ≤ k
  f : ∀ f, f ∈ r.fs → -r.m ≤ f ∧ f ≤ r.m
theorem Small.ok {b k : Int} {r : Rw} (h : Small b k r) (b0 : 2 ≤ b) (b1 : b ≤ 16) (hk : k ≤ 60) : r.Ok b :=
  ⟨b0, b1, by have := h.e0; omega, by have := h.e1; omega, by have := h.m0; omega, by have := h.m1; omega, by have := h.l; omega, fun f hf => by have := h.f f hf; have := h.m1; omega⟩
/-! ### kinds by draws -/
def Kn.Dr : Kn → Prop
  | .sum ws v => 1 ≤ ws.length ∧ ws.length ≤ 3 ∧ (∀ w, w ∈ ws → w ≠ 0 ∧ w.natAbs ≤ 9) ∧ 1 ≤ v ∧ v ≤ 1000
  | .loose ws => 1 ≤ ws.length ∧ ws.length ≤ 3 ∧ ∀ w, w ∈ ws → w ≠ 0 ∧ w.natAbs ≤ 1
  | .moved e => e.natAbs ≤ 4
  | .told q => Sz 10 q
  | .over k => 0 ≤ k ∧ k ≤ 3
  | _ => True
theorem Kn.Dr.ok {kn : Kn} (h : kn.Dr) : kn.Ok := by
  cases kn with
  | sum ws v => exact ⟨by have := h.2.1; omega, fun w hw => by have := (h.2.2.1 w hw).2; omega, h.2.2.2.1, h.2.2.2.2⟩
  | loose ws => exact ⟨by have := h.2.1; omega, fun w hw => by have := (h.2.2 w hw).2; omega⟩
  | moved e => exact Nat.le_trans h (by decide)
  | told q => exact Sz.mono (show Sz 10 q from h) (by decide)
  | over k =>
    have h1 : 0 ≤ k ∧ k ≤ 3 := h
    show k.natAbs ≤ 20
    omega
  | _ => trivial
theorem Kn.Dr.many {kn : Kn} (h : kn.Dr) : kn.many ≤ 3 := by
  cases kn with
  | sum ws v => exact h.2.1
  | loose ws => exact h.2.1
  | _ => simp [Kn.many]
/-! ### rows with figures behind -/
def Rw.app (r : Rw) (gs : List Int) : Rw := ⟨r.e, r.m, r.fs ++ gs⟩
theorem Rw.app_nil (r : Rw) : r.app [] = r := by unfold Rw.app; simp
theorem Rw.app_cons (r : Rw) (g : Int) (gs : List Int) : r.app (g :: gs) = (r.snoc g).app gs := by unfold Rw.app Rw.snoc; simp
theorem app_in {b : Int} (b0 : 2 ≤ b) : ∀ (gs : List Int) (r : Rw), (∀ g, g ∈ gs → -r.m ≤ g ∧ g ≤ r.m) → r.lo b ≤ (r.app gs).lo b ∧ (r.app gs).hi b ≤ r.hi b
  | [], r, _ => by rw [Rw.app_nil]; exact ⟨Rat.le_refl, Rat.le_refl⟩
  | g :: gs, r, h => by
    rw [Rw.app_cons]
    have h1 := snoc_in' (r := r) b0 (h g (by simp)).1 (h g (by simp)).2
    have h2 := app_in b0 gs (r.snoc g) fun z hz => h z (by simp [hz])
    exact ⟨Rat.le_trans h1.1 h2.1, Rat.le_trans h2.2 h1.2⟩
theorem Small.app {b k : Int} {r : Rw} {gs : List Int} (h : Small b k r) (hg : ∀ g, g ∈ gs → -r.m ≤ g ∧ g ≤ r.m) {j : Int} (hj : (gs.length : Int) ≤ j) : Small b (k + j) (r.app gs) :=
  ⟨h.e0, h.e1, h.m0, h.m1, by have := h.l; show ((r.fs ++ gs).length : Int) ≤ _; rw [List.length_append]; omega, fun f hf => by
    rcases List.mem_append.mp hf with hf | hf
    · exact h.f f hf
    · exact hg f hf⟩
theorem Small.mono {b k j : Int} {r : Rw} (h : Small b k r) (hj : k ≤ j) : Small b j r := ⟨h.e0, h.e1, h.m0, h.m1, by have := h.l; omega, h.f⟩
/-! ### spans within spans -/
def Sub : List (Rat × Rat) → List (Rat × Rat) → Prop
  | [], [] => True
  | t :: ts, s :: ss => (s.1 ≤ t.1 ∧ t.2 ≤ s.2) ∧ Sub ts ss
  | _, _ => False
theorem Sub.refl : ∀ ss, Sub ss ss
  | [] => trivial
  | _ :: ss => ⟨⟨Rat.le_refl, Rat.le_refl⟩, Sub.refl ss⟩
theorem Sub.len : ∀ {ts ss}, Sub ts ss → ts.length = ss.length
  | [], [], _ => rfl
  | [], _ :: _, h => h.elim
  | _ :: _, [], h => h.elim
  | _ :: ts, _ :: ss, h => by have := Sub.len h.2; simp [this]
theorem Sub.ins : ∀ {ts ss xs}, Sub ts ss → Ins ts xs → Ins ss xs
  | [], [], [], _, _ => trivial
  | [], [], _ :: _, _, h => h.elim
  | [], _ :: _, _, h, _ => h.elim
  | _ :: _, [], _, h, _ => h.elim
  | _ :: _, _ :: _, [], _, h => h.elim
  | _ :: ts, _ :: ss, x :: xs, h, g => ⟨⟨Rat.le_trans h.1.1 g.1.1, Rat.le_trans g.1.2 h.1.2⟩, Sub.ins h.2 g.2⟩
def reachQ (b : Int) (kn : Kn) (ss : List (Rat × Rat)) : Rat × Rat := (minL (kn.vals b ss), maxL (kn.vals b ss))
theorem pk {s : Rat × Rat} {e : Int} : (if e = 0 then s.1 else s.2) = s.1 ∨ (if e = 0 then s.1 else s.2) = s.2 := by
  split
  · exact .inl rfl
  · exact .inr rfl
/-- rows, each with figures behind, by the ways of a corner -/
structure Beh (j : Int) (q : Int × Rw) (y : D) (gs : List Int) : Prop where
  e : y = (q.2.app gs).d
  l : gs.length = 5
  f : ∀ g, g ∈ gs → -q.2.m ≤ g ∧ g ≤ q.2.m
  lo : j / q.1 % 2 = 0 → ∀ g, g ∈ gs → g = -q.2.m
  hi : j / q.1 % 2 = 1 → ∀ g, g ∈ gs → g = q.2.m
theorem den_pos (q : Rat) : (0 : Int) < (q.den : Int) := by have := q.den_pos; omega
structure Own (b : Int) (r : Rw) : Prop where
  e0 : 0 ≤ r.e
  e1 : r.e ≤ 10
  m0 : b ≤ 2 * r.m
  m1 : r.m ≤ 15
  l : r.fs.length ≤ 11
  k : (r.fs.length : Int) - r.e ≤ 8
  f : ∀ f, f ∈ r.fs → -r.m ≤ f ∧ f ≤ r.m
theorem Own.ok {b : Int} {r : Rw} (h : Own b r) (b0 : 2 ≤ b) (b1 : b ≤ 10) : r.Ok b :=
  ⟨b0, by omega, by have := h.e0; omega, by have := h.e1; omega, by have := h.m0; omega, by have := h.m1; omega, by have := h.l; omega, fun f hf => by have := h.f f hf; have := h.m1; omega⟩
def Mg (q : Rat) : Prop := ((-268435456 : Int) : Rat) ≤ q ∧ q ≤ ((268435456 : Int) : Rat)
/-! ### what is drawn is not great -/
theorem zpow_le {b k : Int} (n : Nat) (b0 : 2 ≤ b) (b1 : b ≤ 10) (hk : k ≤ n) : (b : Rat) ^ k ≤ ((10 ^ n : Int) : Rat) := by
  have bp : (0 : Rat) < (b : Rat) := ratpos (by omega)
  obtain ⟨m, hm⟩ : ∃ m : Nat, (n : Int) - k = m := ⟨((n : Int) - k).toNat, by omega⟩
  have e : (b : Rat) ^ k * (b : Rat) ^ ((n : Int) - k) = (b : Rat) ^ (n : Int) := by
    rw [← Rat.zpow_add (by grind)]
    congr 1; omega
  have p1 : (1 : Rat) ≤ (b : Rat) ^ ((n : Int) - k) := by
    rw [hm, Rat.zpow_natCast, ← Rat.intCast_pow]
    have : (1 : Int) ≤ b ^ m := Int.pow_pos (by omega)
    exact_mod_cast this
  have p2 : (b : Rat) ^ (n : Int) ≤ ((10 ^ n : Int) : Rat) := by
    have e9 : (b : Rat) ^ (n : Int) = ((b ^ n : Int) : Rat) := by
      rw [Rat.intCast_pow]
      exact Rat.zpow_natCast (q := (b : Rat)) (n := n)
    rw [e9]
    have key : ∀ n : Nat, b ^ n ≤ 10 ^ n := fun n => by
      induction n with
      | zero => simp
      | succ n ih =>
        rw [Int.pow_succ, Int.pow_succ]
        exact Int.mul_le_mul ih b1 (by omega) (Int.le_of_lt (Int.pow_pos (by decide)))
    exact Rat.intCast_le_intCast.mpr (key n)
  have p0 := Rat.zpow_pos (n := k) bp
  have := Rat.mul_le_mul_of_nonneg_left p1 (Rat.le_of_lt p0)
  grind
def Bd (A q : Rat) : Prop := -A ≤ q ∧ q ≤ A
theorem Bd.mul {A B x y : Rat} (h1 : Bd A x) (h2 : Bd B y) : Bd (A * B) (x * y) := by
  have a1 := Rat.mul_nonneg (show 0 ≤ A - x by have := h1.2; grind) (show 0 ≤ B + y by have := h2.1; grind)
  have a2 := Rat.mul_nonneg (show 0 ≤ A + x by have := h1.1; grind) (show 0 ≤ B - y by have := h2.2; grind)
  have a3 := Rat.mul_nonneg (show 0 ≤ A - x by have := h1.2; grind) (show 0 ≤ B - y by have := h2.2; grind)
  have a4 := Rat.mul_nonneg (show 0 ≤ A + x by have := h1.1; grind) (show 0 ≤ B + y by have := h2.1; grind)
  exact ⟨by grind, by grind⟩
theorem Bd.mono {A B x : Rat} (h : Bd A x) (hB : A ≤ B) : Bd B x := ⟨by have := h.1; grind, by have := h.2; grind⟩
theorem Bd.mg {q : Rat} {A : Rat} (h : Bd A q) (hA : A ≤ ((268435456 : Int) : Rat)) : Mg q := by
  have e : ((-268435456 : Int) : Rat) = -((268435456 : Int) : Rat) := rfl
  unfold Mg
  rw [e]
  exact (h.mono hA)
theorem bd_frac {m b : Int} (h0 : 0 ≤ m) (h1 : m ≤ 15) (b0 : 2 ≤ b) : (0 : Rat) ≤ (m : Rat) / ((b - 1 : Int) : Rat) ∧ (m : Rat) / ((b - 1 : Int) : Rat) ≤ 15 := by
  have cp : (0 : Rat) < ((b - 1 : Int) : Rat) := ratpos (by omega)
  have c1 : ((1 : Int) : Rat) ≤ ((b - 1 : Int) : Rat) := Rat.intCast_le_intCast.mpr (by omega)
  have m0 : ((0 : Int) : Rat) ≤ (m : Rat) := Rat.intCast_le_intCast.mpr h0
  have m15 : (m : Rat) ≤ ((15 : Int) : Rat) := Rat.intCast_le_intCast.mpr h1
  have ip : (0 : Rat) < ((b - 1 : Int) : Rat)⁻¹ := Rat.inv_pos.mpr cp
  have e : (m : Rat) / ((b - 1 : Int) : Rat) * ((b - 1 : Int) : Rat) = (m : Rat) := by
    generalize ((b - 1 : Int) : Rat) = y at *
    rw [Rat.div_def, Rat.mul_assoc, Rat.inv_mul_cancel _ (by grind), Rat.mul_one]
  have c0 : (0 : Rat) ≤ (m : Rat) / ((b - 1 : Int) : Rat) := by
    rw [Rat.div_def]
    exact Rat.mul_nonneg m0 (Rat.le_of_lt ip)
  generalize (m : Rat) / ((b - 1 : Int) : Rat) = c at *
  have := Rat.mul_le_mul_of_nonneg_left c1 c0
  have o1 : ((1 : Int) : Rat) = 1 := rfl
  have o2 : ((15 : Int) : Rat) = 15 := rfl
  exact ⟨by grind, by grind⟩
theorem Small.bd {b k : Int} {r : Rw} (h : Small b k r) (b0 : 2 ≤ b) (b1 : b ≤ 10) (hk : k ≤ 60) : Bd ((15000 : Int) : Rat) (r.lo b) ∧ Bd ((15000 : Int) : Rat) (r.hi b) := by
  have ok := h.ok b0 (by omega) hk
  have hin := app_in b0 r.fs ⟨r.e, r.m, []⟩ h.f
  have er : (⟨r.e, r.m, []⟩ : Rw).app r.fs = r := by unfold Rw.app; simp
  rw [er] at hin
  have lh := lo_le_hi ok
  have m0 := h.m0
  have fr := bd_frac (m := r.m) (b := b) (by omega) h.m1 b0
  have pe := zpow_le (b := b) (k := r.e) 3 b0 b1 (by have := h.e1; omega)
  have pp := Rat.zpow_pos (n := r.e) (ratpos (show 0 < b by omega))
  have w0 : (⟨r.e, r.m, []⟩ : Rw).worth b = 0 := by
    unfold Rw.worth
    show ((0 : Int) : Rat) * _ = 0
    have : ((0 : Int) : Rat) = 0 := rfl
    rw [this, Rat.zero_mul]
  have t0 : (⟨r.e, r.m, []⟩ : Rw).tail b = (r.m : Rat) / ((b - 1 : Int) : Rat) * (b : Rat) ^ r.e := by
    unfold Rw.tail Rw.pw
    simp
  have e3 : ((10 ^ 3 : Int) : Rat) = 1000 := rfl
  have e15 : ((15000 : Int) : Rat) = 15000 := rfl
  unfold Rw.lo Rw.hi at hin lh ⊢
  rw [w0, t0] at hin
  have bm := Bd.mul (A := 15) (B := 1000) (x := (r.m : Rat) / ((b - 1 : Int) : Rat)) (y := (b : Rat) ^ r.e) ⟨by grind, fr.2⟩ ⟨by grind, by grind⟩
  generalize (r.m : Rat) / ((b - 1 : Int) : Rat) * (b : Rat) ^ r.e = z at *
  have b2 := bm.2
  rw [e15]
  exact ⟨⟨by grind, by grind⟩, ⟨by grind, by grind⟩⟩
/-! ### bare rows -/
def bareR (q : Int × Int) : Rw := ⟨q.1, q.2, []⟩
structure Bare (q : Int × Int) : Prop where
  e0 : -40 ≤ q.1
  e1 : q.1 ≤ 40
  m0 : 0 ≤ q.2
  m1 : q.2 ≤ 1000
theorem Bare.ok {b : Int} {q : Int × Int} (h : Bare q) (b0 : 2 ≤ b) (b1 : b ≤ 16) : (bareR q).Ok b :=
  ⟨b0, b1, h.e0, h.e1, h.m0, h.m1, by simp [bareR], by simp [bareR]⟩
/-- as far as a row of a begin and a most comes -/
def rim (b e m : Int) : Rat := (m : Rat) / ((b - 1 : Int) : Rat) * (b : Rat) ^ e
/-- the least begin by which a number is within -/
def IsLb (b m : Int) (need : Rat) (d : Int) : Prop := need ≤ rim b d m ∧ rim b (d - 1) m < need
theorem lb_lp {b m d : Int} {need : Rat} (b0 : 2 ≤ b) : rim b d m < need ↔ (b : Rat) ^ d * (m : Rat) < need * ((b - 1 : Int) : Rat) := by
  have hc : (0 : Rat) < ((b - 1 : Int) : Rat) := ratpos (by omega)
  unfold rim
  have e : (m : Rat) / ((b - 1 : Int) : Rat) * (b : Rat) ^ d = ((b : Rat) ^ d * (m : Rat)) / ((b - 1 : Int) : Rat) := by grind
  rw [e, Rat.div_lt_iff hc]
theorem IsLb.uniq {b m : Int} {need : Rat} {d e : Int} (hb : 2 ≤ b) (hr : 1 ≤ m) (h : IsLb b m need d) (h' : IsLb b m need e) : d = e :=
  IsLp.uniq (b := b) (room := m) (need := need * ((b - 1 : Int) : Rat)) (by omega) hr ⟨Rat.not_lt.mp fun z => Rat.not_lt.mpr h.1 ((lb_lp hb).mpr z), (lb_lp hb).mp h.2⟩ ⟨Rat.not_lt.mp fun z => Rat.not_lt.mpr h'.1 ((lb_lp hb).mpr z), (lb_lp hb).mp h'.2⟩
theorem rim_up {b e m : Int} (b0 : 2 ≤ b) : rim b (e + 1) m = (b : Rat) * rim b e m := by
  unfold rim
  rw [Rat.zpow_add_one (by have := ratpos (show 0 < b by omega); grind)]
  grind
theorem IsLb.up {b m d : Int} {need : Rat} (b0 : 2 ≤ b) (h : IsLb b m need d) : IsLb b m ((b : Rat) * need) (d + 1) := by
  have bp := ratpos (show 0 < b by omega)
  refine ⟨?_, ?_⟩
  · rw [rim_up b0]
    exact Rat.mul_le_mul_of_nonneg_left h.1 (Rat.le_of_lt bp)
  · have := Rat.mul_lt_mul_of_pos_left h.2 bp
    rw [← rim_up b0] at this
    rwa [show d + 1 - 1 = d - 1 + 1 by omega]
end Lb

/-! Machines: what a part gives, figure by figure. -/
namespace Lb
open PySem PySem.Spec PyProof.Rows L2 DL
variable [CT]
local macro_rules | `(tactic| walk_at "dg3") => `(tactic| try simp only [dDispGet, dictAt, isi_non_dict, isi_bl_dict, isi_int_dict, isi_str_dict, isi_lst_dict, isi_tup_dict, isi_non_bs, isi_bl_bs, isi_int_bs, isi_str_bs, isi_lst_bs, isi_tup_bs, g_ix_enc0, g_ix_enc1, g_ix_sp0, g_ix_sp1, g_put_sp, Int.reduceEq, dSeq, dSet, dPar, dOp, dUn, dVar, dC, dCB, dCons, dNil, dTup, dLst, dLstM, dIfS, dIf, dTest, dNot, dAnd, dOr, dAndV, dOrV, dNotV, dRet, dRetN, dEnd, dNext, dAdd, dSub, dMul, dFdiv, dMod, dPow, dNeg, dLt, dLe, dGt, dGe, dEq, dNe, eqB_ii, eqB_bb, eqB_ss, eqB_nn, eqB_ni, eqB_in, eqB_ns, eqB_sn, eqB_is, eqB_si, eqB_nb, eqB_bn, dIn, g_ix_tup, g_ix_lst, g_ix_ext, g_ln_tup, g_ln_lst, g_ln_ext, g_nn_non, g_nn_int, g_nn_tup, g_in_non, g_in_int, g_in_tup, g_ix_row0, g_ix_row1, g_ix_row2, g_ix_span0, g_ix_span1, g_nn_span, g_nn_encR, g_in_span, cAbs, cMax2, cMin2, cInt, cList, cTuple, dIsB, dNotB, dPar3, ForN, LcN, pinOf, pin2, dEnum2, dAppend, supd_same0, isi_non_int, isi_non_bool, isi_non_str, isi_non_list, isi_non_tuple, isi_non_lt, isi_bl_int, isi_bl_bool, isi_bl_str, isi_bl_list, isi_bl_tuple, isi_bl_lt, isi_int_int, isi_int_bool, isi_int_str, isi_int_list, isi_int_tuple, isi_int_lt, isi_str_int, isi_str_bool, isi_str_str, isi_str_list, isi_str_tuple, isi_str_lt, isi_lst_int, isi_lst_bool, isi_lst_str, isi_lst_list, isi_lst_tuple, isi_lst_lt, isi_tup_int, isi_tup_bool, isi_tup_str, isi_tup_list, isi_tup_tuple, isi_tup_lt, dAug, dIAdd, dIMul, dDrop, dSl, dPart, dNoPart, dRevL, dCallK, dChainR, dAsg, put_nm, put_tp, put_tl, g_put_row, g_put_span, putL_nil, putL_cons, Option.bind, seqOf, lstOf, dFor, dLc, dLcM, dItSeq, dZip, dZipS, dEnum, dRng1, dRng2, dYes, dwipe, Tgt.slots, Tgt.slotsL,
  atI_0, atI_1, atI_2, atI_3, List.getElem?_cons_zero, List.getElem?_cons_succ, List.set_cons_zero, List.set_cons_succ, decide_eq_true_eq, List.length_cons, List.length_nil, List.cons_append, List.nil_append, List.append_nil, ofString_inj, String.reduceEq, decide_true, decide_false, reduceIte, Bool.false_eq_true, Bool.not_true, Bool.not_false, eqFlat, isFlat, List.any_cons, List.any_nil, List.all_cons, List.all_nil, Bool.or_false, Bool.or_true, Bool.false_or, Bool.true_or, Bool.and_true, Bool.true_and, true_and, and_true, Nat.reduceAdd, Nat.reduceLeDiff, Int.reduceLT, Int.reduceLE, Int.reduceNeg])
/-! ### figures for rows of any begin -/
/-- what may come of rows is not too great for a row -/
structure Fine (b : Int) (kn : Kn) (rs : List Rw) (r : Rw) : Prop where
  b0 : 2 ≤ b
  b1 : b ≤ 16
  k : kn.Ok
  l : rs.length = kn.many
  ok : ∀ r, r ∈ rs → r.Ok b
  own : r.Ok b
  z1 : Sz 2500 (reachQ b kn (rs.map (spanQ b))).1
  z2 : Sz 2500 (reachQ b kn (rs.map (spanQ b))).2
  s1 : Bd ((2 ^ 60 : Int) : Rat) (((reachQ b kn (rs.map (spanQ b))).1 - r.worth b) * (b : Rat) ^ ((r.fs.length : Int) - r.e + 1))
  s2 : Bd ((2 ^ 60 : Int) : Rat) (((reachQ b kn (rs.map (spanQ b))).2 - r.worth b) * (b : Rat) ^ ((r.fs.length : Int) - r.e + 1))
local macro_rules | `(tactic| walk_at "dg4") => `(tactic| try simp only [dFld, dSetFld, dFldAdd, dMeth, dMake, dMakeK, dFld2, dMinKey, dDispGet, dictAt, isi_non_dict, isi_bl_dict, isi_int_dict, isi_str_dict, isi_lst_dict, isi_tup_dict, isi_non_bs, isi_bl_bs, isi_int_bs, isi_str_bs, isi_lst_bs, isi_tup_bs, g_ix_enc0, g_ix_enc1, g_ix_sp0, g_ix_sp1, g_put_sp, Int.reduceEq, dSeq, dSet, dPar, dOp, dUn, dVar, dC, dCB, dCons, dNil, dTup, dLst, dLstM, dIfS, dIf, dTest, dNot, dAnd, dOr, dAndV, dOrV, dNotV, dRet, dRetN, dEnd, dNext, dAdd, dSub, dMul, dFdiv, dMod, dPow, dNeg, dLt, dLe, dGt, dGe, dEq, dNe, eqB_ii, eqB_bb, eqB_ss, eqB_nn, eqB_ni, eqB_in, eqB_ns, eqB_sn, eqB_is, eqB_si, eqB_nb, eqB_bn, dIn, g_ix_tup, g_ix_lst, g_ix_ext, g_ln_tup, g_ln_lst, g_ln_ext, g_nn_non, g_nn_int, g_nn_tup, g_in_non, g_in_int, g_in_tup, g_ix_row0, g_ix_row1, g_ix_row2, g_ix_span0, g_ix_span1, g_nn_span, g_nn_encR, g_in_span, cAbs, cMax2, cMin2, cInt, cList, cTuple, dIsB, dNotB, dPar3, ForN, LcN, pinOf, pin2, dEnum2, dAppend, supd_same0, isi_non_int, isi_non_bool, isi_non_str, isi_non_list, isi_non_tuple, isi_non_lt, isi_bl_int, isi_bl_bool, isi_bl_str, isi_bl_list, isi_bl_tuple, isi_bl_lt, isi_int_int, isi_int_bool, isi_int_str, isi_int_list, isi_int_tuple, isi_int_lt, isi_str_int, isi_str_bool, isi_str_str, isi_str_list, isi_str_tuple, isi_str_lt, isi_lst_int, isi_lst_bool, isi_lst_str, isi_lst_list, isi_lst_tuple, isi_lst_lt, isi_tup_int, isi_tup_bool, isi_tup_str, isi_tup_list, isi_tup_tuple, isi_tup_lt, dAug, dIAdd, dIMul, dDrop, dSl, dPart, dNoPart, dRevL, dCallK, dChainR, dAsg, put_nm, put_tp, put_tl, g_put_row, g_put_span, putL_nil, putL_cons, Option.bind, seqOf, lstOf, dFor, dLc, dLcM, dItSeq, dZip, dZipS, dEnum, dRng1, dRng2, dYes, dwipe, Tgt.slots, Tgt.slotsL,
  atI_0, atI_1, atI_2, atI_3, List.getElem?_cons_zero, List.getElem?_cons_succ, List.set_cons_zero, List.set_cons_succ, decide_eq_true_eq, List.length_cons, List.length_nil, List.cons_append, List.nil_append, List.append_nil, ofString_inj, String.reduceEq, decide_true, decide_false, reduceIte, Bool.false_eq_true, Bool.not_true, Bool.not_false, eqFlat, isFlat, List.any_cons, List.any_nil, List.all_cons, List.all_nil, Bool.or_false, Bool.or_true, Bool.false_or, Bool.true_or, Bool.and_true, Bool.true_and, true_and, and_true, Nat.reduceAdd, Nat.reduceLeDiff, Int.reduceLT, Int.reduceLE, Int.reduceNeg])
/-! ### a machine's state -/
structure Mst where
  figs : List Int
  rd : Option Int
def rdD : Option Int → D
  | none => .non
  | some i => .int i
def MF (b : Int) (kn : Kn) (e m : Int) (q : Addr) (rd : Option Int) : List (Str × D) :=
  [("own_base", .int b), ("own_kind", kn.d), ("own_begin", .int e), ("own_most", .int m), ("own_figures", .obj q), ("own_read", rdD rd)]
/-- a machine stands at p, its figures at q -/
structure MAt (S : Store) (p q : Addr) (b : Int) (kn : Kn) (e m : Int) (s : Mst) : Prop where
  o : S p = some (.ins (CT.at_ 0) (MF b kn e m q s.rd))
  f : S q = some (.lst (s.figs.map .int))
  ne : p ≠ q
/-- elsewhere nothing is otherwise -/
def But2 (S S' : Store) (p q : Addr) : Prop := ∀ a, a ≠ p → a ≠ q → S' a = S a
theorem But2.refl {S : Store} {p q : Addr} : But2 S S p q := fun _ _ _ => rfl
theorem But2.trans {S S1 S2 : Store} {p q : Addr} (h : But2 S S1 p q) (h2 : But2 S1 S2 p q) : But2 S S2 p q := fun a h1 h3 => (h2 a h1 h3).trans (h a h1 h3)
def cutR : Option Int → Rw → Rw
  | some k, r => r.cut k
  | none, r => r
def known (r : Rw) : Int := (r.fs.length : Int) - r.e
def ownR (e m : Int) (s : Mst) : Rw := ⟨e, m, s.figs⟩
def signs : Kn → List Int
  | .loose ws => ws
  | _ => [1]
def Ch1 : Kn → Bool
  | .loose _ => false
  | .moved _ => false
  | _ => true
/-- what a step wants -/
structure StepOk (b : Int) (kn : Kn) (rs : List Rw) (e m : Int) (s : Mst) : Prop where
  l : rs.length ≤ 1000
  n : s.figs.length ≤ 900
  r : rs ≠ [] → s.rd ≠ none
  ch : Ch1 kn = true → Fine b kn (rs.map (cutR s.rd)) (ownR e m s)
  pl : Ch1 kn = false → rs.length = kn.many ∧ (∀ w, w ∈ signs kn → w.natAbs ≤ 1000)
theorem MAt.put {S : Store} {p q : Addr} {b : Int} {kn : Kn} {e m : Int} {s : Mst} (M : MAt S p q b kn e m s) (rd : Option Int) : MAt (supd S p (.ins (CT.at_ 0) (MF b kn e m q rd))) p q b kn e m ⟨s.figs, rd⟩ ∧ But2 S (supd S p (.ins (CT.at_ 0) (MF b kn e m q rd))) p q :=
  ⟨⟨supd_same, by rw [supd_ne M.ne.symm]; exact M.f, M.ne⟩, fun a h1 h2 => supd_ne h1⟩
local macro_rules | `(tactic| walk_at "dg6") => `(tactic| try simp only [isiG_non_dict, isiG_bl_dict, isiG_int_dict, isiG_str_dict, isiG_lst_dict, isiG_tup_dict, isiG_non_bs, isiG_bl_bs, isiG_int_bs, isiG_str_bs, isiG_lst_bs, isiG_tup_bs, dCall, dNewD, dDisp, dPrs, dkvsOf, dDGet, dDIn, dDGet1, dDGet2, dDPut, dDPop1, dDPop2, dDUpd, cLenD, cListD, cListDM, cDictD, cDictP, cSortDB, cSortL, dBack, dClear, dJoin, dLenO, dSlT, dSortIt, dItKeys, dItItems, dItVals, keyOf_int, keyOf_str, dDc, dDc2, dLstR1, dLstR2, dFld, dSetFld, dFldAdd, dMeth, dMake, dMakeK, dFld2, put_tl, dSeq, dSet, dPar, dOp, dUn, dVar, dC, dCB, dCons, dNil, dTup, dLst, dLstM, dIfS, dIf, dTest, dNot, dAnd, dOr, dAndV, dOrV, dNotV, dRet, dRetN, dEnd, dNext, dAdd, dSub, dMul, dFdiv, dMod, dPow, dNeg, dLt, dLe, dGt, dGe, dEq, dNe, eqB_ii, eqB_bb, eqB_ss, eqB_nn, eqB_ni, eqB_in, eqB_ns, eqB_sn, eqB_is, eqB_si, eqB_nb, eqB_bn, dIx, dIn, dIsN, dNotN, DL.isNon, cAbs, cMax2, cMin2, cInt, cLen, cList, cTuple, dIsB, dNotB, dPar3, ForN, LcN, pinOf, pin2, dEnum2, dAppend, supd_same0, isi_non_int, isi_non_bool, isi_non_str, isi_non_list, isi_non_tuple, isi_non_lt, isi_bl_int, isi_bl_bool, isi_bl_str, isi_bl_list, isi_bl_tuple, isi_bl_lt, isi_int_int, isi_int_bool, isi_int_str, isi_int_list, isi_int_tuple, isi_int_lt, isi_str_int, isi_str_bool, isi_str_str, isi_str_list, isi_str_tuple, isi_str_lt, isi_lst_int, isi_lst_bool, isi_lst_str, isi_lst_list, isi_lst_tuple, isi_lst_lt, isi_tup_int, isi_tup_bool, isi_tup_str, isi_tup_list, isi_tup_tuple, isi_tup_lt, dAug, dIAdd, dIMul, dDrop, dSl, dPart, dNoPart, dRevL, dCallK, dChainR, dAsg, put_nm, put_tp, put_tl, putL_nil, putL_cons, Option.bind, seqOf, lstOf, dFor, dLc, dLcM, dItSeq, dZip, dZipS, dEnum, dRng1, dRng2, dYes, dwipe, Tgt.slots, Tgt.slotsL,
  atI_0, atI_1, atI_2, atI_3, List.getElem?_cons_zero, List.getElem?_cons_succ, List.set_cons_zero, List.set_cons_succ, decide_eq_true_eq, List.length_cons, List.length_nil, List.cons_append, List.nil_append, List.append_nil, ofString_inj, String.reduceEq, decide_true, decide_false, reduceIte, Bool.false_eq_true, Bool.not_true, Bool.not_false, eqFlat, isFlat, List.any_cons, List.any_nil, List.all_cons, List.all_nil, Bool.or_false, Bool.or_true, Bool.false_or, Bool.true_or, Bool.and_true, Bool.true_and, true_and, and_true, Nat.reduceAdd, Nat.reduceLeDiff, Int.reduceLT, Int.reduceLE, Int.reduceNeg])
def LF (M : Mz) (y : D) : List (Str × D) := [("own_base", .int M.b), ("own_over", .int M.v), ("own_most", .int M.m), ("own_wide", .int M.W), ("own_sums", y)]
structure RowsAt (ms : List Int) (rs : List (List Int)) (n : Nat) : Prop where
  l : rs.length = ms.length
  n : ∀ r, r ∈ rs → r.length = n
  f : ∀ p, p ∈ rs.zip ms → ∀ x, x ∈ p.1 → -p.2 ≤ x ∧ x ≤ p.2
def wideS (ws ms : List Int) : Int := ((ws.zip ms).map fun x => (x.1.natAbs : Int) * x.2).sum
/-- sums of weights -/
structure WsOk (ws ms : List Int) : Prop where
  l : ws.length = ms.length
  l0 : 1 ≤ ws.length
  l1 : ws.length ≤ 4
  w : ∀ w, w ∈ ws → w ≠ 0 ∧ w.natAbs ≤ 90
  m : ∀ m, m ∈ ms → 1 ≤ m ∧ m ≤ 7
  W : wideS ws ms ≤ 200
/-- states that rows of these sums lead to -/
def Mz.Rc (M : Mz) (T : Int → Prop) (R L : Int) : Prop := ∃ cs, (∀ c, c ∈ cs → T c) ∧ M.Led cs R L
theorem Mz.Rc.start {M : Mz} {T : Int → Prop} {R L : Int} (h : M.Stl 0 9 R L) : M.Rc T R L := ⟨[], fun c h => (by cases h), .nil h⟩
theorem Mz.Rc.more {M : Mz} {T : Int → Prop} {R L c R' L' : Int} (h : M.Rc T R L) (hc : T c) (s : M.Stl (R * M.b + c * M.b ^ 9) (L + 1) R' L') : M.Rc T R' L' := by
  obtain ⟨cs, h1, h2⟩ := h
  refine ⟨cs ++ [c], fun x hx => ?_, .more h2 s⟩
  rcases List.mem_append.mp hx with m | m
  · exact h1 x m
  · rw [List.mem_singleton.mp m]; exact hc
/-- what holds the start and is closed holds all -/
theorem Mz.Rc.all {M : Mz} {T : Int → Prop} {K : Int → Int → Prop} (h0 : ∀ R L, M.Stl 0 9 R L → K R L) (h1 : ∀ R L c R' L', K R L → T c → M.Stl (R * M.b + c * M.b ^ 9) (L + 1) R' L' → K R' L') {R L : Int} (h : M.Rc T R L) : K R L := by
  obtain ⟨cs, hc, hl⟩ := h
  induction hl with
  | nil s => exact h0 _ _ s
  | @more cs c R L R' L' a s ih =>
    exact h1 _ _ _ _ _ (ih fun x hx => hc x (List.mem_append_left _ hx)) (hc c (List.mem_append_right _ (List.mem_singleton.mpr rfl))) s
theorem Mz.Stl.end_ {M : Mz} {R L R' L' : Int} (h : M.Stl R L R' L') : M.Nx R' L' none := by
  induction h with
  | stop n => exact n
  | go _ _ ih => exact ih
/-- where there is room enough a figure is right -/
theorem Mz.ok_near {M : Mz} (ho : M.Ok) {R L : Int} (h : (M.b - 1) * M.u L ≤ 2 * M.room L) : ∃ d, M.ok R L d := by
  have u0 := ho.u0 L
  have b0 := ho.b0
  refine ⟨(2 * R + M.u L).fdiv (2 * M.u L), ?_⟩
  obtain ⟨d, hd⟩ : ∃ d, d = (2 * R + M.u L).fdiv (2 * M.u L) := ⟨_, rfl⟩
  rw [← hd]
  have e := Int.mul_fdiv_add_fmod (2 * R + M.u L) (2 * M.u L)
  have m0 := Int.fmod_nonneg_of_pos (2 * R + M.u L) (show 0 < 2 * M.u L by omega)
  have m1 := Int.fmod_lt_of_pos (2 * R + M.u L) (show 0 < 2 * M.u L by omega)
  rw [← hd] at e
  have e2 : 2 * M.u L * d = 2 * (d * M.u L) := by rw [Int.mul_assoc, Int.mul_comm (M.u L)]
  rw [e2] at e
  unfold Mz.ok
  have a1 : 2 * (R - d * M.u L) ≤ M.u L := by omega
  have a2 : -(M.u L) ≤ 2 * (R - d * M.u L) := by omega
  generalize R - d * M.u L = x at *
  have k1 := Int.mul_le_mul_of_nonneg_left a1 (show 0 ≤ M.b - 1 by omega)
  have k2 := Int.mul_le_mul_of_nonneg_left a2 (show 0 ≤ M.b - 1 by omega)
  rw [show (M.b - 1) * (2 * x) = 2 * ((M.b - 1) * x) by rw [← Int.mul_assoc, Int.mul_comm _ 2, Int.mul_assoc]] at k1 k2
  rw [Int.mul_neg] at k2
  generalize (M.b - 1) * M.u L = y at *
  generalize (M.b - 1) * x = z at *
  omega
/-- behind all that is given the lead is no greater than any told one -/
theorem Mz.lead_le {M : Mz} (ho : M.Ok) (hm : M.b ≤ 2 * M.m) {D : Nat} (hD : 2 * M.W ≤ M.v * M.b ^ D * (2 * M.m - M.b + 1)) {R L : Int} (h : M.Nx R L none) : L ≤ D := by
  apply Decidable.byContradiction
  intro hl
  have b0 := ho.b0; have v0 := ho.v0; have p9 := ho.pw 9
  obtain ⟨d, hd⟩ := Mz.ok_near ho (R := R) (L := L) (by
    have e : M.u L = M.v * M.b ^ (L - 1).toNat * M.b ^ 9 := by
      unfold Mz.u
      rw [Int.mul_assoc, ← Int.pow_add, show (L - 1).toNat + 9 = (L + 8).toNat by omega]
    have k : M.v * M.b ^ D ≤ M.v * M.b ^ (L - 1).toNat := Int.mul_le_mul_of_nonneg_left (pwR (by omega) (by omega)) (by omega)
    have k2 := Int.mul_le_mul_of_nonneg_right k (show 0 ≤ 2 * M.m - M.b + 1 by omega)
    have k3 : 2 * M.W ≤ M.v * M.b ^ (L - 1).toNat * (2 * M.m - M.b + 1) := Int.le_trans hD k2
    have k4 := Int.mul_le_mul_of_nonneg_right k3 (show 0 ≤ M.b ^ 9 by omega)
    unfold Mz.room
    rw [e]
    generalize M.v * M.b ^ (L - 1).toNat = t at *
    generalize M.b ^ 9 = q at *
    have f1 : t * (2 * M.m - M.b + 1) * q = 2 * (t * q * M.m) - (M.b - 1) * (t * q) := by
      rw [show 2 * M.m - M.b + 1 = 2 * M.m - (M.b - 1) by omega, Int.mul_sub, Int.sub_mul]
      congr 1
      · rw [show t * (2 * M.m) = 2 * (t * M.m) by rw [← Int.mul_assoc, Int.mul_comm t 2, Int.mul_assoc], Int.mul_assoc, Int.mul_right_comm]
      · rw [Int.mul_comm t, Int.mul_assoc]
    rw [f1, Int.mul_assoc] at k4
    omega)
  exact h d hd
theorem Mz.Rc.le {M : Mz} (ho : M.Ok) (hm : M.b ≤ 2 * M.m) {T : Int → Prop} {D : Nat} (hD : 2 * M.W ≤ M.v * M.b ^ D * (2 * M.m - M.b + 1)) {R L : Int} (h : M.Rc T R L) : L ≤ D := by
  obtain ⟨cs, h1, h2⟩ := h
  refine Mz.lead_le ho hm hD (R := R) ?_
  cases h2 with
  | nil s => exact s.end_
  | more _ s => exact s.end_
theorem Mz.Rel.uniqr {M : Mz} (ho : M.Ok) {r r' R L : Int} (h : M.Rel r R L) (h' : M.Rel r' R L) : r = r' := by
  have e : r * M.b ^ 9 = r' * M.b ^ 9 := by rw [h.1, h'.1]
  exact Int.eq_of_mul_eq_mul_right (by have := ho.pw 9; omega) e
/-! ### sums of weights times figures -/
def wS (ws fs : List Int) : Int := ((ws.zip fs).map fun p => p.1 * p.2).sum
structure FigW (ws ms fs : List Int) : Prop where
  l : fs.length = ws.length
  f : ∀ p, p ∈ fs.zip ms → -p.2 ≤ p.1 ∧ p.1 ≤ p.2
def Tot (ws ms : List Int) (c : Int) : Prop := ∃ fs, FigW ws ms fs ∧ c = wS ws fs
local macro_rules | `(tactic| walk_at "dg7") => `(tactic| try simp only [dWk, weakD_tq, weakD_tup, weakD_int, weakD_non, weakD_str, weakD_bl, weakD_obj, weakD_lst, weakL_nil, weakL_cons, weakL_ints, dTupQ, cTupleQ, dTNew, dTOne, dTPut, dTGet, dTIn, dTKeys, dTItems, dTKeysU, dTItemsU, tuD,  dFrzT, cListT, cLenT, isiG_non_dict, isiG_bl_dict, isiG_int_dict, isiG_str_dict, isiG_lst_dict, isiG_tup_dict, isiG_non_bs, isiG_bl_bs, isiG_int_bs, isiG_str_bs, isiG_lst_bs, isiG_tup_bs, dCall, dNewD, dDisp, dPrs, dkvsOf, dDGet, dDIn, dDGet1, dDGet2, dDPut, dDPop1, dDPop2, dDUpd, cLenD, cListD, cListDM, cDictD, cDictP, cSortDB, cSortL, dBack, dClear, dJoin, dLenO, dSlT, dSortIt, dItKeys, dItItems, dItVals, keyOf_int, keyOf_str, dDc, dDc2, dLstR1, dLstR2, dFld, dSetFld, dFldAdd, dMeth, dMake, dMakeK, dFld2, put_tl, dSeq, dSet, dPar, dOp, dUn, dVar, dC, dCB, dCons, dNil, dTup, dLst, dLstM, dIfS, dIf, dTest, dNot, dAnd, dOr, dAndV, dOrV, dNotV, dRet, dRetN, dEnd, dNext, dAdd, dSub, dMul, dFdiv, dMod, dPow, dNeg, dLt, dLe, dGt, dGe, dEq, dNe, eqB_ii, eqB_bb, eqB_ss, eqB_nn, eqB_ni, eqB_in, eqB_ns, eqB_sn, eqB_is, eqB_si, eqB_nb, eqB_bn, dIx, dIn, dIsN, dNotN, DL.isNon, cAbs, cMax2, cMin2, cInt, cLen, cList, cTuple, dIsB, dNotB, dPar3, ForN, LcN, pinOf, pin2, dEnum2, dAppend, supd_same0, isi_non_int, isi_non_bool, isi_non_str, isi_non_list, isi_non_tuple, isi_non_lt, isi_bl_int, isi_bl_bool, isi_bl_str, isi_bl_list, isi_bl_tuple, isi_bl_lt, isi_int_int, isi_int_bool, isi_int_str, isi_int_list, isi_int_tuple, isi_int_lt, isi_str_int, isi_str_bool, isi_str_str, isi_str_list, isi_str_tuple, isi_str_lt, isi_lst_int, isi_lst_bool, isi_lst_str, isi_lst_list, isi_lst_tuple, isi_lst_lt, isi_tup_int, isi_tup_bool, isi_tup_str, isi_tup_list, isi_tup_tuple, isi_tup_lt, dAug, dIAdd, dIMul, dDrop, dSl, dPart, dNoPart, dRevL, dCallK, dChainR, dAsg, put_nm, put_tp, put_tl, putL_nil, putL_cons, Option.bind, seqOf, lstOf, dFor, dLc, dLcM, dItSeq, dZip, dZipS, dEnum, dRng1, dRng2, dYes, dwipe, Tgt.slots, Tgt.slotsL,
  atI_0, atI_1, atI_2, atI_3, List.getElem?_cons_zero, List.getElem?_cons_succ, List.set_cons_zero, List.set_cons_succ, decide_eq_true_eq, List.length_cons, List.length_nil, List.cons_append, List.nil_append, List.append_nil, ofString_inj, String.reduceEq, decide_true, decide_false, reduceIte, Bool.false_eq_true, Bool.not_true, Bool.not_false, eqFlat, isFlat, List.any_cons, List.any_nil, List.all_cons, List.all_nil, Bool.or_false, Bool.or_true, Bool.false_or, Bool.true_or, Bool.and_true, Bool.true_and, true_and, and_true, Nat.reduceAdd, Nat.reduceLeDiff, Int.reduceLT, Int.reduceLE, Int.reduceNeg])
/-- sums, each with figures that come to it -/
structure SumD (ws ms ts : List Int) (g : Int → List Int) : Prop where
  it : ∀ c, c ∈ ts → FigW ws ms (g c) ∧ c = wS ws (g c)
  all : ∀ c, Tot ws ms c → c ∈ ts
  nd : ts.Nodup
  l : ts.length ≤ 60000
def sumsD (ts : List Int) (g : Int → List Int) : List (Key × D) := ts.map fun c => (Sum.inl c, .tup ((g c).map .int))
/-- a machine stands at p, its sums at Q -/
structure LtQ (S : Store) (p Q : Addr) (M : Mz) (ws ms ts : List Int) (g : Int → List Int) : Prop where
  o : S p = some (.ins (CT.at_ 2) (LF M (.obj Q)))
  q : S Q = some (.dK (sumsD ts g))
  d : SumD ws ms ts g
  W : M.W = wideS ws ms
theorem Mz.Led.end_ {M : Mz} {cs : List Int} {R L : Int} (h : M.Led cs R L) : M.Nx R L none := by
  cases h with
  | nil s => exact s.end_
  | more _ s => exact s.end_
/-- a state that was found: as the program has it, in one scale, by which sums -/
structure Fd where
  r : Int
  L : Int
  R : Int
  cs : List Int
def Fd.key (f : Fd) : List Key := [.inl f.r, .inl f.L]
structure FdOk (M : Mz) (T : Int → Prop) (f : Fd) : Prop where
  rel : M.Rel f.r f.R f.L
  led : M.Led f.cs f.R f.L
  t : ∀ c, c ∈ f.cs → T c
/-- all states, each once -/
structure AllF (M : Mz) (T : Int → Prop) (fs : List Fd) : Prop where
  ok : ∀ f, f ∈ fs → FdOk M T f
  nd : (fs.map Fd.key).Nodup
  all : ∀ R L, M.Rc T R L → ∃ f, f ∈ fs ∧ f.R = R ∧ f.L = L
  l : ∀ (i : Nat) f, fs[i]? = some f → f.cs.length ≤ i
  ne : fs ≠ []
structure Few (M : Mz) (T : Int → Prop) (n : Nat) : Prop where
  ex : ∃ KS : List (Int × Int), (∀ R L, M.Rc T R L → (R, L) ∈ KS) ∧ KS.length ≤ n
/-! ### sums -/
/-- what is found of the first weights -/
structure SumP (ws ms : List Int) (kvs : List (Key × D)) : Prop where
  it : ∀ q, q ∈ kvs → ∃ (c : Int) (fs : List Int), q = (Sum.inl c, .tup (fs.map .int)) ∧ FigW ws ms fs ∧ c = wS ws fs
  all : ∀ c, Tot ws ms c → (Sum.inl c : Key) ∈ kvs.map (·.1)
  nd : (kvs.map (·.1)).Nodup
theorem nd_le {α : Type} [DecidableEq α] : ∀ {l k : List α}, l.Nodup → (∀ x, x ∈ l → x ∈ k) → l.length ≤ k.length
  | [], _, _, _ => Nat.zero_le _
  | a :: l, k, nd, h => by
    obtain ⟨n1, n2⟩ := List.nodup_cons.mp nd
    have ih := nd_le (k := k.erase a) n2 fun x hx => (List.mem_erase_of_ne (fun e => n1 (by rw [← e]; exact hx))).mpr (h x (List.mem_cons_of_mem _ hx))
    have ha := h a (List.mem_cons_self ..)
    rw [List.length_erase_of_mem ha] at ih
    have := List.length_pos_of_mem ha
    rw [List.length_cons]; omega
structure StI (M : Mz) (T : Int → Prop) (fs : List Fd) (k : Nat) : Prop where
  ok : ∀ f, f ∈ fs → FdOk M T f
  nd : (fs.map Fd.key).Nodup
  l : ∀ (i : Nat) f, fs[i]? = some f → f.cs.length ≤ i
  st : ∀ R L, M.Stl 0 9 R L → ∃ f, f ∈ fs ∧ f.R = R ∧ f.L = L
  cl : ∀ (i : Nat) f, i < k → fs[i]? = some f → ∀ c, T c → ∀ R L, M.Stl (f.R * M.b + c * M.b ^ 9) (f.L + 1) R L → ∃ f', f' ∈ fs ∧ f'.R = R ∧ f'.L = L
  kl : k ≤ fs.length
theorem FdOk.rc {M : Mz} {T : Int → Prop} {f : Fd} (h : FdOk M T f) : M.Rc T f.R f.L := ⟨f.cs, h.t, h.led⟩
theorem StI.few {M : Mz} {T : Int → Prop} {fs : List Fd} {k n : Nat} (h : StI M T fs k) (ho : M.Ok) (hf : Few M T n) : fs.length ≤ n := by
  obtain ⟨KS, h1, h2⟩ := hf.ex
  have hn : (fs.map fun f => (f.R, f.L)).Nodup := by
    have nd := h.nd
    unfold List.Nodup at *
    rw [List.pairwise_map] at *
    refine nd.imp_of_mem fun {a b} ha hb ne e => ne ?_
    obtain ⟨e1, e2⟩ := Prod.mk.inj e
    have ra := (h.ok a ha).rel
    have rb := (h.ok b hb).rel
    rw [← e1, ← e2] at rb
    unfold Fd.key
    rw [Mz.Rel.uniqr ho ra rb, e2]
  have := nd_le hn (k := KS) fun x hx => by
    obtain ⟨f, hf, rfl⟩ := List.mem_map.mp hx
    exact h1 _ _ (h.ok f hf).rc
  rw [List.length_map] at this; omega
theorem StI.push {M : Mz} {T : Int → Prop} {fs : List Fd} {k : Nat} {f : Fd} (h : StI M T fs k) (hf : FdOk M T f) (hk : f.key ∉ fs.map Fd.key) (hl : f.cs.length ≤ fs.length) : StI M T (fs ++ [f]) k where
  ok := fun x hx => (List.mem_append.mp hx).elim (h.ok x) fun m => by rw [List.mem_singleton.mp m]; exact hf
  nd := by
    rw [List.map_append]
    refine List.nodup_append.mpr ⟨h.nd, by simp, fun a ha b hb e => hk ?_⟩
    rw [List.map_cons, List.map_nil, List.mem_singleton] at hb
    rw [← hb, ← e]; exact ha
  l := fun i x e => by
    by_cases c : i < fs.length
    · rw [List.getElem?_append_left c] at e; exact h.l i x e
    · rw [List.getElem?_append_right (by omega)] at e
      have := (List.getElem?_eq_some_iff.mp e).1
      simp at this
      have e0 : i = fs.length := by omega
      subst e0
      rw [Nat.sub_self] at e
      cases e; exact hl
  st := fun R L s => let ⟨x, hx, e⟩ := h.st R L s; ⟨x, List.mem_append_left _ hx, e⟩
  cl := fun i x hi e c hc R L s => by
    have : i < fs.length := by have := h.kl; omega
    rw [List.getElem?_append_left this] at e
    obtain ⟨y, hy, e⟩ := h.cl i x hi e c hc R L s
    exact ⟨y, List.mem_append_left _ hy, e⟩
  kl := by rw [List.length_append]; have := h.kl; omega
theorem lc_filP {α : Type} {t : Tgt} {tt : DT} {de : DE} {P : D → Store → Prop} {xs : List α} {pin : Store → Prop} {ρ : DSt} {S : Store} (f g : α → D) (b : α → Bool) (hl : xs.length ≤ 100000) (hp : pin S)
    (h : ∀ x, x ∈ xs → ∃ ρ', t.put (f x) (dwipe ρ t.slots) = some ρ' ∧ (∀ Q : Bool → Store → Prop, Q (b x) S → tt ρ' S Q) ∧ (b x = true → ∀ Q : D → Store → Prop, Q (g x) S → de ρ' S Q)) (q : P (.lst ((xs.filter b).map g)) S) : LcP t tt de P (xs.map f) pin ρ S := by
  refine ⟨by rw [List.length_map]; exact hl, fun i acc S' => acc = ((xs.take i).filter b).map g ∧ S' = S, ⟨rfl, rfl⟩, ?_, ?_, ?_⟩
  · rintro i acc S' ⟨_, rfl⟩; exact hp
  · rintro i d acc S' hd ⟨rfl, rfl⟩
    rw [List.getElem?_map] at hd
    cases e : xs[i]? with
    | none => rw [e] at hd; cases hd
    | some x =>
      rw [e] at hd
      cases hd
      obtain ⟨ρ', h1, h2, h3⟩ := h x (List.mem_of_getElem? e)
      refine ⟨ρ', h1, h2 _ ?_⟩
      have ee : (xs.take (i + 1)).filter b = (xs.take i).filter b ++ [x].filter b := by rw [List.take_add_one, e, List.filter_append]; rfl
      cases c : b x with
      | true =>
        simp only [reduceIte]
        refine h3 c _ ⟨?_, by trivial⟩
        rw [ee, List.map_append, List.filter_cons_of_pos c]; rfl
      | false =>
        simp only [Bool.false_eq_true, reduceIte]
        refine ⟨?_, by trivial⟩
        rw [ee, List.map_append, List.filter_cons_of_neg (by rw [c]; simp), List.filter_nil, List.map_nil, List.append_nil]
  · rintro acc S' ⟨rfl, rfl⟩
    rw [List.length_map, List.take_length]; exact q
theorem filt_all {α : Type} (l : List α) : l.filter (fun _ => true) = l := List.filter_eq_self.mpr fun _ _ => rfl
local macro_rules | `(tactic| walk_at "dg7s") => `(tactic| try simp only [dWk, weakD_tq, weakD_tup, weakD_int, weakD_non, weakD_str, weakD_bl, weakD_obj, weakD_lst, weakL_nil, weakL_cons, weakL_ints, dTupQ, cTupleQ, dTNew, dTOne, dTPut, dTGet, dTIn, dTKeys, dTItems, dTKeysU, dTItemsU, tuD,  dFrzT, cListT, cLenT, isiG_non_dict, isiG_bl_dict, isiG_int_dict, isiG_str_dict, isiG_lst_dict, isiG_tup_dict, isiG_non_bs, isiG_bl_bs, isiG_int_bs, isiG_str_bs, isiG_lst_bs, isiG_tup_bs, dCall, dNewD, dDisp, dPrs, dkvsOf, dDGet, dDIn, dDGet1, dDGet2, dDPut, dDPop1, dDPop2, dDUpd, cLenD, cListD, cListDM, cDictD, cDictP, cSortDB, cSortL, dBack, dClear, dJoin, dLenO, dSlT, dSortIt, dItKeys, dItItems, dItVals, keyOf_int, keyOf_str, dDc2, dLstR1, dLstR2, dFld, dSetFld, dFldAdd, dMeth, dMake, dMakeK, dFld2, put_tl, dSeq, dSet, dPar, dOp, dUn, dVar, dC, dCB, dCons, dNil, dTup, dLst, dLstM, dIfS, dIf, dTest, dNot, dAnd, dOr, dAndV, dOrV, dNotV, dRet, dRetN, dEnd, dNext, dAdd, dSub, dMul, dFdiv, dMod, dPow, dNeg, dLt, dLe, dGt, dGe, dEq, dNe, eqB_ii, eqB_bb, eqB_ss, eqB_nn, eqB_ni, eqB_in, eqB_ns, eqB_sn, eqB_is, eqB_si, eqB_nb, eqB_bn, dIx, dIn, dIsN, dNotN, DL.isNon, cAbs, cMax2, cMin2, cInt, cList, cTuple, dIsB, dNotB, dPar3, dEnum2, dAppend, supd_same0, isi_non_int, isi_non_bool, isi_non_str, isi_non_list, isi_non_tuple, isi_non_lt, isi_bl_int, isi_bl_bool, isi_bl_str, isi_bl_list, isi_bl_tuple, isi_bl_lt, isi_int_int, isi_int_bool, isi_int_str, isi_int_list, isi_int_tuple, isi_int_lt, isi_str_int, isi_str_bool, isi_str_str, isi_str_list, isi_str_tuple, isi_str_lt, isi_lst_int, isi_lst_bool, isi_lst_str, isi_lst_list, isi_lst_tuple, isi_lst_lt, isi_tup_int, isi_tup_bool, isi_tup_str, isi_tup_list, isi_tup_tuple, isi_tup_lt, dAug, dIAdd, dIMul, dDrop, dSl, dPart, dNoPart, dRevL, dCallK, dChainR, dAsg, put_nm, put_tp, put_tl, putL_nil, putL_cons, Option.bind, dRng1, dRng2, dYes, dwipe, Tgt.slots, Tgt.slotsL,
  atI_0, atI_1, atI_2, atI_3, List.getElem?_cons_zero, List.getElem?_cons_succ, List.set_cons_zero, List.set_cons_succ, decide_eq_true_eq, List.length_cons, List.length_nil, List.cons_append, List.nil_append, List.append_nil, ofString_inj, String.reduceEq, decide_true, decide_false, reduceIte, Bool.false_eq_true, Bool.not_true, Bool.not_false, List.any_cons, List.any_nil, List.all_cons, List.all_nil, Bool.or_false, Bool.or_true, Bool.false_or, Bool.true_or, Bool.and_true, Bool.true_and, true_and, and_true, Nat.reduceAdd, Nat.reduceLeDiff, Int.reduceLT, Int.reduceLE, Int.reduceNeg])
/-- an entry of a paper, of any make -/
def TmE : D → Prop
  | .int i => i.natAbs < 2 ^ 40
  | .non => True | .bl _ => True | .str _ => True | .tup _ => True | .lst _ => True
  | _ => False
def TmP (N : Nat) : D → Prop
  | .lst es => es.length ≤ N ∧ ∀ e, e ∈ es → TmE e
  | .tup _ => True | .non => True | .int _ => True
  | _ => False
def okE (m : Int) : D → Bool
  | .int r => decide ((r.natAbs : Int) ≤ m)
  | _ => false
def intE : D → Int
  | .int r => r
  | _ => 0
def papB (g : Gm) : D → Bool
  | .lst es => es.all (okE g.gr) && (decide (0 ∈ es.map intE) && (es.map intE).all (g.safe (es.map intE)))
  | _ => false
theorem intE_map (xs : List Int) : (xs.map D.int).map intE = xs := by rw [List.map_map]; exact List.map_id' xs
theorem papB_ints (g : Gm) (xs : List Int) : papB g (.lst (xs.map .int)) = g.shows xs := by
  unfold papB Gm.shows
  dsimp only
  rw [intE_map, List.all_map]
  rfl
theorem ok_ints {m : Int} : ∀ {es : List D}, es.all (okE m) = true → es = (es.map intE).map D.int
  | [], _ => rfl
  | e :: es, h => by
    rw [List.all_cons, Bool.and_eq_true] at h
    have ih := ok_ints h.2
    cases e with
    | int r => rw [List.map_cons, List.map_cons, ← ih]; rfl
    | _ => exact absurd h.1 (by simp [okE])
theorem shw_lst {S : Store} {x : D} {es : List D} (h : shwO S x = .lst es) : lstOf S x = some es ∧ seqOf S x = some es := by
  cases x with
  | obj l =>
    unfold shwO at h
    cases e : S l with
    | none => simp [e] at h
    | some m =>
      cases m with
      | lst ds =>
        simp only [e] at h
        cases h
        constructor <;> simp only [lstOf, seqOf, e]
      | _ => simp [e] at h
  | lst ds => cases h; exact ⟨rfl, rfl⟩
  | _ => simp [shwO] at h
theorem shw_pin {S : Store} {x : D} : PinOk (pinOf S x) S := by
  cases x <;> first | exact trivial | exact rfl
theorem shw_grown {S S' : Store} {x d : D} {N : Nat} (h : shwO S x = d) (t : TmP N d) (g : Grown S S') : shwO S' x = d := by
  cases x with
  | obj l =>
    unfold shwO at h
    cases e : S l with
    | none => simp [e] at h; subst h; cases t
    | some m =>
      cases m with
      | lst ds =>
        simp only [e] at h
        subst h
        simp only [shwO, g _ _ e]
      | _ => simp [e] at h; subst h; cases t
  | _ => exact h
theorem shw_isl {S : Store} {x d : D} {N : Nat} {P : D → Store → Prop} (h : shwO S x = d) (t : TmP N d) (q : P (.bl (match d with | .lst _ => true | _ => false)) S) : cIsi [x, .ty "list"] S P := by
  cases x with
  | obj l =>
    unfold shwO at h
    cases e : S l with
    | none => simp [e] at h; subst h; cases t
    | some m =>
      cases m with
      | lst ds =>
        simp only [e] at h
        subst h
        unfold cIsi
        simp only [tyName, e]
        have z : isTy "list" "list" = true := by decide
        rw [z]
        exact ⟨by decide, q⟩
      | _ => simp [e] at h; subst h; cases t
  | lst _ => cases h; walk_at "dg7"; exact q
  | tup _ => cases h; walk_at "dg7"; exact q
  | non => cases h; walk_at "dg7"; exact q
  | int _ => cases h; walk_at "dg7"; exact q
  | bl _ => cases h; cases t
  | str _ => cases h; cases t
  | ext _ => cases h; cases t
  | ty _ => cases h; cases t
  | tq _ => cases h; cases t
theorem lcN_bools {t : Tgt} {de : DE} {P : D → Store → Prop} {ds : List D} {pin : Option (Store → Prop)} (F : D → Bool) {ρ : DSt} {S : Store} (hl : ds.length ≤ 100000) (hp : PinOk pin S)
    (h : ∀ d, d ∈ ds → ∃ ρ', t.put d (dwipe ρ t.slots) = some ρ' ∧ ∀ Q : D → Store → Prop, Q (.bl (F d)) S → de ρ' S Q) (q : P (.lst (ds.map fun d => .bl (F d))) S) : LcN t dYes de P ds pin ρ S := by
  cases pin with
  | none =>
    have := lc_mapA (t := t) (de := de) (P := P) (xs := ds) (ρ := ρ) (S := S) id (fun d => .bl (F d)) hl h q
    rwa [List.map_id] at this
  | some p =>
    have := lc_filP (t := t) (tt := dYes) (de := de) (P := P) (xs := ds) (ρ := ρ) (S := S) (pin := p) id (fun d => .bl (F d)) (fun _ => true) hl hp (fun x hx => by
      obtain ⟨ρ', h1, h2⟩ := h x hx
      exact ⟨ρ', h1, fun Q q => q, fun _ Q q => h2 Q q⟩) (by rw [filt_all]; exact q)
    rwa [List.map_id] at this
theorem dc_keysN {t : Tgt} {tt : DT} {dk dv : DE} {P : D → Store → Prop} {ρ : DSt} {S1 : Store} {ds : List D} {pin : Option (Store → Prop)} (xs : List Int) (hds : ds = xs.map .int) (hl : xs.length ≤ 99999) (hp : PinOk pin S1)
    (step : ∀ (i : Nat) (r : Int), xs[i]? = some r → ∃ ρ', t.put (.int r) (dwipe ρ t.slots) = some ρ' ∧ ∀ (K : D → D → Store → Prop) (N : Store → Prop), (∀ v, K (.int r) v S1) → tt ρ' S1 fun b S2 => if b = true then dk ρ' S2 fun y S3 => dv ρ' S3 fun z S4 => K y z S4 else N S2)
    (q : ∀ kvs, KS kvs (fun x => x ∈ xs) xs.length → ∀ a, S1 a = none → P (.obj a) (supd S1 a (.dK kvs))) : DcN t tt dk dv P ds pin ρ S1 := by
  subst hds
  refine ⟨fun i acc S => S = S1 ∧ KS acc (fun x => x ∈ xs.take i) i, ⟨rfl, [], rfl, by simp, by simp, by simp⟩, fun i acc S h => by rw [h.1]; exact hp, ?_, ?_⟩
  · rintro i d acc S hd ⟨rfl, hs⟩
    rw [List.getElem?_map] at hd
    cases e : xs[i]? with
    | none => rw [e] at hd; cases hd
    | some r =>
      rw [e] at hd
      cases hd
      have hi := (List.getElem?_eq_some_iff.mp e).1
      obtain ⟨ρ', h1, h2⟩ := step i r e
      refine ⟨ρ', h1, h2 _ _ fun v => ?_⟩
      have hl2 : acc.length ≤ i := hs.choose_spec.2.2.2
      refine ⟨.inl r, rfl, by omega, rfl, (hs.put r v).congr (fun x => ?_) (Nat.le_refl _)⟩
      rw [List.take_add_one, e, List.mem_append]
      simp
  · rintro acc S ⟨rfl, hs⟩ a hn
    rw [List.length_map] at hs
    rw [List.take_length] at hs
    exact q acc hs a hn
def sp_is_numberO : DSp := fun ds S P => ∃ x : D, ds = [x] ∧ TmE x ∧ P (.bl (match x with | .int _ => true | _ => false)) S
def sp_enough_paperO : DSp := fun ds S P => ∃ (b over most : Int) (ws ms ys : List Int) (L : Nat), ds = callG b over most ws ms L ∧ Fit b over most ws ms ys L ∧
  (0 ∉ (gmAt b over most ys L).ranks.2 → ∀ S', Grown S S' → P .non S') ∧ (0 ∈ (gmAt b over most ys L).ranks.2 → ∀ p S', Grown S S' → S p = none → S' p = some (.lst ((gmAt b over most ys L).ranks.2.map .int)) → P (.obj p) S')
def sp_shows_enoughO : DSp := fun ds S P => ∃ (b over most : Int) (ws ms ys : List Int) (x d : D) (L : Nat), ds = callG b over most ws ms L ++ [x] ∧ Fit b over most ws ms ys L ∧ shwO S x = d ∧ TmP 99999 d ∧
  ∀ S', Grown S S' → P (.bl (papB (gmAt b over most ys L) d)) S'
def rd_is_numberO : DS :=
  (dRet (dAndV (dCB cIsi (dCons (dVar 0) (dCons (dC (.ty "int")) dNil))) (dNotV (dCB cIsi (dCons (dVar 0) (dCons (dC (.ty "bool")) dNil))))))
def goal_is_numberO : Prop := ∀ (x0 : D) (S : Store) (P : D → Store → Prop), sp_is_numberO [x0] S P → rd_is_numberO (dEnd P) [some x0] S
def rd_enough_paperO : DS :=
  (dSeq (dSet 6 (dMake 3 sp_Game_init (dCons (dVar 0) (dCons (dVar 1) (dCons (dVar 2) (dCons (dVar 3) (dCons (dVar 4) (dCons (dVar 5) dNil))))))))
  (dSeq (dDrop (dMeth 3 "look" sp_Game_look (dVar 6) dNil))
  (dSeq (dSet 7 (dOp dIx (dMeth 3 "ranks" sp_Game_ranks (dVar 6) dNil) (dC (.int 1))))
  (dRet (dIf (dTest (dOp (dDIn false) (dC (.int 0)) (dVar 7))) (dCB cSortDBM (dCons (dVar 7) dNil)) (dC .non))))))
def goal_enough_paperO : Prop := ∀ (x0 x1 x2 x3 x4 x5 : D) (S : Store) (P : D → Store → Prop), sp_enough_paperO [x0, x1, x2, x3, x4, x5] S P → rd_enough_paperO (dEnd P) [some x0, some x1, some x2, some x3, some x4, some x5, none, none] S
def rd_shows_enoughO : DS :=
  (dSeq (dSet 7 (dMake 3 sp_Game_init (dCons (dVar 0) (dCons (dVar 1) (dCons (dVar 2) (dCons (dVar 3) (dCons (dVar 4) (dCons (dVar 5) dNil))))))))
  (dSeq (dIfS (dOr (dNot (dTest (dCB cIsi (dCons (dVar 6) (dCons (dC (.ty "list")) dNil))))) (dNot (dTest (dCB cAll (dCons (dLc (dItSeq (dVar 6)) (.nm 8) dYes (dAndV (dCB sp_is_numberO (dCons (dVar 8) dNil)) (dNotV (dMeth 3 "is_lost" sp_Game_is_lostE (dVar 7) (dCons (dVar 8) dNil))))) dNil))))) (dRet (dC (.bl false))) dNext)
  (dSeq (dAsg (.tp [(.nm 9), (.nm 10)]) (dTup (dCons (dDc (dItSeq (dVar 6)) (.nm 8) dYes (dVar 8) (dC (.bl true))) (dCons dNewD dNil))))
  (dRet (dAndV (dOp (dDIn false) (dC (.int 0)) (dVar 9)) (dCB cAll (dCons (dLockE (dLc (dItKeys (dVar 9)) (.nm 8) dYes (dOp dIsN (dMeth 3 "first_fatal" sp_Game_first_fatal (dVar 7) (dCons (dVar 8) (dCons (dVar 10) (dCons (dVar 9) dNil)))) (dC .non)))) dNil)))))))
def goal_shows_enoughO : Prop := ∀ (x0 x1 x2 x3 x4 x5 x6 : D) (S : Store) (P : D → Store → Prop), sp_shows_enoughO [x0, x1, x2, x3, x4, x5, x6] S P → rd_shows_enoughO (dEnd P) [some x0, some x1, some x2, some x3, some x4, some x5, some x6, none, none, none, none] S
theorem len_is_numberO : ∀ ds S P, sp_is_numberO ds S P → ds.length = 1 := by rintro ds S P ⟨a, rfl, _⟩; rfl
theorem len_enough_paperO : ∀ ds S P, sp_enough_paperO ds S P → ds.length = 6 := by rintro ds S P ⟨a, b, c, d, e, f, g, rfl, _⟩; rfl
theorem len_shows_enoughO : ∀ ds S P, sp_shows_enoughO ds S P → ds.length = 7 := by rintro ds S P ⟨a, b, c, d, e, f, g, h, i, rfl, _⟩; rfl
theorem vc_is_numberO : goal_is_numberO := by
  rintro x0 S P ⟨x, er, ht, h⟩
  cases er
  unfold rd_is_numberO
  cases x0 with
  | ext _ => cases ht
  | obj _ => cases ht
  | ty _ => cases ht
  | tq _ => cases ht
  | _ => walk_at "dg7"; exact h
theorem vc_enough_paperO : goal_enough_paperO := by
  rintro x0 x1 x2 x3 x4 x5 S P ⟨b, over, most, ws, ms, ys, L, e, ft, q0, q1⟩
  cases e
  unfold rd_enough_paperO
  have b0 := ft.gm.b0; have b1 := ft.gm.b1; have l1 := ft.lag
  have b0' : 2 ≤ b := b0
  have b1' : b ≤ 16 := b1
  walk_at "dg7"
  intro p hp
  refine ⟨p, b, over, most, L, ws, ms, rfl, supd_at, ft.ok, by omega, b1', ft.o0, ft.o1, by omega, by omega, fun g S2 e1 e2 e3 e4 hga hold => ⟨rfl, ?_⟩⟩
  have eg : g = gmAt b over most ys L := by
    have := e4.uniq ft.srt fun _ => Iff.rfl
    obtain ⟨gb, gw, gs, gsu⟩ := g
    simp only at e1 e2 e3 this
    unfold gmAt
    rw [e1, e2, e3, this]; rfl
  subst eg
  have g2 : Grown S S2 := fun a m ha => by
    have ne : a ≠ p := fun z => by rw [z, hp] at ha; cases ha
    exact hold a m ne ((supd_ne ne).trans ha)
  walk_at "dg7"
  rw [g_mth hga (f := Str.ofString "look") rfl]
  refine ⟨p, _, rfl, hga, ft.gm, ?_⟩
  walk_at "dg7"
  rw [g_mth hga (f := Str.ofString "ranks") rfl]
  refine ⟨p, _, rfl, hga, ft.gm, ft.few, fun f h kvs S3 g3 ne hf hh hk => ?_⟩
  walk_at "dg7"
  obtain ⟨kvs', k1, k2⟩ := held_of (x := 0) ⟨kvs, dct_dK hh, hk⟩
  rw [k1]
  simp only
  rw [k2]
  by_cases c : (0 : Int) ∈ (gmAt b over most ys L).ranks.2
  · rw [decide_eq_true c, if_pos rfl]
    unfold cSortDBM
    simp only [dct_dK hh]
    refine ⟨_, hk, fun zs hp' hs' p2 hp2 => ?_⟩
    have := (srt_perm (nd_lt (ranks_lt _)) hp' hs').uniq ⟨ranks_lt _, fun k => Iff.rfl⟩ fun _ => Iff.rfl
    rw [this]
    have np : S p2 = none := by
      cases e : S p2 with
      | none => rfl
      | some m => rw [g3 _ _ (g2 _ _ e)] at hp2; cases hp2
    refine q1 c p2 _ (fun a m ha => ?_) np supd_same
    rw [supd_ne (fun z => by subst z; rw [np] at ha; cases ha)]
    exact g3 _ _ (g2 _ _ ha)
  · rw [decide_eq_false c, if_neg (by simp)]
    exact q0 c _ (g2.trans g3)
theorem vc_shows_enoughO : goal_shows_enoughO := by
  rintro x0 x1 x2 x3 x4 x5 x6 S P ⟨b, over, most, ws, ms, ys, x, d, L, e, ft, hx, ht, q⟩
  cases e
  unfold rd_shows_enoughO
  have b0 := ft.gm.b0; have b1 := ft.gm.b1; have l1 := ft.lag
  have b0' : 2 ≤ b := b0
  have b1' : b ≤ 16 := b1
  walk_at "dg7s"
  intro p hp
  refine ⟨p, b, over, most, L, ws, ms, rfl, supd_at, ft.ok, by omega, b1', ft.o0, ft.o1, by omega, by omega, fun g S2 e1 e2 e3 e4 hga hold => ⟨rfl, ?_⟩⟩
  have eg : g = gmAt b over most ys L := by
    have := e4.uniq ft.srt fun _ => Iff.rfl
    obtain ⟨gb, gw, gs, gsu⟩ := g
    simp only at e1 e2 e3 this
    unfold gmAt
    rw [e1, e2, e3, this]; rfl
  subst eg
  have g2 : Grown S S2 := fun a m ha => by
    have ne : a ≠ p := fun z => by rw [z, hp] at ha; cases ha
    exact hold a m ne ((supd_ne ne).trans ha)
  have fm := ft.gm
  have ff : (gmAt b over most ys L).rests.length * (gmAt b over most ys L).sums.length ≤ 99999 := ft.few
  generalize gmAt b over most ys L = g at hga fm ff q
  have hx2 := shw_grown hx ht g2
  clear hx
  walk_at "dg7s"
  refine shw_isl hx2 ht ?_
  cases d with
  | lst es =>
    obtain ⟨hxl, hte⟩ := ht
    obtain ⟨hq1, hq2⟩ := shw_lst hx2
    walk_at "dg7s"
    unfold dLc dItSeq
    walk_at "dg7s"
    simp only [hq2]
    refine lcN_bools (okE g.gr) (by omega) shw_pin (fun e he => ⟨_, rfl, fun Q qq => ?_⟩) ?_
    · have te := hte e he
      walk_at "dg7"
      refine ⟨e, rfl, te, ?_⟩
      cases e with
      | int r =>
        walk_at "dg7"
        rw [g_mth hga (f := Str.ofString "is_lost") rfl]
        refine ⟨p, _, r, rfl, hga, fm, te, ?_⟩
        walk_at "dg7"
        rw [show (!decide (g.gr < (r.natAbs : Int))) = decide ((r.natAbs : Int) ≤ g.gr) by rw [Bool.eq_iff_iff]; simp]
        exact qq
      | ext _ => cases te
      | obj _ => cases te
      | ty _ => cases te
      | tq _ => cases te
      | _ => walk_at "dg7"; exact qq
    unfold cAll
    simp only [lstOf, Option.bind]
    rw [dBools_mapF]
    simp only [List.all_map]
    have hq : ∀ c : Bool, (es.all (okE g.gr)) = c → (es.all (id ∘ okE g.gr)) = c := fun c h => h
    cases ca : es.all (okE g.gr) with
    | false =>
      rw [hq _ ca]
      walk_at "dg7s"
      have z := q S2 g2
      unfold papB at z
      dsimp only at z
      rw [ca, Bool.false_and] at z
      exact z
    | true =>
      rw [hq _ ca]
      walk_at "dg7s"
      have ei := ok_ints ca
      obtain ⟨xs, hxs⟩ : ∃ xs, xs = es.map intE := ⟨_, rfl⟩
      rw [← hxs] at ei
      subst ei
      rw [papB_ints] at q
      rw [List.length_map] at hxl
      have ca : xs.all (fun r => decide ((r.natAbs : Int) ≤ g.gr)) = true := by
        rw [List.all_map] at ca
        exact ca
      have hxb : ∀ x ∈ xs, x.natAbs < 2 ^ 40 := fun r hr => hte _ (List.mem_map.mpr ⟨r, hr, rfl⟩)
      unfold dDc
      walk_at "dg7s"
      simp only [hq2]
      refine dc_keysN xs rfl hxl shw_pin (fun i r hr => ⟨_, rfl, fun K N hK => ?_⟩) fun kvs hks ph hph pk hpk => ?_
      · walk_at "dg7"
        exact hK _
      · obtain ⟨ks, kk1, knd, kmem, klen⟩ := hks
        have nkh : pk ≠ ph := fun z => by rw [z, supd_at] at hpk; cases hpk
        have hpk0 : S2 pk = none := by rwa [supd_ne nkh] at hpk
        have np : p ≠ ph := Grown.ne hga hph
        have back : ∀ a, S2 a = none → S a = none := fun a ha => by
          cases e : S a with
          | none => rfl
          | some m => rw [g2 _ _ e] at ha; cases ha
        have phn := back _ hph
        have pkn := back _ hpk0
        have npk : p ≠ pk := Grown.ne hga hpk0
        have lk : kvs.length = ks.length := by simpa using congrArg List.length kk1
        have inR : ∀ r ∈ ks, r ∈ g.rests := fun r hr => by
          have := of_decide_eq_true (List.all_eq_true.mp ca r ((kmem r).mp hr))
          unfold Gm.rests
          rw [mem_irg]; omega
        have lr : ks.length ≤ g.rests.length := nd_sub_len knd inR
        have lm : ks.length * g.sums.length ≤ 99999 := Nat.le_trans (Nat.mul_le_mul_right _ lr) ff
        have rl := rests_len fm
        have hres : (decide (0 ∈ ks) && ks.all (g.safe ks)) = g.shows xs := by
          unfold Gm.shows
          rw [ca, Bool.true_and, all_congr kmem]
          congr 1
          · by_cases c : (0 : Int) ∈ ks
            · rw [decide_eq_true c, decide_eq_true ((kmem 0).mp c)]
            · rw [decide_eq_false c, decide_eq_false fun z => c ((kmem 0).mpr z)]
          · congr 1
            funext r
            exact safe_congr g kmem r
        rw [← hres] at q
        have hph1 : supd (supd S2 ph (.dK kvs)) pk (.dK []) ph = some (.dK kvs) := (supd_ne nkh.symm).trans supd_at
        obtain ⟨kvs', k1, k2⟩ := held_of (x := 0) ⟨kvs, dct_dK hph1, kk1⟩
        rw [k1]
        simp only
        rw [k2]
        by_cases c : (0 : Int) ∈ ks
        · rw [decide_eq_true c, if_pos rfl]
          rw [decide_eq_true c, Bool.true_and] at q
          refine .inr ⟨ph, kvs, hph1, fun o vs => ?_⟩
          have hgp : ∀ kk, GAt (supd (supd (supd (supd S2 ph (.dK kvs)) pk (.dK [])) ph (.dZ o vs kvs)) pk (.dK kk)) p g := fun kk => by
            unfold GAt
            rw [supd_ne npk, supd_ne np, supd_ne npk, supd_ne np]
            exact hga
          walk_at "dg7"
          refine ⟨ph, o, vs, _, rfl, supd_at, ?_⟩
          have hds : (kvs.map fun kv => kD kv.1) = ks.map D.int := by
            rw [show (kvs.map fun kv => kD kv.1) = (kvs.map (·.1)).map kD by rw [List.map_map]; rfl, kk1, List.map_map]
            rfl
          refine lcp_ints ks hds (by omega) (fun _ => true) (fun r => .bl (g.safe ks r)) (fun i S6 => ∃ kk, KnOk g ks kk ∧ kk.length ≤ i * g.sums.length ∧ S6 = supd (supd (supd (supd S2 ph (.dK kvs)) pk (.dK [])) ph (.dZ o vs kvs)) pk (.dK kk))
            ⟨[], fun _ h => by simp at h, by simp, ?_⟩ (fun i S6 h => by obtain ⟨kk, _, _, rfl⟩ := h; exact (supd_ne nkh.symm).trans supd_at) (fun i r S6 hr hs => ?_) fun S6 hs => ?_
          · funext a
            unfold supd
            by_cases c1 : a = pk
            · rw [if_pos c1]
              rw [if_neg (fun z => nkh (c1.symm.trans z)), if_pos c1]
            · rw [if_neg c1, if_neg c1]
          · obtain ⟨kk, hkk, hkl, rfl⟩ := hs
            have hi := (List.getElem?_eq_some_iff.mp hr).1
            refine ⟨_, rfl, fun K N hK hN => ?_⟩
            walk_at "dg7"
            rw [g_mth (hgp kk) (f := Str.ofString "first_fatal") rfl]
            have hmul : (i + 1) * g.sums.length ≤ ks.length * g.sums.length := Nat.mul_le_mul_right _ hi
            rw [Nat.add_mul, Nat.one_mul] at hmul
            refine ⟨p, pk, ph, g, ks, r, kk, rfl, hgp kk, fm, ⟨kvs, (dct_supd nkh.symm).trans (dct_dZ supd_at), kk1⟩, nkh.symm, hxb r ((kmem r).mp (List.mem_of_getElem? hr)), supd_at, hkk, by omega, fun kk' h1 h2 => ?_⟩
            show K (D.bl (DL.isNon (optI (g.fatal ks r)))) _
            rw [isNon_optI]
            refine hK rfl _ ⟨kk', h1, by rw [Nat.add_mul, Nat.one_mul]; omega, ?_⟩
            rw [supd_supd]
          · obtain ⟨kk, hkk, hkl, rfl⟩ := hs
            rw [List.filter_eq_self.mpr (fun _ _ => rfl)]
            refine ⟨(supd_ne nkh.symm).trans supd_at, ?_⟩
            simp only [Option.bind]
            rw [dBools_mapF]
            simp only [List.all_map]
            exact q _ (((((g2.again phn).again pkn).again phn).again pkn).again phn)
        · rw [decide_eq_false c, if_neg (by simp)]
          rw [decide_eq_false c, Bool.false_and] at q
          exact q _ ((g2.again phn).again pkn)
  | _ =>
    walk_at "dg7s"
    first | exact q S2 g2 | (exact ht.elim)
local macro_rules | `(tactic| walk_at "dg5") => `(tactic| try simp only [isiG_non_dict, isiG_bl_dict, isiG_int_dict, isiG_str_dict, isiG_lst_dict, isiG_tup_dict, isiG_non_bs, isiG_bl_bs, isiG_int_bs, isiG_str_bs, isiG_lst_bs, isiG_tup_bs, dCall, dNewD, dDisp, dPrs, dkvsOf, dDGet, dDIn, dDGet1, dDGet2, dDPut, dDPop1, dDPop2, dDUpd, cLenD, cListD, cListDM, cDictD, cDictP, cSortDB, cSortL, dBack, dItKeys, dItItems, dItVals, keyOf_int, keyOf_str, dDc, dDc2, dLstR1, dLstR2, dFld, dSetFld, dFldAdd, dMeth, dMake, dMakeK, dFld2, put_tl, dSeq, dSet, dPar, dOp, dUn, dVar, dC, dCB, dCons, dNil, dTup, dLst, dLstM, dIfS, dIf, dTest, dNot, dAnd, dOr, dAndV, dOrV, dNotV, dRet, dRetN, dEnd, dNext, dAdd, dSub, dMul, dFdiv, dMod, dPow, dNeg, dLt, dLe, dGt, dGe, dEq, dNe, eqB_ii, eqB_bb, eqB_ss, eqB_nn, eqB_ni, eqB_in, eqB_ns, eqB_sn, eqB_is, eqB_si, eqB_nb, eqB_bn, dIx, dIn, dIsN, dNotN, DL.isNon, cAbs, cMax2, cMin2, cInt, cLen, cList, cTuple, dIsB, dNotB, dPar3, ForN, LcN, pinOf, pin2, dEnum2, dAppend, supd_same0, isi_non_int, isi_non_bool, isi_non_str, isi_non_list, isi_non_tuple, isi_non_lt, isi_bl_int, isi_bl_bool, isi_bl_str, isi_bl_list, isi_bl_tuple, isi_bl_lt, isi_int_int, isi_int_bool, isi_int_str, isi_int_list, isi_int_tuple, isi_int_lt, isi_str_int, isi_str_bool, isi_str_str, isi_str_list, isi_str_tuple, isi_str_lt, isi_lst_int, isi_lst_bool, isi_lst_str, isi_lst_list, isi_lst_tuple, isi_lst_lt, isi_tup_int, isi_tup_bool, isi_tup_str, isi_tup_list, isi_tup_tuple, isi_tup_lt, dAug, dIAdd, dIMul, dDrop, dSl, dPart, dNoPart, dRevL, dCallK, dChainR, dAsg, put_nm, put_tp, put_tl, putL_nil, putL_cons, Option.bind, seqOf, lstOf, dFor, dLc, dLcM, dItSeq, dZip, dZipS, dEnum, dRng1, dRng2, dYes, dwipe, Tgt.slots, Tgt.slotsL,
  atI_0, atI_1, atI_2, atI_3, List.getElem?_cons_zero, List.getElem?_cons_succ, List.set_cons_zero, List.set_cons_succ, decide_eq_true_eq, List.length_cons, List.length_nil, List.cons_append, List.nil_append, List.append_nil, ofString_inj, String.reduceEq, decide_true, decide_false, reduceIte, Bool.false_eq_true, Bool.not_true, Bool.not_false, eqFlat, isFlat, List.any_cons, List.any_nil, List.all_cons, List.all_nil, Bool.or_false, Bool.or_true, Bool.false_or, Bool.true_or, Bool.and_true, Bool.true_and, true_and, and_true, Nat.reduceAdd, Nat.reduceLeDiff, Int.reduceLT, Int.reduceLE, Int.reduceNeg])
/-- a set of rests that one can stay in -/
structure Stay (g : Gm) (T : Int → Prop) : Prop where
  z : T 0
  bd : ∀ r, T r → -g.gr ≤ r ∧ r ≤ g.gr
  st : ∀ r, T r → ∀ s ∈ g.sums, ∃ f, -g.w ≤ f ∧ f ≤ g.w ∧ T (g.b * r + s - f * g.st)
theorem safe_iff (g : Gm) (H : List Int) (r : Int) : g.safe H r = true ↔ ∀ s ∈ g.sums, ∃ x ∈ g.led (g.b * r + s), x ∈ H := by
  unfold Gm.safe Gm.fatal
  rw [Option.isNone_iff_eq_none, List.find?_eq_none]
  constructor
  · intro h s hs
    have := h s hs
    unfold Gm.heldB at this
    simp only [Bool.not_eq_true', Bool.not_eq_false, List.any_eq_true, decide_eq_true_eq] at this
    exact this
  · intro h s hs
    unfold Gm.heldB
    simp only [Bool.not_eq_true', Bool.not_eq_false, List.any_eq_true, decide_eq_true_eq]
    exact h s hs
theorem ranksN_safe (g : Gm) : ∀ (n : Nat) (found : List (Int × Int × Int)) (H : List Int) (k : Int), H.length + 1 ≤ n → ∀ r ∈ (g.ranksN n found H k).2, g.safe (g.ranksN n found H k).2 r = true
  | 0, found, H, k, h => by omega
  | n + 1, found, H, k, h => by
    unfold Gm.ranksN
    by_cases e : H.all (g.safe H) = true
    · rw [if_pos e]
      exact fun r hr => List.all_eq_true.mp e r hr
    · rw [if_neg e]
      have := filter_lt e
      exact ranksN_safe g n _ _ _ (by omega)
theorem ranks_safe (g : Gm) : ∀ r ∈ g.ranks.2, g.safe g.ranks.2 r = true := ranksN_safe g _ _ _ _ (Nat.le_refl _)
theorem rests_mem {g : Gm} {r : Int} : r ∈ g.rests ↔ -g.gr ≤ r ∧ r ≤ g.gr := by
  unfold Gm.rests
  rw [mem_irg]; omega
theorem ranks_stay {g : Gm} (h0 : 0 < g.st) (h : 0 ∈ g.ranks.2) : Stay g fun r => r ∈ g.ranks.2 := by
  refine ⟨h, fun r hr => rests_mem.mp (ranks_sub g r hr), fun r hr s hs => ?_⟩
  obtain ⟨x, hx, hm⟩ := (safe_iff g _ r).mp (ranks_safe g r hr) s hs
  obtain ⟨f, f0, f1, rfl, _⟩ := (mem_led h0).mp hx
  exact ⟨f, f0, f1, hm⟩
/-- sums as they come of shares: sorted, with nought, there and back -/
structure Even (g : Gm) : Prop where
  lt : g.sums.Pairwise (· < ·)
  z : 0 ∈ g.sums
  neg : ∀ s ∈ g.sums, -s ∈ g.sums
theorem le_last : ∀ {ys : List Int}, ys.Pairwise (· < ·) → ∀ s ∈ ys, s ≤ ys.getLastD 0
  | [], _, s, h => by simp at h
  | [a], _, s, h => by simp at h; subst h; simp
  | a :: b :: l, hp, s, h => by
    rw [List.pairwise_cons] at hp
    have ih := le_last (ys := b :: l) hp.2
    have e : (a :: b :: l).getLastD 0 = (b :: l).getLastD 0 := by
      rw [List.getLastD_eq_getLast?, List.getLastD_eq_getLast?, List.getLast?_cons_cons]
    rw [e]
    rcases List.mem_cons.mp h with rfl | h
    · have := hp.1 b (by simp)
      have := ih b (by simp)
      omega
    · exact ih s h
theorem Even.le {g : Gm} (h : Even g) : ∀ s ∈ g.sums, -g.top ≤ s ∧ s ≤ g.top := fun s hs => by
  have h1 := le_last h.lt s hs
  have h2 := le_last h.lt _ (h.neg s hs)
  unfold Gm.top
  omega
end Lb

namespace K35
open PySem PySem.Spec PyProof.Rows L2 DL Lb
variable [CT]
local macro_rules | `(tactic| walk_at "dg7") => `(tactic| try simp only [dWk, weakD_tq, weakD_tup, weakD_int, weakD_non, weakD_str, weakD_bl, weakD_obj, weakD_lst, weakL_nil, weakL_cons, weakL_ints, dTupQ, cTupleQ, dTNew, dTOne, dTPut, dTGet, dTIn, dTKeys, dTItems, dTKeysU, dTItemsU, tuD,  dFrzT, cListT, cLenT, isiG_non_dict, isiG_bl_dict, isiG_int_dict, isiG_str_dict, isiG_lst_dict, isiG_tup_dict, isiG_non_bs, isiG_bl_bs, isiG_int_bs, isiG_str_bs, isiG_lst_bs, isiG_tup_bs, dCall, dNewD, dDisp, dPrs, dkvsOf, dDGet, dDIn, dDGet1, dDGet2, dDPut, dDPop1, dDPop2, dDUpd, cLenD, cListD, cListDM, cDictD, cDictP, cSortDB, cSortL, dBack, dClear, dJoin, dLenO, dSlT, dSortIt, dItKeys, dItItems, dItVals, keyOf_int, keyOf_str, dDc, dDc2, dLstR1, dLstR2, dFld, dSetFld, dFldAdd, dMeth, dMake, dMakeK, dFld2, put_tl, dSeq, dSet, dPar, dOp, dUn, dVar, dC, dCB, dCons, dNil, dTup, dLst, dLstM, dIfS, dIf, dTest, dNot, dAnd, dOr, dAndV, dOrV, dNotV, dRet, dRetN, dEnd, dNext, dAdd, dSub, dMul, dFdiv, dMod, dPow, dNeg, dLt, dLe, dGt, dGe, dEq, dNe, eqB_ii, eqB_bb, eqB_ss, eqB_nn, eqB_ni, eqB_in, eqB_ns, eqB_sn, eqB_is, eqB_si, eqB_nb, eqB_bn, dIx, dIn, dIsN, dNotN, DL.isNon, cAbs, cMax2, cMin2, cInt, cLen, cList, cTuple, dIsB, dNotB, dPar3, ForN, LcN, pinOf, pin2, dEnum2, dAppend, supd_same0, isi_non_int, isi_non_bool, isi_non_str, isi_non_list, isi_non_tuple, isi_non_lt, isi_bl_int, isi_bl_bool, isi_bl_str, isi_bl_list, isi_bl_tuple, isi_bl_lt, isi_int_int, isi_int_bool, isi_int_str, isi_int_list, isi_int_tuple, isi_int_lt, isi_str_int, isi_str_bool, isi_str_str, isi_str_list, isi_str_tuple, isi_str_lt, isi_lst_int, isi_lst_bool, isi_lst_str, isi_lst_list, isi_lst_tuple, isi_lst_lt, isi_tup_int, isi_tup_bool, isi_tup_str, isi_tup_list, isi_tup_tuple, isi_tup_lt, dAug, dIAdd, dIMul, dDrop, dSl, dPart, dNoPart, dRevL, dCallK, dChainR, dAsg, put_nm, put_tp, put_tl, putL_nil, putL_cons, Option.bind, seqOf, lstOf, dFor, dLc, dLcM, dItSeq, dZip, dZipS, dEnum, dRng1, dRng2, dYes, dwipe, Tgt.slots, Tgt.slotsL,
  atI_0, atI_1, atI_2, atI_3, List.getElem?_cons_zero, List.getElem?_cons_succ, List.set_cons_zero, List.set_cons_succ, decide_eq_true_eq, List.length_cons, List.length_nil, List.cons_append, List.nil_append, List.append_nil, ofString_inj, String.reduceEq, decide_true, decide_false, reduceIte, Bool.false_eq_true, Bool.not_true, Bool.not_false, eqFlat, isFlat, List.any_cons, List.any_nil, List.all_cons, List.all_nil, Bool.or_false, Bool.or_true, Bool.false_or, Bool.true_or, Bool.and_true, Bool.true_and, true_and, and_true, Nat.reduceAdd, Nat.reduceLeDiff, Int.reduceLT, Int.reduceLE, Int.reduceNeg])
local macro_rules | `(tactic| walk_at "dg7s") => `(tactic| try simp only [dWk, weakD_tq, weakD_tup, weakD_int, weakD_non, weakD_str, weakD_bl, weakD_obj, weakD_lst, weakL_nil, weakL_cons, weakL_ints, dTupQ, cTupleQ, dTNew, dTOne, dTPut, dTGet, dTIn, dTKeys, dTItems, dTKeysU, dTItemsU, tuD,  dFrzT, cListT, cLenT, isiG_non_dict, isiG_bl_dict, isiG_int_dict, isiG_str_dict, isiG_lst_dict, isiG_tup_dict, isiG_non_bs, isiG_bl_bs, isiG_int_bs, isiG_str_bs, isiG_lst_bs, isiG_tup_bs, dCall, dNewD, dDisp, dPrs, dkvsOf, dDGet, dDIn, dDGet1, dDGet2, dDPut, dDPop1, dDPop2, dDUpd, cLenD, cListD, cListDM, cDictD, cDictP, cSortDB, cSortL, dBack, dClear, dJoin, dLenO, dSlT, dSortIt, dItKeys, dItItems, dItVals, keyOf_int, keyOf_str, dDc2, dLstR1, dLstR2, dFld, dSetFld, dFldAdd, dMeth, dMake, dMakeK, dFld2, put_tl, dSeq, dSet, dPar, dOp, dUn, dVar, dC, dCB, dCons, dNil, dTup, dLst, dLstM, dIfS, dIf, dTest, dNot, dAnd, dOr, dAndV, dOrV, dNotV, dRet, dRetN, dEnd, dNext, dAdd, dSub, dMul, dFdiv, dMod, dPow, dNeg, dLt, dLe, dGt, dGe, dEq, dNe, eqB_ii, eqB_bb, eqB_ss, eqB_nn, eqB_ni, eqB_in, eqB_ns, eqB_sn, eqB_is, eqB_si, eqB_nb, eqB_bn, dIx, dIn, dIsN, dNotN, DL.isNon, cAbs, cMax2, cMin2, cInt, cList, cTuple, dIsB, dNotB, dPar3, dEnum2, dAppend, supd_same0, isi_non_int, isi_non_bool, isi_non_str, isi_non_list, isi_non_tuple, isi_non_lt, isi_bl_int, isi_bl_bool, isi_bl_str, isi_bl_list, isi_bl_tuple, isi_bl_lt, isi_int_int, isi_int_bool, isi_int_str, isi_int_list, isi_int_tuple, isi_int_lt, isi_str_int, isi_str_bool, isi_str_str, isi_str_list, isi_str_tuple, isi_str_lt, isi_lst_int, isi_lst_bool, isi_lst_str, isi_lst_list, isi_lst_tuple, isi_lst_lt, isi_tup_int, isi_tup_bool, isi_tup_str, isi_tup_list, isi_tup_tuple, isi_tup_lt, dAug, dIAdd, dIMul, dDrop, dSl, dPart, dNoPart, dRevL, dCallK, dChainR, dAsg, put_nm, put_tp, put_tl, putL_nil, putL_cons, Option.bind, dRng1, dRng2, dYes, dwipe, Tgt.slots, Tgt.slotsL,
  atI_0, atI_1, atI_2, atI_3, List.getElem?_cons_zero, List.getElem?_cons_succ, List.set_cons_zero, List.set_cons_succ, decide_eq_true_eq, List.length_cons, List.length_nil, List.cons_append, List.nil_append, List.append_nil, ofString_inj, String.reduceEq, decide_true, decide_false, reduceIte, Bool.false_eq_true, Bool.not_true, Bool.not_false, List.any_cons, List.any_nil, List.all_cons, List.all_nil, Bool.or_false, Bool.or_true, Bool.false_or, Bool.true_or, Bool.and_true, Bool.true_and, true_and, and_true, Nat.reduceAdd, Nat.reduceLeDiff, Int.reduceLT, Int.reduceLE, Int.reduceNeg])
def sp_is_number : DSp := sp_is_numberO
def sp_Game_is_lost : DSp := sp_Game_is_lostE
def sp_enough_paper : DSp := sp_enough_paperO
def sp_shows_enough : DSp := sp_shows_enoughO
def spr_LsameO : Nat → DSp
  | 0 => fun _ _ _ => False
  | n + 1 => fun ds S P => ∃ x y d : D, ds = [x, y] ∧ shwO S x = d ∧ shwO S y = d ∧ Plain n d ∧ P (.bl true) S
def spr_Lsame : Nat → DSp := spr_LsameO
def sp_Lsame : DSp := spr_LsameO 6
def sp_Lis_paper : DSp := fun ds S P => ∃ (q : Addr) (g : Gm) (x d : D), ds = [.obj q, x] ∧ RuAt S q g ∧ GmOk g ∧ shwO S x = d ∧ TmP 60000 d ∧ ∀ S', Grown S S' → P (.bl (papB g d)) S'
/-- what is chosen of those held -/
structure Chs (g : Gm) (H xs : List Int) : Prop where
  sub : ∀ x, x ∈ xs → x ∈ H
  nd : xs.Nodup
  z : 0 ∈ xs
  cl : ∀ r, r ∈ xs → ∀ s, s ∈ g.sums → ∃ x, x ∈ leadsQ g (g.b * r + s) ∧ x ∈ xs
/-- those held -/
structure HdOk (g : Gm) (H : List Int) : Prop where
  sub : ∀ x, x ∈ H → x ∈ g.rests
  z : 0 ∈ H
  few : H.length * (g.sums.length + 1) ≤ 99000
  cl : ∀ r, r ∈ H → ∀ s, s ∈ g.sums → ∃ x, x ∈ leadsQ g (g.b * r + s) ∧ x ∈ H
def sp_Lchosen : DSp := fun ds S P => ∃ (p q h : Addr) (n : Nat) (g : Gm) (H : List Int), ds = [.obj p, .obj q, .obj h] ∧ BoxAt S p n ∧ n ≤ 100000 ∧ RuAt S q g ∧ GmOk g ∧ HeldAt S h H ∧ HdOk g H ∧ q ≠ p ∧ h ≠ p ∧ ∀ xs S', Chs g H xs → Dk S S' p (n + 1) → P (.lst (xs.map .int)) S'
/-- an entry that may come in a paper -/
def OddE (e : D) : Prop := (∃ i : Int, e = .int i ∧ i.natAbs ≤ 1000000000) ∨ e ∈ [D.bl true, .non, .str "0", .tup [.int 0], .lst [.int 0], .bl false]
def OddP (N : Nat) (d : D) : Prop := ∃ es : List D, (d = .lst es ∨ d = .tup es) ∧ es.length ≤ N ∧ ∀ e, e ∈ es → OddE e
def sp_Lotherwise : DSp := fun ds S P => ∃ (p q : Addr) (n N : Nat) (x : D) (es : List D), ds = [.obj p, .obj q, x] ∧ BoxAt S p n ∧ n ≤ 100000 ∧ N ≤ 90000 ∧ shwO S x = .lst es ∧ es.length ≤ N ∧ (∀ e, e ∈ es → OddE e) ∧ ∀ y d S', shwO S' y = d → OddP (N + 2) d → y ≠ .obj p → Dk S S' p (n + 20) → P y S'
def sp_Lright : DSp := fun ds S P => ∃ (p : Addr) (n : Nat), ds = [.obj p] ∧ BoxAt S p n ∧ n ≤ 100 ∧ ∀ S', P (.bl true) S'
/-- is_number(thing): slots 0 thing -/
def rd_is_number : DS :=
  (dRet (dAndV (dCB cIsi (dCons (dVar 0) (dCons (dC (.ty "int")) dNil))) (dNotV (dCB cIsi (dCons (dVar 0) (dCons (dC (.ty "bool")) dNil))))))
def goal_is_number : Prop := ∀ (x0 : D) (S : Store) (P : D → Store → Prop), sp_is_number [x0] S P → rd_is_number (dEnd P) [some x0] S

/-- power(base, many): slots 0 base, 1 many, 2 found, 3 turn -/
def rd_power : DS :=
  (dSeq (dSet 2 (dC (.int 1)))
  (dSeq (dFor (dRng1 (dCons (dCB cAbs (dCons (dVar 1) dNil)) dNil)) (.nm 3) (dAug 2 dIMul (dVar 0)))
  (dRet (dIf (dTest (dOp dGe (dVar 1) (dC (.int 0)))) (dTup (dCons (dVar 2) (dCons (dC (.int 1)) dNil))) (dTup (dCons (dC (.int 1)) (dCons (dVar 2) dNil)))))))
def goal_power : Prop := ∀ (x0 x1 : D) (S : Store) (P : D → Store → Prop), sp_power [x0, x1] S P → rd_power (dEnd P) [some x0, some x1, none, none] S

/-- sums_of(weights, mosts): slots 0 weights, 1 mosts, 2 found, 3 weight, 4 most, 5 one, 6 figure -/
def rd_sums_of : DS :=
  (dSeq (dSet 2 (dDisp [((dC (.int 0)), (dC (.bl true)))]))
  (dSeq (dFor (dZipS (dCons (dVar 0) (dCons (dVar 1) dNil))) (.tp [(.nm 3), (.nm 4)]) (dLock (dSet 2 (dDc2 (dItKeys (dVar 2)) (.nm 5) dYes (dRng2 (dCons (dUn dNeg (dVar 4)) (dCons (dOp dAdd (dVar 4) (dC (.int 1))) dNil))) (.nm 6) dYes (dOp dAdd (dVar 5) (dOp dMul (dVar 3) (dVar 6))) (dC (.bl true))))))
  (dRet (dCB cSortDB (dCons (dVar 2) dNil)))))
def goal_sums_of : Prop := ∀ (x0 x1 : D) (S : Store) (P : D → Store → Prop), sp_sums_of [x0, x1] S P → rd_sums_of (dEnd P) [some x0, some x1, none, none, none, none, none] S

/-- Game.__init__(self, base, weights, over, mosts, most, lag): slots 0 self, 1 base, 2 weights, 3 over, 4 mosts, 5 most, 6 lag -/
def rd_Game_init : DS :=
  (dSeq (dSetFld 3 "own_base" (dVar 0) (dVar 1))
  (dSeq (dSetFld 3 "own_most" (dVar 0) (dVar 5))
  (dSeq (dSetFld 3 "own_step" (dVar 0) (dOp dMul (dVar 3) (dOp dIx (dCB sp_power (dCons (dVar 1) (dCons (dVar 6) dNil))) (dC (.int 0)))))
  (dSetFld 3 "own_sums" (dVar 0) (dCB sp_sums_of (dCons (dVar 2) (dCons (dVar 4) dNil)))))))
def goal_Game_init : Prop := ∀ (x0 x1 x2 x3 x4 x5 x6 : D) (S : Store) (P : D → Store → Prop), sp_Game_init [x0, x1, x2, x3, x4, x5, x6] S P → rd_Game_init (dEnd P) [some x0, some x1, some x2, some x3, some x4, some x5, some x6] S

/-- Game.is_lost(self, rest): slots 0 self, 1 rest -/
def rd_Game_is_lost : DS :=
  (dRet (dOp dGt (dOp dAdd (dOp dMul (dOp dSub (dFld 3 "own_base" (dVar 0)) (dC (.int 1))) (dCB cAbs (dCons (dVar 1) dNil))) (dOp dIx (dFld 3 "own_sums" (dVar 0)) (dUn dNeg (dC (.int 1))))) (dOp dMul (dFld 3 "own_step" (dVar 0)) (dFld 3 "own_most" (dVar 0)))))
def goal_Game_is_lost : Prop := ∀ (x0 x1 : D) (S : Store) (P : D → Store → Prop), sp_Game_is_lost [x0, x1] S P → rd_Game_is_lost (dEnd P) [some x0, some x1] S

/-- Game.greatest(self): slots 0 self -/
def rd_Game_greatest : DS :=
  (dRet (dOp dFdiv (dOp dSub (dOp dMul (dFld 3 "own_step" (dVar 0)) (dFld 3 "own_most" (dVar 0))) (dOp dIx (dFld 3 "own_sums" (dVar 0)) (dUn dNeg (dC (.int 1))))) (dOp dSub (dFld 3 "own_base" (dVar 0)) (dC (.int 1)))))
def goal_Game_greatest : Prop := ∀ (x0 : D) (S : Store) (P : D → Store → Prop), sp_Game_greatest [x0] S P → rd_Game_greatest (dEnd P) [some x0] S

/-- Game.rests(self): slots 0 self -/
def rd_Game_rests : DS :=
  (dRet (dLstR2 (dUn dNeg (dMeth 3 "greatest" sp_Game_greatest (dVar 0) dNil)) (dOp dAdd (dMeth 3 "greatest" sp_Game_greatest (dVar 0) dNil) (dC (.int 1)))))
def goal_Game_rests : Prop := ∀ (x0 : D) (S : Store) (P : D → Store → Prop), sp_Game_rests [x0] S P → rd_Game_rests (dEnd P) [some x0] S

/-- Game.look(self): slots 0 self, 1 many -/
def rd_Game_look : DS :=
  (dSeq (dSet 1 (dCB cMax2 (dCons (dC (.int 0)) (dCons (dOp dAdd (dOp dMul (dC (.int 2)) (dMeth 3 "greatest" sp_Game_greatest (dVar 0) dNil)) (dC (.int 1))) dNil))))
  (dIfS (dTest (dOp dGt (dVar 1) (dC (.int 2000)))) dNever dNext))
def goal_Game_look : Prop := ∀ (x0 : D) (S : Store) (P : D → Store → Prop), sp_Game_look [x0] S P → rd_Game_look (dEnd P) [some x0, none] S

/-- Game.led_to(self, ahead): slots 0 self, 1 ahead, 2 least, 3 most, 4 figure -/
def rd_Game_led_to : DS :=
  (dSeq (dSet 2 (dCB cMax2 (dCons (dUn dNeg (dFld 3 "own_most" (dVar 0))) (dCons (dUn dNeg (dOp dFdiv (dOp dSub (dMeth 3 "greatest" sp_Game_greatest (dVar 0) dNil) (dVar 1)) (dFld 3 "own_step" (dVar 0)))) dNil))))
  (dSeq (dSet 3 (dCB cMin2 (dCons (dFld 3 "own_most" (dVar 0)) (dCons (dOp dFdiv (dOp dAdd (dVar 1) (dMeth 3 "greatest" sp_Game_greatest (dVar 0) dNil)) (dFld 3 "own_step" (dVar 0))) dNil))))
  (dRet (dLc (dRng2 (dCons (dVar 2) (dCons (dOp dAdd (dVar 3) (dC (.int 1))) dNil))) (.nm 4) dYes (dOp dSub (dVar 1) (dOp dMul (dVar 4) (dFld 3 "own_step" (dVar 0))))))))
def goal_Game_led_to : Prop := ∀ (x0 x1 : D) (S : Store) (P : D → Store → Prop), sp_Game_led_to [x0, x1] S P → rd_Game_led_to (dEnd P) [some x0, some x1, none, none, none] S

/-- Game.is_held(self, rest, sum_now, held): slots 0 self, 1 rest, 2 sum_now, 3 held, 4 one -/
def rd_Game_is_held : DS :=
  (dRet (dCB cAny (dCons (dLc (dItSeq (dMeth 3 "led_to" sp_Game_led_to (dVar 0) (dCons (dOp dAdd (dOp dMul (dFld 3 "own_base" (dVar 0)) (dVar 1)) (dVar 2)) dNil))) (.nm 4) dYes (dOp (dDIn false) (dVar 4) (dVar 3))) dNil)))
def goal_Game_is_held : Prop := ∀ (x0 x1 x2 x3 : D) (S : Store) (P : D → Store → Prop), sp_Game_is_held [x0, x1, x2, x3] S P → rd_Game_is_held (dEnd P) [some x0, some x1, some x2, some x3, none] S

/-- Game.first_fatal(self, rest, known, held): slots 0 self, 1 rest, 2 known, 3 held, 4 sum_now, 5 ahead -/
def rd_Game_first_fatal : DS :=
  (dSeq (dFor (dItSeq (dFld 3 "own_sums" (dVar 0))) (.nm 4) (dSeq (dSet 5 (dOp dAdd (dOp dMul (dFld 3 "own_base" (dVar 0)) (dVar 1)) (dVar 4)))
  (dSeq (dIfS (dTest (dOp (dDIn true) (dVar 5) (dVar 2))) (dDPut (dVar 2) (dVar 5) (dMeth 3 "is_held" sp_Game_is_held (dVar 0) (dCons (dVar 1) (dCons (dVar 4) (dCons (dVar 3) dNil))))) dNext)
  (dIfS (dNot (dTest (dOp dDGet (dVar 2) (dVar 5)))) (dRet (dVar 4)) dNext))))
  (dRet (dC .non)))
def goal_Game_first_fatal : Prop := ∀ (x0 x1 x2 x3 : D) (S : Store) (P : D → Store → Prop), sp_Game_first_fatal [x0, x1, x2, x3] S P → rd_Game_first_fatal (dEnd P) [some x0, some x1, some x2, some x3, none, none] S

/-- Game.ranks(self): slots 0 self, 1 found, 2 held, 3 rest, 4 rank, 5 known, 6 fatal, 7 gone -/
def rd_Game_ranks_1 : DS :=
  (dSeq (dSet 5 dNewD)
  (dSeq (dSet 6 (dLockE (dDc (dItKeys (dVar 2)) (.nm 3) dYes (dVar 3) (dMeth 3 "first_fatal" sp_Game_first_fatal (dVar 0) (dCons (dVar 3) (dCons (dVar 5) (dCons (dVar 2) dNil)))))))
  (dSeq (dLock (dSet 7 (dLc (dItKeys (dVar 6)) (.nm 3) (dTest (dOp dNotN (dOp dDGet (dVar 6) (dVar 3)) (dC .non))) (dVar 3))))
  (dSeq (dIfS (dTest (dOp dEq (dVar 7) (dLst dNil))) (dRet (dTup (dCons (dVar 1) (dCons (dVar 2) dNil)))) dNext)
  (dSeq (dDrop (dDUpd (dVar 1) (dDc (dItSeq (dVar 7)) (.nm 3) dYes (dVar 3) (dTup (dCons (dVar 4) (dCons (dOp dDGet (dVar 6) (dVar 3)) dNil))))))
  (dSeq (dSet 2 (dLockE (dDc (dItKeys (dVar 2)) (.nm 3) (dTest (dOp dIsN (dOp dDGet (dVar 6) (dVar 3)) (dC .non))) (dVar 3) (dC (.bl true)))))
  (dAug 4 dIAdd (dC (.int 1)))))))))
def rd_Game_ranks : DS :=
  (dSeq (dAsg (.tp [(.nm 1), (.nm 2)]) (dTup (dCons dNewD (dCons (dDc (dItSeq (dMeth 3 "rests" sp_Game_rests (dVar 0) dNil)) (.nm 3) dYes (dVar 3) (dC (.bl true))) dNil))))
  (dSeq (dSet 4 (dC (.int 0)))
  (dWhile (dTest (dC (.bl true))) rd_Game_ranks_1)))
def goal_Game_ranks : Prop := ∀ (x0 : D) (S : Store) (P : D → Store → Prop), sp_Game_ranks [x0] S P → rd_Game_ranks (dEnd P) [some x0, none, none, none, none, none, none, none] S

/-- enough_paper(base, weights, over, mosts, most, lag): slots 0 base, 1 weights, 2 over, 3 mosts, 4 most, 5 lag, 6 game, 7 held -/
def rd_enough_paper : DS :=
  (dSeq (dSet 6 (dMake 3 sp_Game_init (dCons (dVar 0) (dCons (dVar 1) (dCons (dVar 2) (dCons (dVar 3) (dCons (dVar 4) (dCons (dVar 5) dNil))))))))
  (dSeq (dDrop (dMeth 3 "look" sp_Game_look (dVar 6) dNil))
  (dSeq (dSet 7 (dOp dIx (dMeth 3 "ranks" sp_Game_ranks (dVar 6) dNil) (dC (.int 1))))
  (dRet (dIf (dTest (dOp (dDIn false) (dC (.int 0)) (dVar 7))) (dCB cSortDBM (dCons (dVar 7) dNil)) (dC .non))))))
def goal_enough_paper : Prop := ∀ (x0 x1 x2 x3 x4 x5 : D) (S : Store) (P : D → Store → Prop), sp_enough_paper [x0, x1, x2, x3, x4, x5] S P → rd_enough_paper (dEnd P) [some x0, some x1, some x2, some x3, some x4, some x5, none, none] S

/-- shows_enough(base, weights, over, mosts, most, lag, thing): slots 0 base, 1 weights, 2 over, 3 mosts, 4 most, 5 lag, 6 thing, 7 game, 8 rest, 9 held, 10 known -/
def rd_shows_enough : DS :=
  (dSeq (dSet 7 (dMake 3 sp_Game_init (dCons (dVar 0) (dCons (dVar 1) (dCons (dVar 2) (dCons (dVar 3) (dCons (dVar 4) (dCons (dVar 5) dNil))))))))
  (dSeq (dIfS (dOr (dNot (dTest (dCB cIsi (dCons (dVar 6) (dCons (dC (.ty "list")) dNil))))) (dNot (dTest (dCB cAll (dCons (dLc (dItSeq (dVar 6)) (.nm 8) dYes (dAndV (dCB sp_is_number (dCons (dVar 8) dNil)) (dNotV (dMeth 3 "is_lost" sp_Game_is_lost (dVar 7) (dCons (dVar 8) dNil))))) dNil))))) (dRet (dC (.bl false))) dNext)
  (dSeq (dAsg (.tp [(.nm 9), (.nm 10)]) (dTup (dCons (dDc (dItSeq (dVar 6)) (.nm 8) dYes (dVar 8) (dC (.bl true))) (dCons dNewD dNil))))
  (dRet (dAndV (dOp (dDIn false) (dC (.int 0)) (dVar 9)) (dCB cAll (dCons (dLockE (dLc (dItKeys (dVar 9)) (.nm 8) dYes (dOp dIsN (dMeth 3 "first_fatal" sp_Game_first_fatal (dVar 7) (dCons (dVar 8) (dCons (dVar 10) (dCons (dVar 9) dNil)))) (dC .non)))) dNil)))))))
def goal_shows_enough : Prop := ∀ (x0 x1 x2 x3 x4 x5 x6 : D) (S : Store) (P : D → Store → Prop), sp_shows_enough [x0, x1, x2, x3, x4, x5, x6] S P → rd_shows_enough (dEnd P) [some x0, some x1, some x2, some x3, some x4, some x5, some x6, none, none, none, none] S

/-- _law_cell_at(_law_script, _law_k): slots 0 _law_script, 1 _law_k -/
def rd_Lcell_at : DS :=
  (dSeq (dIfS (dTest (dOp dLt (dVar 1) (dCB cLen (dCons (dVar 0) dNil)))) (dRet (dOp dIx (dVar 0) (dVar 1))) dNext)
  (dRet (dC (.int 0))))
def goal_Lcell_at : Prop := ∀ (x0 x1 : D) (S : Store) (P : D → Store → Prop), sp_Lcell_at [x0, x1] S P → rd_Lcell_at (dEnd P) [some x0, some x1] S

/-- _law_box(_law_script, _law_k): slots 0 _law_script, 1 _law_k, 2 _law_core -/
def rd_Lbox : DS :=
  (dSeq (dSet 2 (dCB sp_Lcell_at (dCons (dVar 0) (dCons (dVar 1) dNil))))
  (dRet (dLstM (dCons (dOp dMul (dCB cAbs (dCons (dVar 2) dNil)) (dCB cInt (dCons (dOp dGe (dCB cAbs (dCons (dVar 2) dNil)) (dOp dPow (dC (.int 10)) (dC (.int 18)))) dNil))) (dCons (dOp dAdd (dOp dAdd (dOp dMod (dVar 2) (dC (.int 2305843009213693951))) (dOp dMul (dC (.int 39373)) (dVar 1))) (dC (.int 17))) (dCons (dC (.int 0)) dNil))))))
def goal_Lbox : Prop := ∀ (x0 x1 : D) (S : Store) (P : D → Store → Prop), sp_Lbox [x0, x1] S P → rd_Lbox (dEnd P) [some x0, some x1, none] S

/-- _law_take(_law_box_here, _law_size): slots 0 _law_box_here, 1 _law_size, 2 _law_found, 3 _law_once, 4 _law_twice -/
def rd_Ltake : DS :=
  (dSeq (dIfS (dTest (dOp dGt (dOp dIx (dVar 0) (dC (.int 0))) (dC (.int 0)))) (dSeq (dSet 2 (dOp dMod (dOp dIx (dVar 0) (dC (.int 0))) (dVar 1)))
  (dSeq (dSetIx (dOp dFdiv (dOp dIx (dVar 0) (dC (.int 0))) (dVar 1)) (dVar 0) (dC (.int 0)))
  (dRet (dVar 2)))) dNext)
  (dSeq (dSetIx (dOp dAdd (dOp dIx (dVar 0) (dC (.int 2))) (dC (.int 1))) (dVar 0) (dC (.int 2)))
  (dSeq (dSet 3 (dOp dMod (dOp dMul (dOp dAdd (dOp dIx (dVar 0) (dC (.int 1))) (dOp dMul (dC (.int 48271)) (dOp dIx (dVar 0) (dC (.int 2))))) (dOp dAdd (dC (.int 39373)) (dOp dIx (dVar 0) (dC (.int 2))))) (dC (.int 2147483647))))
  (dSeq (dSet 4 (dOp dMod (dOp dMul (dOp dAdd (dOp dAdd (dVar 3) (dOp dIx (dVar 0) (dC (.int 2)))) (dOp dFdiv (dOp dIx (dVar 0) (dC (.int 1))) (dC (.int 1000003)))) (dOp dAdd (dOp dMod (dVar 3) (dC (.int 40009))) (dC (.int 7)))) (dC (.int 2147483629))))
  (dRet (dOp dMod (dOp dFdiv (dOp dMod (dOp dAdd (dOp dMul (dVar 4) (dC (.int 48271))) (dVar 3)) (dC (.int 2147483587))) (dC (.int 64))) (dVar 1)))))))
def goal_Ltake : Prop := ∀ (x0 x1 : D) (S : Store) (P : D → Store → Prop), sp_Ltake [x0, x1] S P → rd_Ltake (dEnd P) [some x0, some x1, none, none, none] S

/-- _law_of(_law_box_here, _law_some): slots 0 _law_box_here, 1 _law_some -/
def rd_Lof : DS :=
  (dRet (dOp dIx (dVar 1) (dCB sp_Ltake (dCons (dVar 0) (dCons (dCB cLen (dCons (dVar 1) dNil)) dNil)))))
def goal_Lof : Prop := ∀ (x0 x1 : D) (S : Store) (P : D → Store → Prop), sp_Lof [x0, x1] S P → rd_Lof (dEnd P) [some x0, some x1] S

/-- _law_same(_law_found, _law_due): slots 0 _law_found, 1 _law_due, 2 _law_key, 3 _law_one, 4 _law_two -/
def rd_Lsame (sp_Lsame : DSp) : DS :=
  (dSeq (dIfS (dTest (dCB cIsi (dCons (dVar 1) (dCons (dC (.ty "dict")) dNil)))) dNever dNext)
  (dSeq (dIfS (dTest (dCB cIsi (dCons (dVar 1) (dCons (dTup (dCons (dC (.ty "list")) (dCons (dC (.ty "tuple")) dNil))) dNil)))) (dSeq (dIfS (dOr (dTest (dOp dNe (dCB cIsi (dCons (dVar 0) (dCons (dC (.ty "list")) dNil))) (dCB cIsi (dCons (dVar 1) (dCons (dC (.ty "list")) dNil))))) (dTest (dOp dNe (dCB cIsi (dCons (dVar 0) (dCons (dC (.ty "tuple")) dNil))) (dCB cIsi (dCons (dVar 1) (dCons (dC (.ty "tuple")) dNil)))))) (dRet (dC (.bl false))) dNext)
  (dRet (dAndV (dOp dEq (dCB cLen (dCons (dVar 0) dNil)) (dCB cLen (dCons (dVar 1) dNil))) (dCB cAll (dCons (dLc (dZip (dCons (dVar 0) (dCons (dVar 1) dNil))) (.tp [(.nm 3), (.nm 4)]) dYes (dCB sp_Lsame (dCons (dVar 3) (dCons (dVar 4) dNil)))) dNil))))) dNext)
  (dSeq (dIfS (dOr (dTest (dOp dIsN (dVar 1) (dC .non))) (dTest (dCB cIsi (dCons (dVar 1) (dCons (dTup (dCons (dC (.ty "bool")) (dCons (dC (.ty "str")) dNil))) dNil))))) (dRet (dAndV (dOp dEq (dVar 0) (dVar 1)) (dAndV (dOp dEq (dCB cIsi (dCons (dVar 0) (dCons (dC (.ty "bool")) dNil))) (dCB cIsi (dCons (dVar 1) (dCons (dC (.ty "bool")) dNil)))) (dOp dEq (dOp dIsN (dVar 0) (dC .non)) (dOp dIsN (dVar 1) (dC .non)))))) dNext)
  (dRet (dAndV (dCB cIsi (dCons (dVar 0) (dCons (dC (.ty "int")) dNil))) (dAndV (dNotV (dCB cIsi (dCons (dVar 0) (dCons (dC (.ty "bool")) dNil)))) (dOp dEq (dVar 0) (dVar 1))))))))
def goal_Lsame : Prop := ∀ (n : Nat) (x0 x1 : D) (S : Store) (P : D → Store → Prop), spr_Lsame (n + 1) [x0, x1] S P → rd_Lsame (spr_Lsame n) (dEnd P) [some x0, some x1, none, none, none] S

/-- _law_sums(_law_shares, _law_wides): slots 0 _law_shares, 1 _law_wides, 2 _law_found, 3 _law_share, 4 _law_wide, 5 _law_more, 6 _law_one, 7 _law_figure -/
def rd_Lsums : DS :=
  (dSeq (dSet 2 (dLst (dCons (dC (.int 0)) dNil)))
  (dSeq (dFor (dZip (dCons (dVar 0) (dCons (dVar 1) dNil))) (.tp [(.nm 3), (.nm 4)]) (dSeq (dSet 5 (dLst dNil))
  (dSeq (dFor (dItSeq (dVar 2)) (.nm 6) (dSet 5 (dOp dAdd (dVar 5) (dLc (dRng2 (dCons (dOp dSub (dC (.int 0)) (dVar 4)) (dCons (dOp dAdd (dVar 4) (dC (.int 1))) dNil))) (.nm 7) dYes (dOp dAdd (dVar 6) (dOp dMul (dVar 3) (dVar 7)))))))
  (dSet 2 (dSortSet (dVar 5))))))
  (dRet (dVar 2))))
def goal_Lsums : Prop := ∀ (x0 x1 : D) (S : Store) (P : D → Store → Prop), sp_Lsums [x0, x1] S P → rd_Lsums (dEnd P) [some x0, some x1, none, none, none, none, none, none] S

/-- _law_drawn(_law_box_here): slots 0 _law_box_here, 1 _law_root, 2 _law_least, 3 _law_shares, 4 _law_turn, 5 _law_wides, 6 _law_share -/
def rd_Ldrawn : DS :=
  (dSeq (dSet 1 (dCB sp_Lof (dCons (dVar 0) (dCons (dLst (dCons (dC (.int 2)) (dCons (dC (.int 2)) (dCons (dC (.int 3)) (dCons (dC (.int 3)) (dCons (dC (.int 4)) (dCons (dC (.int 5)) dNil))))))) dNil))))
  (dSeq (dSet 2 (dOp dFdiv (dOp dAdd (dVar 1) (dC (.int 1))) (dC (.int 2))))
  (dSeq (dSet 3 (dCB cTuple (dCons (dLc (dRng1 (dCons (dOp dAdd (dC (.int 1)) (dCB sp_Ltake (dCons (dVar 0) (dCons (dC (.int 2)) dNil)))) dNil)) (.nm 4) dYes (dCB sp_Lof (dCons (dVar 0) (dCons (dLst (dCons (dC (.int 1)) (dCons (dC (.int 1)) (dCons (dUn dNeg (dC (.int 1))) (dCons (dC (.int 2)) (dCons (dC (.int 3)) dNil)))))) dNil)))) dNil)))
  (dSeq (dSet 5 (dCB cTuple (dCons (dLc (dItSeq (dVar 3)) (.nm 6) dYes (dOp dAdd (dVar 2) (dCB sp_Ltake (dCons (dVar 0) (dCons (dC (.int 2)) dNil))))) dNil)))
  (dRet (dTup (dCons (dVar 1) (dCons (dVar 3) (dCons (dOp dAdd (dC (.int 1)) (dCB sp_Ltake (dCons (dVar 0) (dCons (dOp dIx (dLst (dCons (dC (.int 1)) (dCons (dC (.int 3)) (dCons (dC (.int 5)) dNil)))) (dCB sp_Ltake (dCons (dVar 0) (dCons (dC (.int 3)) dNil)))) dNil)))) (dCons (dVar 5) (dCons (dOp dAdd (dVar 2) (dCB sp_Ltake (dCons (dVar 0) (dCons (dC (.int 3)) dNil)))) dNil)))))))))))
def goal_Ldrawn : Prop := ∀ (x0 : D) (S : Store) (P : D → Store → Prop), sp_Ldrawn [x0] S P → rd_Ldrawn (dEnd P) [some x0, none, none, none, none, none, none] S

/-- _law_rules(_law_game, _law_late): slots 0 _law_game, 1 _law_late, 2 _law_root, 3 _law_shares, 4 _law_by, 5 _law_wides, 6 _law_wide, 7 _law_sums_here, 8 _law_step, 9 _law_turn -/
def rd_Lrules : DS :=
  (dSeq (dAsg (.tp [(.nm 2), (.nm 3), (.nm 4), (.nm 5), (.nm 6)]) (dVar 0))
  (dSeq (dPar 7 8 (dCons (dCB sp_Lsums (dCons (dVar 3) (dCons (dVar 5) dNil))) (dCons (dVar 4) dNil)))
  (dSeq (dFor (dRng1 (dCons (dVar 1) dNil)) (.nm 9) (dSet 8 (dOp dMul (dVar 8) (dVar 2))))
  (dRet (dDisp [((dC (.str "root")), (dVar 2)), ((dC (.str "step")), (dVar 8)), ((dC (.str "sums")), (dVar 7)), ((dC (.str "all")), (dOp dIx (dVar 7) (dUn dNeg (dC (.int 1))))), ((dC (.str "wide")), (dVar 6))])))))
def goal_Lrules : Prop := ∀ (x0 x1 : D) (S : Store) (P : D → Store → Prop), sp_Lrules [x0, x1] S P → rd_Lrules (dEnd P) [some x0, some x1, none, none, none, none, none, none, none, none] S

/-- _law_is_lost(_law_g, _law_rest): slots 0 _law_g, 1 _law_rest -/
def rd_Lis_lost : DS :=
  (dRet (dOp dGt (dOp dAdd (dOp dMul (dOp dSub (dOp dDGet (dVar 0) (dC (.str "root"))) (dC (.int 1))) (dCB cAbs (dCons (dVar 1) dNil))) (dOp dDGet (dVar 0) (dC (.str "all")))) (dOp dMul (dOp dDGet (dVar 0) (dC (.str "step"))) (dOp dDGet (dVar 0) (dC (.str "wide"))))))
def goal_Lis_lost : Prop := ∀ (x0 x1 : D) (S : Store) (P : D → Store → Prop), sp_Lis_lost [x0, x1] S P → rd_Lis_lost (dEnd P) [some x0, some x1] S

/-- _law_rests(_law_g): slots 0 _law_g, 1 _law_found, 2 _law_rest, 3 _law_one -/
def rd_Lrests : DS :=
  (dSeq (dSet 1 (dLstM dNil))
  (dSeq (dFor (dRng1 (dCons (dC (.int 2000)) dNil)) (.nm 2) (dSeq (dIfS (dTest (dCB sp_Lis_lost (dCons (dVar 0) (dCons (dVar 2) dNil)))) (dRet (dOp dAdd (dLc (dItSeq (dBack (dVar 1))) (.nm 3) dYes (dOp dSub (dC (.int 0)) (dVar 3))) (dVar 1))) dNext)
  (dDrop (dAppend (dVar 1) (dVar 2)))))
  (dRet (dOp dAdd (dLc (dItSeq (dBack (dVar 1))) (.nm 3) dYes (dOp dSub (dC (.int 0)) (dVar 3))) (dVar 1)))))
def goal_Lrests : Prop := ∀ (x0 : D) (S : Store) (P : D → Store → Prop), sp_Lrests [x0] S P → rd_Lrests (dEnd P) [some x0, none, none, none] S

/-- _law_leads(_law_g, _law_rest, _law_more): slots 0 _law_g, 1 _law_rest, 2 _law_more, 3 _law_figure -/
def rd_Lleads : DS :=
  (dRet (dLc (dRng2 (dCons (dOp dSub (dC (.int 0)) (dOp dDGet (dVar 0) (dC (.str "wide")))) (dCons (dOp dAdd (dOp dDGet (dVar 0) (dC (.str "wide"))) (dC (.int 1))) dNil))) (.nm 3) dYes (dOp dSub (dOp dAdd (dOp dMul (dOp dDGet (dVar 0) (dC (.str "root"))) (dVar 1)) (dVar 2)) (dOp dMul (dVar 3) (dOp dDGet (dVar 0) (dC (.str "step")))))))
def goal_Lleads : Prop := ∀ (x0 x1 x2 : D) (S : Store) (P : D → Store → Prop), sp_Lleads [x0, x1, x2] S P → rd_Lleads (dEnd P) [some x0, some x1, some x2, none] S

/-- _law_is_safe(_law_g, _law_rest, _law_some): slots 0 _law_g, 1 _law_rest, 2 _law_some, 3 _law_more, 4 _law_one -/
def rd_Lis_safe : DS :=
  (dSeq (dFor (dItSeq (dOp dDGet (dVar 0) (dC (.str "sums")))) (.nm 3) (dIfS (dNot (dTest (dCB cAny (dCons (dLc (dItSeq (dCB sp_Lleads (dCons (dVar 0) (dCons (dVar 1) (dCons (dVar 3) dNil))))) (.nm 4) dYes (dOp (dDIn false) (dVar 4) (dVar 2))) dNil)))) (dRet (dC (.bl false))) dNext))
  (dRet (dC (.bl true))))
def goal_Lis_safe : Prop := ∀ (x0 x1 x2 : D) (S : Store) (P : D → Store → Prop), sp_Lis_safe [x0, x1, x2] S P → rd_Lis_safe (dEnd P) [some x0, some x1, some x2, none, none] S

/-- _law_layers(_law_g): slots 0 _law_g, 1 _law_found, 2 _law_some, 3 _law_count, 4 _law_rest, 5 _law_turn, 6 _law_gone -/
def rd_Llayers_1 : DS :=
  (dSeq (dLock (dSet 6 (dLc (dItKeys (dVar 2)) (.nm 4) (dNot (dTest (dCB sp_Lis_safe (dCons (dVar 0) (dCons (dVar 4) (dCons (dVar 2) dNil)))))) (dVar 4))))
  (dSeq (dFor (dItSeq (dVar 6)) (.nm 4) (dSeq (dDPut (dVar 1) (dVar 4) (dVar 3))
  (dDrop (dDPop1 (dVar 2) (dVar 4)))))
  (dSeq (dSet 3 (dOp dAdd (dVar 3) (dC (.int 1))))
  (dIfS (dTest (dOp dEq (dVar 6) (dLst dNil))) (dSeq (dDrop (dDUpd (dVar 1) (dCB cDictP (dCons (dLockE (dLc (dItKeys (dVar 2)) (.nm 4) dYes (dTup (dCons (dVar 4) (dCons (dC .non) dNil))))) dNil))))
  (dRet (dVar 1))) dNext))))
def rd_Llayers : DS :=
  (dSeq (dAsg (.tp [(.nm 1), (.nm 2), (.nm 3)]) (dTup (dCons dNewD (dCons (dCB cDictP (dCons (dLc (dItSeq (dCB sp_Lrests (dCons (dVar 0) dNil))) (.nm 4) dYes (dTup (dCons (dVar 4) (dCons (dC (.bl true)) dNil)))) dNil)) (dCons (dC (.int 0)) dNil)))))
  (dSeq (dFor (dRng1 (dCons (dOp dAdd (dCB cLenD (dCons (dVar 2) dNil)) (dC (.int 1))) dNil)) (.nm 5) rd_Llayers_1)
  (dRet (dVar 1))))
def goal_Llayers : Prop := ∀ (x0 : D) (S : Store) (P : D → Store → Prop), sp_Llayers [x0] S P → rd_Llayers (dEnd P) [some x0, none, none, none, none, none, none] S

/-- _law_chosen(_law_box_here, _law_g, _law_held): slots 0 _law_box_here, 1 _law_g, 2 _law_held, 3 _law_found, 4 _law_left, 5 _law_way, 6 _law_rest, 7 _law_more, 8 _law_some, 9 _law_one, 10 _law_near -/
def rd_Lchosen_1 : DS :=
  (dSeq (dSet 8 (dCB cSortL (dCons (dLc (dItSeq (dCB sp_Lleads (dCons (dVar 1) (dCons (dVar 6) (dCons (dVar 7) dNil))))) (.nm 9) (dTest (dOp (dDIn false) (dVar 9) (dVar 2))) (dVar 9)) dNil)))
  (dSeq (dSet 10 (dLc (dItSeq (dVar 8)) (.nm 9) (dTest (dOp (dIn false) (dVar 9) (dVar 3))) (dVar 9)))
  (dDrop (dAppend (dVar 4) (dOp dIx (dOrL (dVar 10) (dVar 8)) (dOp dIx (dLst (dCons (dC (.int 0)) (dCons (dUn dNeg (dC (.int 1))) (dCons (dOp dFdiv (dCB cLen (dCons (dOrL (dVar 10) (dVar 8)) dNil)) (dC (.int 2))) dNil)))) (dVar 5)))))))
def rd_Lchosen : DS :=
  (dSeq (dAsg (.tp [(.nm 3), (.nm 4), (.nm 5)]) (dTup (dCons (dLstM dNil) (dCons (dLstM (dCons (dC (.int 0)) dNil)) (dCons (dCB sp_Ltake (dCons (dVar 0) (dCons (dC (.int 3)) dNil))) dNil)))))
  (dSeq (dWhile (dTest (dOp (dEqL true) (dVar 4) (dLst dNil))) (dSeq (dSet 6 (dPop (dVar 4)))
  (dIfS (dTest (dOp (dIn true) (dVar 6) (dVar 3))) (dSeq (dDrop (dAppend (dVar 3) (dVar 6)))
  (dFor (dItSeq (dOp dDGet (dVar 1) (dC (.str "sums")))) (.nm 7) rd_Lchosen_1)) dNext)))
  (dRetZ (dVar 3))))
def goal_Lchosen : Prop := ∀ (x0 x1 x2 : D) (S : Store) (P : D → Store → Prop), sp_Lchosen [x0, x1, x2] S P → rd_Lchosen (dEnd P) [some x0, some x1, some x2, none, none, none, none, none, none, none, none] S

/-- _law_is_paper(_law_g, _law_piece): slots 0 _law_g, 1 _law_piece, 2 _law_one, 3 _law_some, 4 _law_rest -/
def rd_Lis_paper : DS :=
  (dSeq (dIfS (dNot (dTest (dCB cIsi (dCons (dVar 1) (dCons (dC (.ty "list")) dNil))))) (dRet (dC (.bl false))) dNext)
  (dSeq (dFor (dItSeq (dVar 1)) (.nm 2) (dIfS (dOr (dNot (dTest (dCB cIsi (dCons (dVar 2) (dCons (dC (.ty "int")) dNil))))) (dOr (dTest (dCB cIsi (dCons (dVar 2) (dCons (dC (.ty "bool")) dNil)))) (dTest (dCB sp_Lis_lost (dCons (dVar 0) (dCons (dVar 2) dNil)))))) (dRet (dC (.bl false))) dNext))
  (dSeq (dSet 3 (dCB cDictP (dCons (dLc (dItSeq (dVar 1)) (.nm 2) dYes (dTup (dCons (dVar 2) (dCons (dC (.bl true)) dNil)))) dNil)))
  (dRet (dAndV (dOp (dDIn false) (dC (.int 0)) (dVar 3)) (dCB cAll (dCons (dLockE (dLc (dItKeys (dVar 3)) (.nm 4) dYes (dCB sp_Lis_safe (dCons (dVar 0) (dCons (dVar 4) (dCons (dVar 3) dNil)))))) dNil)))))))
def goal_Lis_paper : Prop := ∀ (x0 x1 : D) (S : Store) (P : D → Store → Prop), sp_Lis_paper [x0, x1] S P → rd_Lis_paper (dEnd P) [some x0, some x1, none, none, none] S

/-- _law_otherwise(_law_box_here, _law_g, _law_paper): slots 0 _law_box_here, 1 _law_g, 2 _law_paper, 3 _law_found, 4 _law_turn, 5 _law_at, 6 _law_way, 7 _law_one -/
def rd_Lotherwise_1 : DS :=
  (dSeq (dPar 5 6 (dCons (dCB sp_Ltake (dCons (dVar 0) (dCons (dOp dAdd (dCB cLen (dCons (dVar 3) dNil)) (dC (.int 1))) dNil))) (dCons (dCB sp_Ltake (dCons (dVar 0) (dCons (dC (.int 7)) dNil))) dNil)))
  (dIfS (dTest (dOp dLt (dVar 6) (dC (.int 2)))) (dSet 3 (dOp dAddM (dSl (dVar 3) dNoPart (dPart (dVar 5))) (dSl (dVar 3) (dPart (dOp dAdd (dVar 5) (dC (.int 1)))) dNoPart))) (dIfS (dTest (dOp dEq (dVar 6) (dC (.int 2)))) (dDrop (dInsert (dVar 3) (dVar 5) (dOp dSub (dCB sp_Ltake (dCons (dVar 0) (dCons (dC (.int 41)) dNil))) (dC (.int 20))))) (dIfS (dTest (dOp dEq (dVar 6) (dC (.int 3)))) (dSet 3 (dOp dAddM (dVar 3) (dSl (dVar 3) (dPart (dVar 5)) (dPart (dOp dAdd (dVar 5) (dC (.int 1))))))) (dIfS (dTest (dOp dEq (dVar 6) (dC (.int 4)))) (dSet 3 (dLcM (dItSeq (dVar 3)) (.nm 7) (dTest (dOp dNe (dVar 7) (dC (.int 0)))) (dVar 7))) (dDrop (dInsert (dVar 3) (dVar 5) (dCB sp_Lof (dCons (dVar 0) (dCons (dLst (dCons (dC (.bl true)) (dCons (dC .non) (dCons (dC (.str "0")) (dCons (dTup (dCons (dC (.int 0)) dNil)) (dCons (dLst (dCons (dC (.int 0)) dNil)) (dCons (dOp dPow (dC (.int 10)) (dC (.int 9))) (dCons (dC (.int 0)) (dCons (dC (.bl false)) dNil))))))))) dNil))))))))))
def rd_Lotherwise : DS :=
  (dSeq (dSet 3 (dCB cListM (dCons (dVar 2) dNil)))
  (dSeq (dFor (dRng1 (dCons (dOp dAdd (dC (.int 1)) (dCB sp_Ltake (dCons (dVar 0) (dCons (dC (.int 2)) dNil)))) dNil)) (.nm 4) rd_Lotherwise_1)
  (dRet (dCB sp_Lof (dCons (dVar 0) (dCons (dLst (dCons (dVar 3) (dCons (dVar 3) (dCons (dRevL (dVar 3)) (dCons (dCB cTuple (dCons (dVar 3) dNil)) dNil))))) dNil))))))
def goal_Lotherwise : Prop := ∀ (x0 x1 x2 : D) (S : Store) (P : D → Store → Prop), sp_Lotherwise [x0, x1, x2] S P → rd_Lotherwise (dEnd P) [some x0, some x1, some x2, none, none, none, none, none] S

/-- _law_right(_law_box_here): slots 0 _law_box_here, 1 _law_game, 2 _law_root, 3 _law_shares, 4 _law_by, 5 _law_wides, 6 _law_wide, 7 _law_late, 8 _law_g, 9 _law_layers_here, 10 _law_held, 11 _law_rest, 12 _law_found, 13 _law_papers, 14 _law_one, 15 _law_turn, 16 _law_piece, 17 _law_kept, 18 _law_due, 19 _law_told -/
def rd_Lright_1 : DS :=
  (dSeq (dPar 17 18 (dCons (dCB cReprO (dCons (dVar 16) dNil)) (dCons (dCB sp_Lis_paper (dCons (dVar 8) (dCons (dVar 16) dNil))) dNil)))
  (dSeq (dSet 19 (dLstM (dCons (dCB sp_shows_enough (dCons (dVar 2) (dCons (dVar 3) (dCons (dVar 4) (dCons (dVar 5) (dCons (dVar 6) (dCons (dVar 7) (dCons (dVar 16) dNil)))))))) dNil)))
  (dSeq (dDrop (dAppend (dVar 19) (dCallK sp_shows_enough 0 7 [2, 3, 4, 5, 6, 1, 0] dNil (dCons (dVar 16) (dCons (dVar 7) (dCons (dVar 2) (dCons (dVar 3) (dCons (dVar 4) (dCons (dVar 5) (dCons (dVar 6) dNil))))))))))
  (dIfS (dOr (dNot (dTest (dCB sp_Lsame (dCons (dVar 19) (dCons (dLst (dCons (dVar 18) (dCons (dVar 18) dNil))) dNil))))) (dTest (dOp dNe (dCB cReprO (dCons (dVar 16) dNil)) (dVar 17)))) (dRet (dC (.bl false))) dNext))))
def rd_Lright_2 : DS :=
  (dSeq (dFor (dItSeq (dVar 13)) (.nm 16) rd_Lright_1)
  (dSeq (dIfS (dTest (dOp dNotN (dOp dIx (dVar 12) (dC (.int 0))) (dC .non))) (dDrop (dAppend (dOp dIx (dVar 12) (dC (.int 0))) (dC (.str "more")))) dNext)
  (dRet (dCB sp_Lsame (dCons (dCB sp_enough_paper (dCons (dVar 2) (dCons (dVar 3) (dCons (dVar 4) (dCons (dVar 5) (dCons (dVar 6) (dCons (dVar 7) dNil))))))) (dCons (dOp dIx (dVar 12) (dC (.int 1))) dNil))))))
def rd_Lright : DS :=
  (dSeq (dSet 1 (dCB sp_Ldrawn (dCons (dVar 0) dNil)))
  (dSeq (dAsg (.tp [(.nm 2), (.nm 3), (.nm 4), (.nm 5), (.nm 6)]) (dVar 1))
  (dSeq (dSet 7 (dCB sp_Ltake (dCons (dVar 0) (dCons (dIf (dTest (dOp dLt (dOp dMul (dVar 2) (dVar 4)) (dC (.int 10)))) (dC (.int 3)) (dC (.int 2))) dNil))))
  (dSeq (dSet 8 (dCB sp_Lrules (dCons (dVar 1) (dCons (dVar 7) dNil))))
  (dSeq (dSet 9 (dCB sp_Llayers (dCons (dVar 8) dNil)))
  (dSeq (dSet 10 (dCB cDictP (dCons (dLockE (dLc (dItKeys (dVar 9)) (.nm 11) (dTest (dOp dIsN (dOp dDGet (dVar 9) (dVar 11)) (dC .non))) (dTup (dCons (dVar 11) (dCons (dC (.bl true)) dNil))))) dNil)))
  (dSeq (dSet 12 (dLstM (dCons (dCB sp_enough_paper (dCons (dVar 2) (dCons (dVar 3) (dCons (dVar 4) (dCons (dVar 5) (dCons (dVar 6) (dCons (dVar 7) dNil))))))) dNil)))
  (dSeq (dDrop (dAppend (dVar 12) (dCallK sp_enough_paper 0 6 [5, 4, 3, 2, 1, 0] dNil (dCons (dVar 7) (dCons (dVar 6) (dCons (dVar 5) (dCons (dVar 4) (dCons (dVar 3) (dCons (dVar 2) dNil)))))))))
  (dSeq (dIfS (dOr (dNot (dTest (dCB sp_Lsame (dCons (dOp dIx (dVar 12) (dC (.int 0))) (dCons (dOp dIx (dVar 12) (dC (.int 1))) dNil))))) (dTest (dOp dNe (dOp dIsN (dOp dIx (dVar 12) (dC (.int 0))) (dC .non)) (dOp (dDIn true) (dC (.int 0)) (dVar 10))))) (dRet (dC (.bl false))) dNext)
  (dSeq (dSet 13 (dLstM (dCons (dLst dNil) (dCons (dLst (dCons (dC (.int 0)) dNil)) (dCons (dC .non) (dCons (dC (.int 0)) (dCons (dCB cSortDB (dCons (dVar 9) dNil)) dNil)))))))
  (dSeq (dIfS (dTest (dOp dNotN (dOp dIx (dVar 12) (dC (.int 0))) (dC .non))) (dSeq (dSet 13 (dOp dAddM (dVar 13) (dLst (dCons (dOp dIx (dVar 12) (dC (.int 0))) (dCons (dCB cSortDB (dCons (dVar 10) dNil)) (dCons (dCB sp_Lchosen (dCons (dVar 0) (dCons (dVar 8) (dCons (dVar 10) dNil)))) dNil))))))
  (dSeq (dIfS (dTest (dOp dNe (dLc (dItSeq (dSl (dVar 13) (dPart (dC (.int 5))) dNoPart)) (.nm 14) dYes (dCB sp_Lis_paper (dCons (dVar 8) (dCons (dVar 14) dNil)))) (dOp dMul (dLst (dCons (dC (.bl true)) dNil)) (dC (.int 3))))) (dRet (dC (.bl false))) dNext)
  (dFor (dRng1 (dCons (dC (.int 4)) dNil)) (.nm 15) (dDrop (dAppend (dVar 13) (dCB sp_Lotherwise (dCons (dVar 0) (dCons (dVar 8) (dCons (dOp dIx (dVar 13) (dOp dAdd (dC (.int 5)) (dOp dMod (dVar 15) (dC (.int 3))))) dNil))))))))) dNext)
  rd_Lright_2)))))))))))
def goal_Lright : Prop := ∀ (x0 : D) (S : Store) (P : D → Store → Prop), sp_Lright [x0] S P → rd_Lright (dEnd P) [some x0, none, none, none, none, none, none, none, none, none, none, none, none, none, none, none, none, none, none, none] S

/-- law(_law_script): slots 0 _law_script, 1 _law_k -/
def rd_law : DS :=
  (dRet (dCB cAll (dCons (dLc (dRng1 (dCons (dCB cMax2 (dCons (dC (.int 1)) (dCons (dCB cMin2 (dCons (dC (.int 2)) (dCons (dCB cLen (dCons (dVar 0) dNil)) dNil))) dNil))) dNil)) (.nm 1) dYes (dCB sp_Lright (dCons (dCB sp_Lbox (dCons (dVar 0) (dCons (dVar 1) dNil))) dNil))) dNil)))
def goal_law : Prop := ∀ (x0 : D) (S : Store) (P : D → Store → Prop), sp_law [x0] S P → rd_law (dEnd P) [some x0, none] S

theorem len_is_number : ∀ ds S P, sp_is_number ds S P → ds.length = 1 := len_is_numberO
theorem vc_is_number : goal_is_number := vc_is_numberO
theorem len_Game_is_lost : ∀ ds S P, sp_Game_is_lost ds S P → ds.length = 2 := len_Game_is_lostE
theorem vc_Game_is_lost : goal_Game_is_lost := vc_Game_is_lostE
theorem len_enough_paper : ∀ ds S P, sp_enough_paper ds S P → ds.length = 6 := len_enough_paperO
theorem vc_enough_paper : goal_enough_paper := vc_enough_paperO
theorem len_shows_enough : ∀ ds S P, sp_shows_enough ds S P → ds.length = 7 := len_shows_enoughO
theorem vc_shows_enough : goal_shows_enough := vc_shows_enoughO
theorem z_Lsame : ∀ ds S P, spr_Lsame 0 ds S P → False := fun _ _ _ h => h
theorem len_Lsame : ∀ n ds S P, spr_Lsame n ds S P → ds.length = 2
  | 0, _, _, _, h => h.elim
  | n + 1, _, _, _, ⟨x, y, d, rfl, _⟩ => rfl
theorem len_Lis_paper : ∀ ds S P, sp_Lis_paper ds S P → ds.length = 2 := by rintro ds S P ⟨a, b, c, d, rfl, _⟩; rfl
theorem shw_tyName {n : Nat} {S : Store} {x d : D} (h : shwO S x = d) (hp : Plain n d) : tyName S x = tyName S d := by
  cases x with
  | obj l =>
    unfold shwO at h
    cases e : S l with
    | none => simp [e] at h; subst h; cases hp
    | some m =>
      cases m with
      | lst ds => simp only [e] at h; subst h; simp only [tyName, e]
      | _ => simp [e] at h; subst h; cases hp
  | _ => cases h; rfl
theorem isi_shw {n : Nat} {S : Store} {x d c : D} {P : D → Store → Prop} (h : shwO S x = d) (hp : Plain n d) (q : cIsi [d, c] S P) : cIsi [x, c] S P := by
  unfold cIsi at *
  cases c with
  | ty _ => simp only [shw_tyName h hp]; exact q
  | tup _ => simp only [shw_tyName h hp]; exact q
  | _ => exact q
theorem shw_flat {n : Nat} {S : Store} {x d : D} (h : shwO S x = d) (hp : Plain n d) (hn : ∀ es, d ≠ .lst es) : x = d := by
  cases x with
  | obj l =>
    unfold shwO at h
    cases e : S l with
    | none => simp [e] at h; exact h
    | some m =>
      cases m with
      | lst ds => simp only [e] at h; exact absurd h.symm (hn _)
      | _ => simp [e] at h; exact h
  | _ => exact h
theorem shw_plain {n : Nat} {S : Store} {d : D} (hp : Plain n d) : shwO S d = d := by cases hp <;> rfl
theorem len_shw {S : Store} {x : D} {es : List D} {P : D → Store → Prop} (h : shwO S x = .lst es) (q : P (.int es.length) S) : cLen [x] S P := by
  have hs := (shw_lst h).2
  cases x with
  | str _ => cases h
  | _ => unfold cLen; simp only [hs]; exact q
theorem all_sameN {t : Tgt} {de : DE} {P : D → Store → Prop} {pin : Option (Store → Prop)} {ds : List D} {f : D → D} {ρ : DSt} {S : Store} (hl : ds.length ≤ 100000) (hp : PinOk pin S)
    (h : ∀ d, d ∈ ds → ∃ ρ', t.put (f d) (dwipe ρ t.slots) = some ρ' ∧ ∀ Q : D → Store → Prop, Q (.bl true) S → de ρ' S Q) (q : P (.bl true) S) : LcN t dYes de (fun x S1 => cAll [x] S1 P) (ds.map f) pin ρ S := by
  cases pin with
  | none => exact all_same hl h q
  | some p => exact all_sameP hl hp h q
theorem pin2_of {p q : Option (Store → Prop)} {S : Store} (h1 : PinOk p S) (h2 : PinOk q S) : PinOk (pin2 p q) S := by
  cases p with
  | none => exact h2
  | some p =>
    cases q with
    | none => exact h1
    | some q => exact ⟨h1, h2⟩
theorem vc_Lsame : goal_Lsame := by
  rintro n x0 x1 S P ⟨x, y, d, e, hx, hy, hp, h⟩
  cases e
  unfold rd_Lsame
  walk_at "dg7s"
  by_cases hn : ∃ es, d = .lst es
  · obtain ⟨es, rfl⟩ := hn
    obtain ⟨hx1, hx2⟩ := shw_lst hx
    obtain ⟨hy1, hy2⟩ := shw_lst hy
    refine isi_shw hy hp ?_
    walk_at "dg7s"
    refine isi_shw hy hp ?_
    walk_at "dg7s"
    refine isi_shw hx hp ?_
    walk_at "dg7s"
    refine isi_shw hy hp ?_
    walk_at "dg7s"
    refine isi_shw hx hp ?_
    walk_at "dg7s"
    refine isi_shw hy hp ?_
    walk_at "dg7s"
    refine len_shw hx (len_shw hy ?_)
    walk_at "dg7s"
    unfold dLc dZip
    walk_at "dg7s"
    simp only [hx2, hy2]
    rw [zipD_self]
    cases hp with
    | lst hl hp =>
      refine all_sameN hl (pin2_of shw_pin shw_pin) (fun d hd => ⟨_, rfl, fun Q q => ?_⟩) h
      walk_at "dg7"
      exact ⟨d, d, d, rfl, shw_plain (hp d hd), shw_plain (hp d hd), hp d hd, q⟩
  · have hn' : ∀ es, d ≠ .lst es := fun es z => hn ⟨es, z⟩
    cases shw_flat hx hp hn'
    have := shw_flat hy hp hn'
    subst this
    cases hp with
    | non => walk_at "dg7"; exact h
    | bl => walk_at "dg7"; exact h
    | int => walk_at "dg7"; exact h
    | str => walk_at "dg7"; exact h
    | lst hl hy => exact absurd rfl (hn' _)
    | tup hl hy2 =>
      walk_at "dg7"
      rw [zipD_self]
      refine all_same hl (fun d hd => ⟨_, rfl, fun Q q => ?_⟩) h
      walk_at "dg7"
      exact ⟨d, d, d, rfl, shw_plain (hy2 d hd), shw_plain (hy2 d hd), hy2 d hd, q⟩
/-- a loop that stops at the first one that is not right -/
theorem forN_all {t : Tgt} {b : DS} {DD : DEnds} {ds : List D} {pin : Option (Store → Prop)} {ρ : DSt} {S : Store} (F : D → Bool) (R : DSt → Prop) (hp : PinOk pin S) (h0 : R ρ)
    (step : ∀ d ρ, d ∈ ds → R ρ → ∃ ρ', t.put d ρ = some ρ' ∧ ∀ E : DEnds, E.rt = DD.rt → (F d = true → ∀ ρ2, R ρ2 → E.nx ρ2 S) → (F d = false → DD.rt (.bl false) S) → b E ρ' S)
    (no : (∃ e, e ∈ ds ∧ F e = false) → DD.rt (.bl false) S) (q : (∀ e, e ∈ ds → F e = true) → ∀ ρ, R ρ → DD.nx ρ S) : ForN t b DD ds pin ρ S := by
  have key : (∀ i d ρ S', ds[i]? = some d → (S' = S ∧ R ρ ∧ ∀ e, e ∈ ds.take i → F e = true) → ∃ ρ', t.put d ρ = some ρ' ∧ b { DD with nx := fun ρ S' => S' = S ∧ R ρ ∧ ∀ e, e ∈ ds.take (i + 1) → F e = true, ct := fun ρ S' => S' = S ∧ R ρ ∧ ∀ e, e ∈ ds.take (i + 1) → F e = true, bk := DD.nx } ρ' S') := by
    rintro i d ρ S' hd ⟨rfl, hr, hall⟩
    have dm := List.mem_of_getElem? hd
    obtain ⟨ρ', h1, h2⟩ := step d ρ dm hr
    refine ⟨ρ', h1, h2 _ rfl (fun hF ρ2 hr2 => ⟨rfl, hr2, fun e he => ?_⟩) fun hF => no ⟨d, dm, hF⟩⟩
    rw [List.take_add_one, hd] at he
    rcases List.mem_append.mp he with m | m
    · exact hall e m
    · have : e = d := by simpa using m
      rw [this]; exact hF
  have fin : ∀ ρ S', (S' = S ∧ R ρ ∧ ∀ e, e ∈ ds.take ds.length → F e = true) → DD.nx ρ S' := by
    rintro ρ S' ⟨rfl, hr, hall⟩
    rw [List.take_length] at hall
    exact q hall ρ hr
  cases pin with
  | none => exact ⟨fun i ρ S' => S' = S ∧ R ρ ∧ ∀ e, e ∈ ds.take i → F e = true, ⟨rfl, h0, by simp⟩, key, fin⟩
  | some p => exact ⟨fun i ρ S' => S' = S ∧ R ρ ∧ ∀ e, e ∈ ds.take i → F e = true, ⟨rfl, h0, by simp⟩, fun i ρ S' h => by rw [h.1]; exact hp, key, fin⟩
theorem lcN_map {α : Type} {t : Tgt} {de : DE} {P : D → Store → Prop} {xs : List α} {pin : Option (Store → Prop)} {ρ : DSt} {S : Store} (f g : α → D) (hl : xs.length ≤ 100000) (hp : PinOk pin S)
    (h : ∀ x, x ∈ xs → ∃ ρ', t.put (f x) (dwipe ρ t.slots) = some ρ' ∧ ∀ Q : D → Store → Prop, Q (g x) S → de ρ' S Q) (q : P (.lst (xs.map g)) S) : LcN t dYes de P (xs.map f) pin ρ S := by
  cases pin with
  | none => exact lc_mapA f g hl h q
  | some p => exact lc_filP f g (fun _ => true) hl hp (fun x hx => by
      obtain ⟨ρ', h1, h2⟩ := h x hx
      exact ⟨ρ', h1, fun Q q => q, fun _ Q q => h2 Q q⟩) (by rw [filt_all]; exact q)
theorem mrg_KS (f : Int → D) : ∀ (xs : List Int) (acc : List (Key × D)) (M : Int → Prop) (n : Nat), KS acc M n → KS (dMrg acc (kI f xs)) (fun x => M x ∨ x ∈ xs) (n + xs.length)
  | [], acc, M, n, h => h.congr (fun x => by simp) (by simp)
  | r :: xs, acc, M, n, h => by
    have h1 := mrg_KS f xs _ _ _ (h.put r (f r))
    exact h1.congr (fun x => by rw [List.mem_cons, or_assoc]) (by rw [List.length_cons]; omega)
theorem vc_Lis_paper : goal_Lis_paper := by
  rintro x0 x1 S P ⟨q, g, x, d, e, hq, ok, hx, ht, h⟩
  cases e
  unfold rd_Lis_paper
  walk_at "dg7s"
  refine shw_isl hx ht ?_
  cases d with
  | lst es =>
    obtain ⟨hxl, hte⟩ := ht
    obtain ⟨hq1, hq2⟩ := shw_lst hx
    walk_at "dg7s"
    unfold dFor dItSeq
    walk_at "dg7s"
    simp only [hq2]
    refine forN_all (okE g.gr) (fun ρ => ∃ z2, ρ = [some (.obj q), some x1, z2, none, none]) shw_pin ⟨none, rfl⟩ ?_ (fun ⟨e, he, hf⟩ => ?_) fun hall ρ hr => ?_
    · rintro e ρ he ⟨z2, rfl⟩
      refine ⟨_, rfl, fun E hE hn hf => ?_⟩
      have te := hte e he
      rw [← hE] at hf
      cases e with
      | int r =>
        walk_at "dg7"
        refine ⟨q, g, r, rfl, hq, ok, te, ?_⟩
        rw [lost_iffI ok]
        by_cases c : g.gr < (r.natAbs : Int)
        · simp only [c, decide_true]
          walk_at "dg7"
          exact hf (decide_eq_false (by omega))
        · simp only [c, decide_false]
          walk_at "dg7"
          exact hn (decide_eq_true (by omega)) _ ⟨_, rfl⟩
      | ext _ => cases te
      | obj _ => cases te
      | ty _ => cases te
      | tq _ => cases te
      | _ => walk_at "dg7"; exact hf rfl
    · have z := h S fun _ _ e => e
      have : papB g (.lst es) = false := by
        unfold papB
        dsimp only
        rw [show es.all (okE g.gr) = false from Bool.eq_false_iff.mpr fun c => by
          have := List.all_eq_true.mp c e he
          rw [hf] at this; cases this]
        rfl
      rw [this] at z
      exact z
    · obtain ⟨z2, rfl⟩ := hr
      have ca : es.all (okE g.gr) = true := List.all_eq_true.mpr hall
      have ei := ok_ints ca
      obtain ⟨xs, hxs⟩ : ∃ xs, xs = es.map intE := ⟨_, rfl⟩
      rw [← hxs] at ei
      subst ei
      rw [papB_ints] at h
      rw [List.length_map] at hxl
      have ca : xs.all (fun r => decide ((r.natAbs : Int) ≤ g.gr)) = true := by
        rw [List.all_map] at ca
        exact ca
      have hxb : ∀ x ∈ xs, x.natAbs < 2 ^ 40 := fun r hr => hte _ (List.mem_map.mpr ⟨r, hr, rfl⟩)
      show dSeq _ _ _ _ _
      walk_at "dg7s"
      unfold dLc
      walk_at "dg7s"
      simp only [hq2]
      refine lcN_map D.int (fun r => .tup [.int r, .bl true]) (by omega) shw_pin (fun r hr => ⟨_, rfl, fun Q qq => ?_⟩) ?_
      · walk_at "dg7"; exact qq
      simp only [lstOf, Option.bind, pairs_ints (fun _ => D.bl true)]
      refine ⟨by unfold kI; rw [List.length_map]; omega, fun ph hph => ?_⟩
      have hks := mrg_KS (fun _ => D.bl true) xs [] (fun _ => False) 0 ⟨[], rfl, by simp, by simp, by simp⟩
      generalize dMrg [] (kI (fun _ => D.bl true) xs) = kvs at *
      obtain ⟨ks, kk1, knd, kmem0, klen⟩ := hks
      have kmem : ∀ x, x ∈ ks ↔ x ∈ xs := fun x => (kmem0 x).trans (by simp)
      have lk : kvs.length = ks.length := by simpa using congrArg List.length kk1
      have inR : ∀ r ∈ ks, r ∈ g.rests := fun r hr => by
        have := of_decide_eq_true (List.all_eq_true.mp ca r ((kmem r).mp hr))
        unfold Gm.rests
        rw [mem_irg]; omega
      have hres : (decide (0 ∈ ks) && ks.all (g.safe ks)) = g.shows xs := by
        unfold Gm.shows
        rw [ca, Bool.true_and, all_congr kmem]
        congr 1
        · by_cases c : (0 : Int) ∈ ks
          · rw [decide_eq_true c, decide_eq_true ((kmem 0).mp c)]
          · rw [decide_eq_false c, decide_eq_false fun z => c ((kmem 0).mpr z)]
        · congr 1
          funext r
          exact safe_congr g kmem r
      rw [← hres] at h
      have hph1 : supd S ph (.dK kvs) ph = some (.dK kvs) := supd_at
      obtain ⟨kvs', k1, k2⟩ := held_of (x := 0) ⟨kvs, dct_dK hph1, kk1⟩
      rw [k1]
      simp only
      rw [k2]
      by_cases c : (0 : Int) ∈ ks
      · rw [decide_eq_true c, if_pos rfl]
        rw [decide_eq_true c, Bool.true_and] at h
        refine .inr ⟨ph, kvs, hph1, fun o vs => ?_⟩
        have qn : q ≠ ph := fun z => by
          subst z
          have hq' : dctOf S (.obj q) = some (ruK g) := hq
          simp only [dctOf, hph] at hq'
          cases hq'
        have hqS : ∀ S5, (∀ a, a ≠ ph → S5 a = S a) → RuAt S5 q g := fun S5 h5 => by
          have hq' : dctOf S (.obj q) = some (ruK g) := hq
          show dctOf S5 (.obj q) = some (ruK g)
          simp only [dctOf, h5 q qn] at hq' ⊢
          exact hq'
        walk_at "dg7"
        refine ⟨ph, o, vs, _, rfl, supd_at, ?_⟩
        have hds : (kvs.map fun kv => kD kv.1) = ks.map D.int := by
          rw [show (kvs.map fun kv => kD kv.1) = (kvs.map (·.1)).map kD by rw [List.map_map]; rfl, kk1, List.map_map]
          rfl
        rw [hds]
        refine lc_filP D.int (fun r => .bl (g.safe ks r)) (fun _ => true) (by omega) supd_at (fun r hr => ⟨_, rfl, fun Q q => q, fun _ Q qq => ?_⟩) ?_
        · walk_at "dg7"
          refine ⟨q, ph, g, r, ks, rfl, hqS _ (fun a ha => by rw [supd_ne ha, supd_ne ha]), ok, ⟨kvs, dct_dZ supd_at, kk1⟩, inR, hxb r ((kmem r).mp hr), qq⟩
        · rw [filt_all]
          refine ⟨supd_at, ?_⟩
          unfold cAll
          simp only [lstOf, Option.bind]
          rw [dBools_mapF]
          simp only [List.all_map]
          refine h _ ?_
          rw [supd_supd]
          exact (Grown.new hph).again hph
      · rw [decide_eq_false c, if_neg (by simp)]
        rw [decide_eq_false c, Bool.false_and] at h
        exact h _ (Grown.new hph)
  | _ =>
    walk_at "dg7s"
    first | exact h S (fun _ _ e => e) | (exact ht.elim)
theorem len_Lchosen : ∀ ds S P, sp_Lchosen ds S P → ds.length = 3 := by rintro ds S P ⟨a, b, c, d, e, f, rfl, _⟩; rfl
theorem nd_leI : ∀ {l k : List Int}, l.Nodup → (∀ x, x ∈ l → x ∈ k) → l.length ≤ k.length := nd_le
theorem any_eqI (i : Int) (xs : List Int) : ((xs.map D.int).any fun z => eqFlat z (.int i)) = decide (i ∈ xs) := by
  rw [List.any_map, Bool.eq_iff_iff, List.any_eq_true, decide_eq_true_iff]
  constructor
  · rintro ⟨x, hx, e⟩
    have e : decide (x = i) = true := e
    rw [decide_eq_true_iff] at e
    rw [← e]; exact hx
  · exact fun h => ⟨i, h, by show decide (i = i) = true; simp⟩
theorem all_flatI (xs : List Int) : (xs.map D.int).all isFlat = true := by
  rw [List.all_map]
  exact List.all_eq_true.mpr fun _ _ => rfl
theorem neL_int {l : Addr} {xs : List Int} {S : Store} {P : D → Store → Prop} (h : S l = some (.lst (xs.map .int))) (q : P (.bl (!xs.isEmpty)) S) : dEqL true (.obj l) (.lst []) S P := by
  have key : ∀ l : List Int, ∃ ps, D.pyL (l.map .int) = some ps ∧ ps.isEmpty = l.isEmpty ∧ PyData.canLayAll0 ps = true ∧ PyData.depthAll ps ≤ 1 := fun l => by
    induction l with
    | nil => exact ⟨[], rfl, rfl, rfl, by decide⟩
    | cons f l ih =>
      obtain ⟨ps, h1, h2, h3, h4⟩ := ih
      refine ⟨.int f :: ps, ?_, rfl, ?_, ?_⟩
      · rw [List.map_cons]
        unfold D.pyL
        rw [h1]
        unfold D.py
        rfl
      · rw [PyData.canLayAll0, h3]; rfl
      · rw [PyData.depthAll]
        have : PyData.depth (.int f) = 0 := by simp [PyData.depth]
        omega
  obtain ⟨ps, h1, h2, h3, h4⟩ := key xs
  unfold dEqL
  simp only [lstOf, h, Option.bind, h1]
  refine ⟨?_, by decide, ?_⟩
  · unfold SeqAt.shaped
    rw [PyData.canLay0, h3, PyData.depth]
    simp; omega
  · have : PyData.eqv (.list ps) (.list []) = xs.isEmpty := by
      rw [← h2]
      cases ps with
      | nil => rfl
      | cons p ps => rfl
    simp only [reduceIte, this]
    exact q
theorem atI_lastK {α : Type} {l : List α} {a : α} : atI (l ++ [a]) (-1) = some a := by
  unfold atI ixN
  simp only [List.length_append, List.length_cons, List.length_nil]
  rw [if_neg (by omega), if_pos (by omega)]
  have : ((-1 : Int) + ((l.length + (0 + 1) : Nat) : Int)).toNat = l.length := by omega
  rw [this]
  simp
theorem vc_Lchosen : goal_Lchosen := by
  rintro x0 x1 x2 S P ⟨p, q, h, n, g, H, e, hb, hn, hq, ok, hh, hk, qp, hp, z⟩
  cases e
  unfold rd_Lchosen
  walk_at "dg7"
  intro F hF l hl
  have pF : p ≠ F := fun w => by
    obtain ⟨a', s, t, h1, _⟩ := hb
    rw [w, hF] at h1; cases h1
  have lF : l ≠ F := fun w => by subst w; rw [supd_same] at hl; cases hl
  rw [supd_ne lF] at hl
  have pl : p ≠ l := fun w => by
    obtain ⟨a', s, t, h1, _⟩ := hb
    rw [w, hl] at h1; cases h1
  have hD0 : Dk S (supd (supd S F (.lst [])) l (.lst [.int 0])) p n := ((Dk.refl hb).put pF hF).put pl hl
  refine takeK (.refl hD0.1) (by decide) (by decide) (by omega) fun way S1 w0 w1 hD1 => ?_
  have hF1 : S1 F = some (.lst (([] : List Int).map .int)) := hD1.2 F _ (Ne.symm pF) (by rw [supd_ne (Ne.symm lF), supd_same]; rfl)
  have hl1 : S1 l = some (.lst (([0] : List Int).map .int)) := hD1.2 l _ (Ne.symm pl) supd_same
  have hD2 := hD0.trans hD1
  have qF : q ≠ F := fun w => by
    subst w
    have hq' : dctOf S (.obj q) = some (ruK g) := hq
    simp only [dctOf, hF] at hq'; cases hq'
  have ql : q ≠ l := fun w => by
    subst w
    have hq' : dctOf S (.obj q) = some (ruK g) := hq
    simp only [dctOf, hl] at hq'; cases hq'
  walk_at "dg7"
  unfold dWhile
  refine ⟨fun k ρ S' => ∃ (fs ls : List Int) (z6 z7 z8 z9 z10 : Option D), ρ = [some (.obj p), some (.obj q), some (.obj h), some (.obj F), some (.obj l), some (.int way), z6, z7, z8, z9, z10] ∧ S' F = some (.lst (fs.map .int)) ∧ S' l = some (.lst (ls.map .int)) ∧ Dk S S' p (n + 1) ∧ fs.Nodup ∧ (∀ x, x ∈ fs → x ∈ H) ∧ (∀ x, x ∈ ls → x ∈ H) ∧ (0 ∈ fs ∨ 0 ∈ ls) ∧
      (∀ r, r ∈ fs → ∀ s, s ∈ g.sums → ∃ x, x ∈ leadsQ g (g.b * r + s) ∧ (x ∈ fs ∨ x ∈ ls)) ∧ ls.length ≤ 1 + fs.length * g.sums.length ∧ k = (H.length - fs.length) * (g.sums.length + 1) + ls.length,
    ⟨_, [], [0], none, none, none, none, none, rfl, hF1, hl1, hD2, by simp, by simp, fun x hx => by rw [List.mem_singleton.mp hx]; exact hk.z, .inr (by simp), by simp, by simp, rfl⟩, ?_⟩
  rintro k ρ S2 ⟨fs, ls, z6, z7, z8, z9, z10, rfl, hF2, hl2, hD, fnd, fsub, lsub, hz, hcl, lle, rfl⟩
  have hfl := nd_leI fnd fsub
  walk_at "dg7"
  refine neL_int hl2 ?_
  walk_at "dg7"
  rcases List.eq_nil_or_concat ls with rfl | ⟨lr, r, rfl⟩
  · simp only [List.isEmpty, Bool.not_true, Bool.false_eq_true, reduceIte]
    unfold dRetZ
    walk_at "dg7"
    refine ⟨_, hF2, z fs _ ⟨fsub, fnd, by simpa using hz, fun r hr s hs => by simpa using hcl r hr s hs⟩ ?_⟩
    refine ⟨?_, fun c m hc e => ?_⟩
    · obtain ⟨a', s, t, h1, h2⟩ := hD.1
      refine ⟨a', s, t, ?_, h2⟩
      unfold sdel
      rw [if_neg (fun w => pF w)]
      exact h1
    · unfold sdel
      rw [if_neg (fun w => by subst w; rw [hF] at e; cases e)]
      exact hD.2 c m hc e
  · have ie : (lr ++ [r]).isEmpty = false := by cases lr <;> rfl
    simp only [List.concat_eq_append] at *
    simp only [ie, Bool.not_false, reduceIte]
    unfold dPop
    walk_at "dg7s"
    simp only [hl2]
    have hpp : ((lr ++ [r]).map D.int)[((lr ++ [r]).map D.int).length - 1]? = some (D.int r) := by
      rw [List.map_append, List.length_append]
      simp
    have hdd : ((lr ++ [r]).map D.int).dropLast = lr.map D.int := by
      rw [List.map_append]; exact List.dropLast_concat
    refine ⟨_, hpp, ?_⟩
    rw [hdd]
    have hF3 : supd S2 l (.lst (lr.map .int)) F = some (.lst (fs.map .int)) := by rw [supd_ne (Ne.symm lF)]; exact hF2
    have rH := lsub r (List.mem_append_right _ (List.mem_singleton.mpr rfl))
    rw [List.length_append] at lle ⊢
    simp only [List.length_cons, List.length_nil] at lle ⊢
    have eF := any_eqI r fs
    have aF := all_flatI fs
    simp only [eqFlat] at eF
    simp only [seqOf, lstOf, hF3, aF, eF]
    walk_at "dg7s"
    by_cases c : r ∈ fs
    · rw [decide_eq_true c]
      simp only [Bool.not_true, Bool.false_eq_true, reduceIte]
      walk_at "dg7s"
      refine ⟨(H.length - fs.length) * (g.sums.length + 1) + lr.length, by omega, fs, lr, _, _, _, _, _, rfl, by first | exact hF3 | rfl, by first | exact supd_same | rfl, hD.put pl hl, fnd, fsub, fun x hx => lsub x (List.mem_append_left _ hx), ?_, fun r' hr' s hs => ?_, by omega, rfl⟩
      · rcases hz with hz | hz
        · exact .inl hz
        · rcases List.mem_append.mp hz with m | m
          · exact .inr m
          · exact .inl (by rw [List.mem_singleton.mp m]; exact c)
      · obtain ⟨x, hx, hx2⟩ := hcl r' hr' s hs
        refine ⟨x, hx, ?_⟩
        rcases hx2 with m | m
        · exact .inl m
        · rcases List.mem_append.mp m with m | m
          · exact .inr m
          · exact .inl (by rw [List.mem_singleton.mp m]; exact c)
    · rw [decide_eq_false c]
      simp only [Bool.not_false, reduceIte]
      have fnd' : (fs ++ [r]).Nodup := List.nodup_append.mpr ⟨fnd, by simp, fun a ha b hb e => by rw [List.mem_singleton] at hb; subst hb; subst e; exact c ha⟩
      have fsub' : ∀ x, x ∈ fs ++ [r] → x ∈ H := fun x hx => by
        rcases List.mem_append.mp hx with m | m
        · exact fsub x m
        · rw [List.mem_singleton.mp m]; exact rH
      have hfl' := nd_leI fnd' fsub'
      rw [List.length_append] at hfl'
      simp only [List.length_cons, List.length_nil] at hfl'
      have hfew := hk.few
      have hmul : (fs.length + 1) * (g.sums.length + 1) ≤ H.length * (g.sums.length + 1) := Nat.mul_le_mul_right _ hfl'
      rw [Nat.add_mul, Nat.mul_add] at hmul
      refine ⟨_, rfl, _, rfl, by rw [List.length_map]; omega, ?_⟩
      have hqm : ∃ m, S q = some m := by
        have hq' : dctOf S (.obj q) = some (ruK g) := hq
        cases e : S q with
        | none => simp only [dctOf, e] at hq'; cases hq'
        | some m => exact ⟨m, rfl⟩
      have hhm : ∃ m, S h = some m := by
        obtain ⟨kvs, k1, _⟩ := hh
        cases e : S h with
        | none => simp only [dctOf, e] at k1; cases k1
        | some m => exact ⟨m, rfl⟩
      have atq : ∀ S5 m, Dk S S5 p m → RuAt S5 q g := fun S5 m h5 => by
        obtain ⟨mq, eq⟩ := hqm
        have e5 := h5.2 q _ qp eq
        have hq' : dctOf S (.obj q) = some (ruK g) := hq
        show dctOf S5 (.obj q) = some (ruK g)
        simp only [dctOf, e5, eq] at hq' ⊢
        exact hq'
      have ath : ∀ S5 m, Dk S S5 p m → Lb.HeldAt S5 h H := fun S5 m h5 => by
        obtain ⟨mh, eh⟩ := hhm
        have e5 := h5.2 h _ hp eh
        obtain ⟨kvs, k1, k2⟩ := hh
        refine ⟨kvs, ?_, k2⟩
        simp only [dctOf, e5, eh] at k1 ⊢
        exact k1
      have hD3 : Dk S (supd (supd S2 l (.lst (lr.map .int))) F (.lst (fs.map .int ++ [.int r]))) p (n + 1) := (hD.put pl hl).put pF hF
      have hS3F : supd (supd S2 l (.lst (lr.map .int))) F (.lst (fs.map .int ++ [.int r])) F = some (.lst ((fs ++ [r]).map .int)) := by rw [supd_same, List.map_append]; rfl
      have hS3l : supd (supd S2 l (.lst (lr.map .int))) F (.lst (fs.map .int ++ [.int r])) l = some (.lst ((lr ++ []).map .int)) := by rw [supd_ne lF, supd_same, List.append_nil]
      generalize supd (supd S2 l (.lst (lr.map .int))) F (.lst (fs.map .int ++ [.int r])) = S3 at *
      have r40 : r.natAbs < 2 ^ 40 := by
        have := hk.sub r rH
        unfold Gm.rests at this
        rw [mem_irg] at this
        have := ok.few
        omega
      obtain ⟨v1, v2, v3, v4, v5⟩ := ru_val g
      have hq3 : dctOf S3 (.obj q) = some (ruK g) := atq S3 _ hD3
      simp only [hq3, v3]
      refine ⟨fun j ρ S' => ∃ (ys : List Int) (z7 z8 z9 z10 : Option D), ρ = [some (.obj p), some (.obj q), some (.obj h), some (.obj F), some (.obj l), some (.int way), some (.int r), z7, z8, z9, z10] ∧ S' F = some (.lst ((fs ++ [r]).map .int)) ∧ S' l = some (.lst ((lr ++ ys).map .int)) ∧ ys.length = j ∧ (∀ x, x ∈ ys → x ∈ H) ∧ (∀ s, s ∈ g.sums.take j → ∃ x, x ∈ leadsQ g (g.b * r + s) ∧ (x ∈ fs ++ [r] ∨ x ∈ lr ++ ys)) ∧ Dk S S' p (n + 1),
        ⟨[], _, _, _, _, rfl, hS3F, hS3l, rfl, by simp, by simp, hD3⟩, ?_, ?_⟩
      · rintro j d ρ S4 hd ⟨ys, y7, y8, y9, y10, rfl, hF4, hl4, hyl, hys, hcy, hD4⟩
        rw [List.getElem?_map] at hd
        cases e : g.sums[j]? with
        | none => rw [e] at hd; cases hd
        | some s =>
          rw [e] at hd
          cases hd
          have sm := List.mem_of_getElem? e
          have jl := (List.getElem?_eq_some_iff.mp e).1
          refine ⟨_, rfl, ?_⟩
          unfold rd_Lchosen_1
          walk_at "dg7s"
          unfold dLc dItSeq
          walk_at "dg7s"
          refine ⟨q, g, r, s, rfl, atq S4 _ hD4, ok, r40, ok.sb s sm, ?_⟩
          walk_at "dg7"
          have hl100 : (leadsQ g (g.b * r + s)).length ≤ 100000 := by
            have := ok.w0; have := ok.w1
            unfold leadsQ
            rw [List.length_map, irg_len]; omega
          refine lcb_ints (leadsQ g (g.b * r + s)) rfl hl100 (fun x => decide (x ∈ H)) D.int (fun _ S5 => S5 = S4) rfl (fun i x S5 hx hs => ⟨_, rfl, fun K N hK hN => ?_⟩) fun S5 hs => ?_
          · subst hs
            walk_at "dg7"
            obtain ⟨kvs, k1, k2⟩ := held_of (ath _ _ hD4) x
            rw [k1]
            simp only
            rw [k2]
            by_cases cx : x ∈ H
            · rw [decide_eq_true cx, if_pos rfl]
              exact hK (decide_eq_true cx) _ rfl
            · rw [decide_eq_false cx, if_neg (by simp)]
              exact hN (decide_eq_false cx) _ rfl
          subst hs
          simp only [dInts_map]
          intro zs hperm hsort
          have zsub : ∀ x, x ∈ zs → x ∈ leadsQ g (g.b * r + s) ∧ x ∈ H := fun x hx => by
            have := List.mem_filter.mp (hperm.mem_iff.mp hx)
            exact ⟨this.1, of_decide_eq_true this.2⟩
          have zne : zs ≠ [] := fun w => by
            obtain ⟨x, hx, hxH⟩ := hk.cl r rH s sm
            have : x ∈ zs := hperm.mem_iff.mpr (List.mem_filter.mpr ⟨hx, decide_eq_true hxH⟩)
            rw [w] at this; cases this
          have zlen : zs.length ≤ 100000 := by rw [hperm.length_eq]; exact Nat.le_trans (List.length_filter_le ..) hl100
          refine lcb_ints zs rfl zlen (fun x => decide (x ∈ fs ++ [r])) D.int (fun _ S6 => S6 = S5) rfl (fun i x S6 hx hs => ⟨_, rfl, fun K N hK hN => ?_⟩) fun S6 hs => ?_
          · subst hs
            walk_at "dg7"
            have eF := any_eqI x (fs ++ [r])
            have aF := all_flatI (fs ++ [r])
            simp only [eqFlat] at eF
            simp only [hF4, aF, eF]
            walk_at "dg7"
            by_cases cx : x ∈ fs ++ [r]
            · first | rw [if_pos cx] | rw [decide_eq_true cx, if_pos rfl]
              exact hK (decide_eq_true cx) _ rfl
            · first | rw [if_neg cx] | rw [decide_eq_false cx, if_neg (by simp)]
              exact hN (decide_eq_false cx) _ rfl
          subst hs
          -- the one that is chosen of
          obtain ⟨ws, hws, wsub, wne⟩ : ∃ ws : List Int, ws = (if zs.filter (fun x => decide (x ∈ fs ++ [r])) = [] then zs else zs.filter fun x => decide (x ∈ fs ++ [r])) ∧ (∀ x, x ∈ ws → x ∈ zs) ∧ ws ≠ [] := by
            refine ⟨_, rfl, ?_, ?_⟩
            · split
              · exact fun x h => h
              · exact fun x h => (List.mem_filter.mp h).1
            · split
              · exact zne
              · assumption
          have hor : ∀ (ρ : DSt) (Q : D → Store → Prop), ρ[10]? = some (some (.lst ((zs.filter fun x => decide (x ∈ fs ++ [r])).map .int))) → ρ[8]? = some (some (.lst (zs.map .int))) → Q (.lst (ws.map .int)) S6 → dOrL (dVar 10) (dVar 8) ρ S6 Q := fun ρ Q h10 h8 qq => by
            unfold dOrL dVar
            simp only [h10, h8, lstOf]
            rw [hws] at qq
            by_cases cn : zs.filter (fun x => decide (x ∈ fs ++ [r])) = []
            · rw [if_pos cn] at qq
              rw [if_pos (by rw [cn]; rfl)]
              exact qq
            · rw [if_neg cn] at qq
              rw [if_neg (fun w => cn (List.map_eq_nil_iff.mp w))]
              exact qq
          refine ⟨_, hl4, hor _ _ rfl rfl (hor _ _ rfl rfl ?_)⟩
          walk_at "dg7"
          obtain ⟨i, w, hi1, hi2, hwm⟩ : ∃ (i w : Int), atI [D.int 0, D.int (-1), D.int (((ws.map D.int).length : Int).fdiv 2)] way = some (D.int i) ∧ atI (ws.map D.int) i = some (D.int w) ∧ w ∈ ws := by
            have wpos : 0 < ws.length := List.length_pos_iff.mpr wne
            rcases (show way = 0 ∨ way = 1 ∨ way = 2 by omega) with e | e | e
            · subst e
              refine ⟨0, ws[0], rfl, ?_, List.getElem_mem _⟩
              rw [atI_at (by omega) (by rw [List.length_map]; omega), List.getElem?_map, show (0 : Int).toNat = 0 from rfl, List.getElem?_eq_getElem wpos]
              rfl
            · subst e
              rcases List.eq_nil_or_concat ws with w0 | ⟨t, a, w0⟩
              · exact absurd w0 wne
              · rw [List.concat_eq_append] at w0
                refine ⟨-1, a, rfl, ?_, by rw [w0]; exact List.mem_append_right _ (List.mem_singleton.mpr rfl)⟩
                rw [w0, List.map_append]
                exact atI_lastK
            · subst e
              have hd2 : ((ws.length : Int)).fdiv 2 = ((ws.length / 2 : Nat) : Int) := by rw [Int.fdiv_eq_ediv_of_nonneg _ (by decide)]; rfl
              refine ⟨((ws.length / 2 : Nat) : Int), ws[ws.length / 2], ?_, ?_, List.getElem_mem _⟩
              · rw [List.length_map, hd2]; rfl
              · rw [atI_at (by omega) (by rw [List.length_map]; omega), List.getElem?_map, show (((ws.length / 2 : Nat) : Int)).toNat = ws.length / 2 by omega, List.getElem?_eq_getElem (by omega)]
                rfl
          simp only [hi1, hi2]
          have wz := zsub w (wsub w hwm)
          have jl2 : (lr ++ ys).length < 100000 := by rw [List.length_append, hyl]; omega
          refine ⟨⟨by decide, by decide⟩, (lr ++ ys).map .int, hl4, by rw [List.length_map]; exact jl2, ys ++ [w], _, _, _, _, rfl, by rw [supd_ne (Ne.symm lF)]; exact hF4, by simp only [List.map_append, List.append_assoc, List.map_cons, List.map_nil], by rw [List.length_append, hyl]; rfl, fun x hx => ?_, fun s' hs' => ?_, hD4.put pl hl⟩
          · rcases List.mem_append.mp hx with m | m
            · exact hys x m
            · rw [List.mem_singleton.mp m]; exact wz.2
          · rw [List.take_add_one, e] at hs'
            rcases List.mem_append.mp hs' with m | m
            · obtain ⟨x, hx, hx2⟩ := hcy s' m
              refine ⟨x, hx, hx2.imp id fun m => ?_⟩
              rcases List.mem_append.mp m with m | m
              · exact List.mem_append_left _ m
              · exact List.mem_append_right _ (List.mem_append_left _ m)
            · have : s' = s := by simpa using m
              subst this
              exact ⟨w, wz.1, .inr (List.mem_append_right _ (List.mem_append_right _ (List.mem_singleton.mpr rfl)))⟩
      · rintro ρ S4 ⟨ys, y7, y8, y9, y10, rfl, hF4, hl4, hyl, hys, hcy, hD4⟩
        rw [List.length_map] at hyl hcy
        rw [List.take_length] at hcy
        have hlen1 : (fs ++ [r]).length = fs.length + 1 := by rw [List.length_append]; rfl
        have hlen2 : (lr ++ ys).length = lr.length + g.sums.length := by rw [List.length_append, hyl]
        refine ⟨(H.length - (fs ++ [r]).length) * (g.sums.length + 1) + (lr ++ ys).length, ?_, fs ++ [r], lr ++ ys, _, _, _, _, _, rfl, hF4, hl4, hD4, fnd', fsub', fun x hx => ?_, ?_, fun r' hr' s hs => ?_, ?_, rfl⟩
        · rw [hlen1, hlen2]
          have e1 : H.length - fs.length = (H.length - (fs.length + 1)) + 1 := by omega
          rw [e1, Nat.add_mul]
          omega
        · rcases List.mem_append.mp hx with m | m
          · exact lsub x (List.mem_append_left _ m)
          · exact hys x m
        · rcases hz with hz | hz
          · exact .inl (List.mem_append_left _ hz)
          · rcases List.mem_append.mp hz with m | m
            · exact .inr (List.mem_append_left _ m)
            · exact .inl (List.mem_append_right _ m)
        · rcases List.mem_append.mp hr' with m | m
          · obtain ⟨x, hx, hx2⟩ := hcl r' m s hs
            refine ⟨x, hx, ?_⟩
            rcases hx2 with m | m
            · exact .inl (List.mem_append_left _ m)
            · rcases List.mem_append.mp m with m | m
              · exact .inr (List.mem_append_left _ m)
              · exact .inl (List.mem_append_right _ m)
          · rw [List.mem_singleton.mp m]
            exact hcy s hs
        · rw [hlen1, hlen2, Nat.add_mul]
          omega
theorem len_Lotherwise : ∀ ds S P, sp_Lotherwise ds S P → ds.length = 3 := by rintro ds S P ⟨a, b, c, d, e, f, rfl, _⟩; rfl
theorem odd_ne {e : D} (h : OddE e) : ∃ k, dEqB e (.int 0) = some k := by
  rcases h with ⟨i, rfl, _⟩ | h
  · exact ⟨_, rfl⟩
  · simp only [List.mem_cons, List.not_mem_nil, or_false] at h
    rcases h with rfl | rfl | rfl | rfl | rfl | rfl
    · exact ⟨false, by decide +kernel⟩
    · exact ⟨false, rfl⟩
    · exact ⟨false, rfl⟩
    · exact ⟨false, by decide +kernel⟩
    · exact ⟨false, by decide +kernel⟩
    · exact ⟨true, by decide +kernel⟩
theorem lc_filI {t : Tgt} {tt : DT} {de : DE} {P : D → Store → Prop} {xs : List D} {pin : Store → Prop} {ρ : DSt} {S : Store} (b : D → Bool) (hl : xs.length ≤ 100000) (hp : pin S)
    (h : ∀ x, x ∈ xs → ∃ ρ', t.put x (dwipe ρ t.slots) = some ρ' ∧ (∀ Q : Bool → Store → Prop, Q (b x) S → tt ρ' S Q) ∧ (b x = true → ∀ Q : D → Store → Prop, Q x S → de ρ' S Q)) (q : P (.lst (xs.filter b)) S) : LcP t tt de P xs pin ρ S := by
  have := lc_filP (t := t) (tt := tt) (de := de) (P := P) (xs := xs) (pin := pin) (ρ := ρ) (S := S) id id b hl hp h (by rw [List.map_id]; exact q)
  rwa [List.map_id] at this
theorem vc_Lotherwise : goal_Lotherwise := by
  rintro x0 x1 x2 S P ⟨p, q, n, N, x, es, e, hb, hn, hN, hx, hel, heo, z⟩
  cases e
  unfold rd_Lotherwise
  obtain ⟨hx1, hx2⟩ := shw_lst hx
  walk_at "dg7s"
  unfold cListM
  simp only [hx2]
  intro F0 hF0
  have pF0 : p ≠ F0 := fun w => by
    obtain ⟨a', s, t, h1, _⟩ := hb
    rw [w, hF0] at h1; cases h1
  have hD0 : Dk S (supd S F0 (.lst es)) p n := (Dk.refl hb).put pF0 hF0
  unfold dFor
  walk_at "dg7s"
  refine takeK (.refl hD0.1) (by decide) (by decide) (by omega) fun t S1 t0 t1 hD1 => ?_
  walk_at "dg7"
  have hF1 : S1 F0 = some (.lst es) := hD1.2 F0 _ (Ne.symm pF0) supd_same
  have hD1 := hD0.trans hD1
  refine ⟨by omega, by omega, fun i ρ S' => ∃ (F : Addr) (es' : List D) (z4 z5 z6 z7 : Option D), ρ = [some (.obj p), some (.obj q), some x2, some (.obj F), z4, z5, z6, z7] ∧ S' F = some (.lst es') ∧ S F = none ∧ p ≠ F ∧ es'.length ≤ N + i ∧ (∀ e, e ∈ es' → OddE e) ∧ Dk S S' p (n + 1 + 3 * i),
    ⟨F0, es, none, none, none, none, rfl, hF1, hF0, pF0, hel, heo, hD1⟩, ?_, ?_⟩
  · rintro i d ρ S2 hd ⟨F, es', z4, z5, z6, z7, rfl, hF2, hFn, pF, hl2, ho2, hD2⟩
    obtain ⟨hi, rfl⟩ := rng_get hd
    have hi2 : i < 2 := by omega
    refine ⟨_, rfl, ?_⟩
    unfold rd_Lotherwise_1
    walk_at "dg7"
    simp only [cLen, seqOf, lstOf, hF2]
    walk_at "dg7"
    refine takeK (.refl hD2.1) (by omega) (by omega) (by omega) fun at_ S3 a0 a1 hD3 => ?_
    have hF3 := hD3.2 F _ (Ne.symm pF) hF2
    walk_at "dg7"
    refine takeK (.refl hD3.1) (by decide) (by decide) (by omega) fun way S4 w0 w1 hD4 => ?_
    have hF4 := hD4.2 F _ (Ne.symm pF) hF3
    have hD5 := (hD2.trans hD3).trans hD4
    have fresh : ∀ (S5 : Store) (p2 : Addr) (k : Nat), Dk S S5 p k → S5 p2 = none → S p2 = none ∧ p ≠ p2 := fun S5 p2 k h5 e5 => by
      have ne : p ≠ p2 := fun w => by
        obtain ⟨a', s, t, h1, _⟩ := h5.1
        rw [w, e5] at h1; cases h1
      refine ⟨?_, ne⟩
      cases e : S p2 with
      | none => rfl
      | some m => rw [h5.2 p2 m (Ne.symm ne) e] at e5; cases e5
    walk_at "dg7"
    by_cases c1 : way < 2
    · simp only [c1, reduceIte, hF4]
      unfold dAddM
      simp only [lstOf]
      have l1 := dcut_len es' none (some at_)
      have l2 := dcut_len es' (some (at_ + 1)) none
      have l3 : (dcut es' none (some at_)).length + (dcut es' (some (at_ + 1)) none).length ≤ es'.length := by
        unfold dcut HT.sIx
        simp only [List.length_take, List.length_drop, show ¬ at_ < 0 by omega, show ¬ at_ + 1 < 0 by omega, if_false]
        omega
      refine ⟨⟨rfl, rfl⟩, by omega, fun p2 hp2 => ?_⟩
      obtain ⟨f1, f2⟩ := fresh _ _ _ hD5 hp2
      refine ⟨p2, _, _, _, _, _, rfl, supd_same, f1, f2, by rw [List.length_append]; omega, fun e he => ?_, (hD5.put f2 f1).mono (by omega)⟩
      rcases List.mem_append.mp he with m | m
      · exact ho2 e (dcut_mem m)
      · exact ho2 e (dcut_mem m)
    · simp only [c1, reduceIte]
      by_cases c2 : way = 2
      · simp only [c2, reduceIte]
        unfold dInsert
        walk_at "dg7"
        simp only [hF4]
        refine ⟨⟨_, rfl⟩, ?_⟩
        refine takeK (.refl hD4.1) (by decide) (by decide) (by omega) fun v S5 v0 v1 hD6 => ?_
        have hF5 := hD6.2 F _ (Ne.symm pF) hF4
        walk_at "dg7"
        simp only [hF5]
        refine ⟨by omega, by omega, by omega, F, _, _, _, _, _, rfl, supd_same, hFn, pF, ?_, fun e he => ?_, ((hD5.trans hD6).put pF hFn).mono (by omega)⟩
        · simp only [List.length_append, List.length_take, List.length_drop, List.length_cons, List.length_nil]; omega
        · rcases List.mem_append.mp he with m | m
          · rcases List.mem_append.mp m with m | m
            · exact ho2 e (List.mem_of_mem_take m)
            · rw [List.mem_singleton.mp m]; exact .inl ⟨_, rfl, by omega⟩
          · exact ho2 e (List.mem_of_mem_drop m)
      · simp only [c2, reduceIte]
        by_cases c3 : way = 3
        · simp only [c3, reduceIte, hF4]
          unfold dAddM
          simp only [lstOf, hF4]
          have l3 : (dcut es' (some at_) (some (at_ + 1))).length ≤ 1 := by
            unfold dcut HT.sIx
            simp only [List.length_take, List.length_drop, show ¬ at_ < 0 by omega, show ¬ at_ + 1 < 0 by omega, if_false]
            omega
          refine ⟨⟨rfl, rfl⟩, by omega, fun p2 hp2 => ?_⟩
          obtain ⟨f1, f2⟩ := fresh _ _ _ hD5 hp2
          refine ⟨p2, _, _, _, _, _, rfl, supd_same, f1, f2, by rw [List.length_append]; omega, fun e he => ?_, (hD5.put f2 f1).mono (by omega)⟩
          rcases List.mem_append.mp he with m | m
          · exact ho2 e m
          · exact ho2 e (dcut_mem m)
        · simp only [c3, reduceIte]
          by_cases c4 : way = 4
          · simp only [c4, reduceIte, hF4]
            obtain ⟨bn, hbn⟩ : ∃ bn : D → Bool, ∀ e, e ∈ es' → ∃ k, dEqB e (.int 0) = some k ∧ bn e = !k := ⟨fun e => match dEqB e (.int 0) with | some k => !k | none => false, fun e he => by
              obtain ⟨k, hk⟩ := odd_ne (ho2 e he)
              exact ⟨k, hk, by simp only [hk]⟩⟩
            refine lc_filI bn (by omega) (by first | exact hF4 | rfl) (fun e he => ⟨_, rfl, fun Q qq => ?_, fun _ Q qq => ?_⟩) ?_
            · obtain ⟨k, hk1, hk2⟩ := hbn e he
              rw [hk2] at qq
              walk_at "dg7"
              simp only [hk1]
              exact qq
            · walk_at "dg7"
              exact qq
            · intro p2 hp2
              obtain ⟨f1, f2⟩ := fresh _ _ _ hD5 hp2
              have := List.length_filter_le bn es'
              exact ⟨p2, _, _, _, _, _, rfl, supd_same, f1, f2, by omega, fun e he => ho2 e (List.mem_filter.mp he).1, (hD5.put f2 f1).mono (by omega)⟩
          · simp only [c4, reduceIte]
            unfold dInsert
            walk_at "dg7"
            simp only [hF4]
            refine ⟨⟨_, rfl⟩, ?_⟩
            refine ⟨by first | decide | (unfold CPow; decide) | (constructor <;> decide), p, _, _, _, rfl, .inl rfl, by simp, by simp, hD4.1, by omega, fun v S5 hv hdr => ?_⟩
            have hF5 := hdr.dk.2 F _ (Ne.symm pF) hF4
            have vo : OddE v := by
              simp only [List.mem_cons, List.not_mem_nil, or_false] at hv
              rcases hv with rfl | rfl | rfl | rfl | rfl | rfl | rfl | rfl
              · exact .inr (by simp)
              · exact .inr (by simp)
              · exact .inr (by simp)
              · exact .inr (by simp)
              · exact .inr (by simp)
              · exact .inl ⟨_, rfl, by decide⟩
              · exact .inl ⟨_, rfl, by decide⟩
              · exact .inr (by simp)
            simp only [hF5]
            refine ⟨by omega, by omega, by omega, F, _, _, _, _, _, rfl, supd_same, hFn, pF, ?_, fun e he => ?_, ((hD5.trans hdr.dk).put pF hFn).mono (by omega)⟩
            · simp only [List.length_append, List.length_take, List.length_drop, List.length_cons, List.length_nil]; omega
            · rcases List.mem_append.mp he with m | m
              · rcases List.mem_append.mp m with m | m
                · exact ho2 e (List.mem_of_mem_take m)
                · rw [List.mem_singleton.mp m]; exact vo
              · exact ho2 e (List.mem_of_mem_drop m)
  · rintro ρ S2 ⟨F, es', z4, z5, z6, z7, rfl, hF2, hFn, pF, hl2, ho2, hD2⟩
    rw [rng_len] at hl2 hD2
    walk_at "dg7"
    simp only [hF2]
    refine ⟨p, _, _, _, rfl, .inl rfl, by simp, by simp, hD2.1, by omega, fun y S3 hy hdr => ?_⟩
    have hD3 := hD2.trans hdr.dk
    have hF3 : S3 F = some (.lst es') := hdr.dk.2 F _ (Ne.symm pF) hF2
    simp only [List.mem_cons, List.not_mem_nil, or_false] at hy
    have hD4 : Dk S S3 p (n + 20) := hD3.mono (by omega)
    rcases hy with rfl | rfl | rfl | rfl
    · exact z _ (.lst es') S3 (by simp only [shwO, hF3]) ⟨es', .inl rfl, by omega, ho2⟩ (fun w => by cases w; exact pF rfl) hD4
    · exact z _ (.lst es') S3 (by simp only [shwO, hF3]) ⟨es', .inl rfl, by omega, ho2⟩ (fun w => by cases w; exact pF rfl) hD4
    · exact z _ (.lst es'.reverse) S3 rfl ⟨_, .inl rfl, by rw [List.length_reverse]; omega, fun e he => ho2 e (List.mem_reverse.mp he)⟩ (fun w => by cases w) hD4
    · exact z _ (.tup es') S3 rfl ⟨es', .inr rfl, by omega, ho2⟩ (fun w => by cases w) hD4
/-! ### the law -/
/-- what may come as a paper -/
def PapD (N : Nat) (d : D) : Prop := OddP N d ∨ d = .non ∨ d = .int 0
theorem odd_tm {e : D} (h : OddE e) : TmE e := by
  rcases h with ⟨i, rfl, hi⟩ | h
  · show i.natAbs < 2 ^ 40
    have : (2 : Nat) ^ 40 = 1099511627776 := by decide
    omega
  · simp only [List.mem_cons, List.not_mem_nil, or_false] at h
    rcases h with rfl | rfl | rfl | rfl | rfl | rfl <;> trivial
theorem pap_tm {N : Nat} {d : D} (h : PapD N d) : TmP N d := by
  rcases h with ⟨es, rfl | rfl, hl, ho⟩ | rfl | rfl
  · exact ⟨hl, fun e he => odd_tm (ho e he)⟩
  · trivial
  · trivial
  · trivial
theorem odd_rp {e : D} (h : OddE e) : Rpd 2 40 e := by
  rcases h with ⟨i, rfl, hi⟩ | h
  · exact (rp_int (by omega)).mono (by decide) (by decide)
  · simp only [List.mem_cons, List.not_mem_nil, or_false] at h
    have r0 : ∀ y, y ∈ [D.int 0] → Rpd 1 13 y := fun y hy => by rw [List.mem_singleton] at hy; subst hy; exact rp_int (by decide)
    rcases h with rfl | rfl | rfl | rfl | rfl | rfl
    · exact rp_bl.mono (by decide) (by decide)
    · exact rp_non.mono (by decide) (by decide)
    · exact (rp_str (n := 40) (by decide +kernel)).mono (by decide) (by decide)
    · exact (rp_tup r0 (n := 1) (by decide)).mono (by decide) (by decide)
    · exact (rp_lst r0 (n := 1) (by decide)).mono (by decide) (by decide)
    · exact rp_bl.mono (by decide) (by decide)
theorem pap_rp {N : Nat} {d : D} (h : PapD N d) (hN : N ≤ 90000) : Rpd 40 16000000 d := by
  rcases h with ⟨es, rfl | rfl, hl, ho⟩ | rfl | rfl
  · exact (rp_lst (fun y hy => odd_rp (ho y hy)) hl).mono (by decide) (by omega)
  · exact (rp_tup (fun y hy => odd_rp (ho y hy)) hl).mono (by decide) (by omega)
  · exact rp_non.mono (by decide) (by decide)
  · exact (rp_int (by decide)).mono (by decide) (by decide)
theorem ints_odd {xs : List Int} (h : ∀ x, x ∈ xs → x.natAbs ≤ 1000000000) : ∀ e, e ∈ xs.map D.int → OddE e := fun e he => by
  obtain ⟨x, hx, rfl⟩ := List.mem_map.mp he
  exact .inl ⟨x, rfl, h x hx⟩
/-- those held of a drawn game are in order -/
theorem held_ok {b over most : Int} {ws ms ys : List Int} {L : Nat} (h : Drawn b over most ws ms) (hy : Srt (sumsR (ws.zip ms)) ys) (hL : L ≤ 2) (h0 : 0 ∈ (gmAt b over most ys L).ranks.2) : HdOk (gmAt b over most ys L) (gmAt b over most ys L).ranks.2 := by
  obtain ⟨gm, _⟩ := h.gm (h.of hy) hL
  have st := ranks_stay gm.s0 h0
  have hso := h.of hy
  have hlen := hso.len
  refine ⟨ranks_sub _, h0, ?_, fun r hr s hs => ?_⟩
  · have h1 : (gmAt b over most ys L).ranks.2.length ≤ (gmAt b over most ys L).rests.length := nd_le (nd_lt (ranks_lt _)) (ranks_sub _)
    have h2 : (gmAt b over most ys L).rests.length ≤ 1313 := by
      have hp := pow_small h.b0 h.b1 hL
      have b0 := h.b0; have b1 := h.b1; have o0 := h.o0; have o1 := h.o1; have t0 := h.t0; have t1 := h.t1
      have st : 1 ≤ over * b ^ L ∧ over * b ^ L ≤ 125 := by
        have : over * b ^ L ≤ 5 * 25 := Int.mul_le_mul o1 hp.2 (by omega) (by omega)
        have : 1 * 1 ≤ over * b ^ L := Int.mul_le_mul o0 hp.1 (by omega) (by omega)
        omega
      have sw : 0 ≤ over * b ^ L * most ∧ over * b ^ L * most ≤ 625 := by
        have : over * b ^ L * most ≤ 125 * 5 := Int.mul_le_mul st.2 (by omega) (by omega) (by omega)
        have : 0 ≤ over * b ^ L * most := Int.mul_nonneg (by omega) (by omega)
        omega
      have tp : ((gmAt b over most ys L).top).natAbs ≤ 31 := hso.bd _ (top_mem (g := gmAt b over most ys L) hso.ne)
      have gr : (gmAt b over most ys L).gr ≤ 656 := by
        have := fdiv_bd (x := over * b ^ L * most - (gmAt b over most ys L).top) (k := b - 1) (B := 656) (by omega) (by omega) (by omega) (by omega)
        exact this.2
      unfold Gm.rests
      rw [irg_len]; omega
    have h3 : (gmAt b over most ys L).ranks.2.length * ((gmAt b over most ys L).sums.length + 1) ≤ 1313 * 64 := Nat.mul_le_mul (Nat.le_trans h1 h2) (by show ys.length + 1 ≤ 64; omega)
    omega
  · obtain ⟨f, f0, f1, hm⟩ := st.st r hr s hs
    refine ⟨_, ?_, hm⟩
    unfold leadsQ
    exact List.mem_map.mpr ⟨f, by rw [mem_irg]; omega, rfl⟩
/-- a piece that stands as a paper -/
structure Pc (p : Addr) (N : Nat) (S : Store) (x : D) : Prop where
  ex : ∃ d, shwO S x = d ∧ PapD N d
  np : x ≠ .obj p
theorem Pc.keep {p a : Addr} {N : Nat} {S S' : Store} {x : D} {xs : List D} (h : Pc p N S x) (ha : S a = some (.lst (.lst [] :: xs))) (hk : ∀ q m, q ≠ p → q ≠ a → S q = some m → S' q = some m) : Pc p N S' x ∧ x ≠ .obj a := by
  obtain ⟨⟨d, hd, hp⟩, np⟩ := h
  have na : x ≠ .obj a := fun w => by
    subst w
    unfold shwO at hd
    simp only [ha] at hd
    subst hd
    rcases hp with ⟨es, e | e, _, ho⟩ | e | e
    · cases e
      rcases ho (.lst []) (List.mem_cons_self ..) with ⟨i, e, _⟩ | e
      · cases e
      · simp at e
    · cases e
    · cases e
    · cases e
  refine ⟨⟨⟨d, ?_, hp⟩, np⟩, na⟩
  cases x with
  | obj l =>
    unfold shwO at hd
    cases e : S l with
    | none => simp [e] at hd; subst hd; rcases hp with ⟨es, e | e, _⟩ | e | e <;> cases e
    | some m =>
      cases m with
      | lst ds =>
        simp only [e] at hd
        have := hk l _ (fun w => np (by rw [w])) (fun w => na (by rw [w])) e
        simp only [shwO, this]
        exact hd
      | _ => simp [e] at hd; subst hd; rcases hp with ⟨es, e | e, _⟩ | e | e <;> cases e
  | _ => exact hd
/-- two answers of enough_paper, one as the other -/
def TwoP (S : Store) (pa pb : D) (H : List Int) (is : Bool) : Prop := if is then ∃ A B, pa = .obj A ∧ pb = .obj B ∧ A ≠ B ∧ S A = some (.lst (H.map .int)) ∧ S B = some (.lst (H.map .int)) else pa = .non ∧ pb = .non
theorem right2 {P : D → Store → Prop} {p q a c : Addr} {N L : Nat} {b over most : Int} {ws ms ys : List Int} {pa pb : D} {xs : List D} {S : Store} {z1 z9 z10 z11 z14 z15 z16 z17 z18 z19 : Option D} (h : ∀ S', P (.bl true) S') (fit : Fit b over most ws ms ys L) (hN : N ≤ 60000)
    (hq : RuAt S q (gmAt b over most ys L)) (ha : S a = some (.lst xs)) (hl : xs.length ≤ 1000) (hx : ∀ x, x ∈ xs → ∃ d, shwO S x = d ∧ PapD N d) (hc : S c = some (.lst [pa, pb])) (ht : TwoP S pa pb (gmAt b over most ys L).ranks.2 (decide (0 ∈ (gmAt b over most ys L).ranks.2))) :
    rd_Lright_2 (dEnd P) [some (.obj p), z1, some (.int b), some (.tup (ws.map .int)), some (.int over), some (.tup (ms.map .int)), some (.int most), some (.int (L : Int)), some (.obj q), z9, z10, z11, some (.obj c), some (.obj a), z14, z15, z16, z17, z18, z19] S := by
  unfold rd_Lright_2
  obtain ⟨g, hg⟩ : ∃ g, g = gmAt b over most ys L := ⟨_, rfl⟩
  have gm' : GmOk g := by rw [hg]; exact fit.gm
  rw [← hg] at hq ht
  walk_at "dg7"
  simp only [ha]
  refine ⟨fun i ρ S' => Grown S S' ∧ ∃ z16 z17 z18 z19, ρ = [some (.obj p), z1, some (.int b), some (.tup (ws.map .int)), some (.int over), some (.tup (ms.map .int)), some (.int most), some (.int (L : Int)), some (.obj q), z9, z10, z11, some (.obj c), some (.obj a), z14, z15, z16, z17, z18, z19], ⟨Grown.refl, _, _, _, _, rfl⟩, fun i ρ S' hw => ?_, ?_, ?_⟩
  · have := hw.1 _ _ ha
    first | exact this | (show S' a = S a; rw [this, ha]) | (rw [ha]; exact this)
  · rintro i x ρ S3 hd ⟨g3, y16, y17, y18, y19, rfl⟩
    obtain ⟨d, hd1, hd2⟩ := hx x (List.mem_of_getElem? hd)
    have ht2 := pap_tm hd2
    have hsx := shw_grown hd1 ht2 g3
    refine ⟨_, rfl, ?_⟩
    unfold rd_Lright_1
    walk_at "dg7"
    have hrp := pap_rp hd2 (by omega)
    unfold cReprO
    simp only [hsx]
    refine ⟨hrp, q, g, x, d, rfl, hq.grown g3, gm', hsx, ?_, fun S4 g4 => ?_⟩
    · rcases hd2 with ⟨es, rfl | rfl, hl2, ho⟩ | rfl | rfl
      · exact ⟨by omega, fun e he => odd_tm (ho e he)⟩
      · trivial
      · trivial
      · trivial
    walk_at "dg7"
    have t9 : TmP 99999 d := by
      rcases hd2 with ⟨es, rfl | rfl, hl2, ho⟩ | rfl | rfl
      · exact ⟨by omega, fun e he => odd_tm (ho e he)⟩
      · trivial
      · trivial
      · trivial
    have g34 := g3.trans g4
    refine ⟨b, over, most, ws, ms, ys, x, d, L, rfl, fit, shw_grown hd1 ht2 g34, t9, fun S5 g5 => ?_⟩
    rw [← hg]
    walk_at "dg7"
    intro w hw
    have g35 := g34.trans g5
    have wS : S w = none := by
      cases e : S w with
      | none => rfl
      | some m => rw [g35 _ _ e] at hw; cases hw
    have g6 : Grown S (supd S5 w (.lst [.bl (papB g d)])) := g35.again wS
    refine ⟨_, rfl, b, over, most, ws, ms, ys, x, d, L, rfl, fit, shw_grown hd1 ht2 g6, t9, fun S6 g7 => ?_⟩
    rw [← hg]
    refine ⟨_, g7 _ _ supd_same, by simp, ?_⟩
    have g8 : Grown S (supd S6 w (.lst [.bl (papB g d), .bl (papB g d)])) := (g6.trans g7).again wS
    refine ⟨_, _, .lst [.bl (papB g d), .bl (papB g d)], rfl, by simp only [shwO, supd_same]; rfl, rfl, .lst (by simp) (by simp only [List.forall_mem_cons]; exact ⟨.bl, .bl, by simp⟩), ?_⟩
    have hs8 := shw_grown hd1 ht2 g8
    walk_at "dg7"
    simp only [hs8]
    refine ⟨hrp, ?_⟩
    walk_at "dg7"
    exact ⟨g8, _, _, _, _, rfl⟩
  · rintro ρ S3 ⟨g3, y16, y17, y18, y19, rfl⟩
    walk_at "dg7"
    have hc3 := g3 _ _ hc
    simp only [hc3]
    walk_at "dg7"
    subst hg
    by_cases c0 : (0 : Int) ∈ (gmAt b over most ys L).ranks.2
    · rw [decide_eq_true c0] at ht
      obtain ⟨A, B, rfl, rfl, AB, hA, hB⟩ := ht
      have hA3 := g3 _ _ hA
      have hB3 := g3 _ _ hB
      have Ac : A ≠ c := fun w => by
        subst w
        rw [hA] at hc
        have e := MO.lst.inj (Option.some.inj hc)
        cases hH : (gmAt b over most ys L).ranks.2 with
        | nil => rw [hH] at e; cases e
        | cons x l => rw [hH] at e; simp at e
      have rl := ranks_len gm'
      walk_at "dg7"
      refine ⟨_, hA3, _, hA3, by rw [List.length_map]; omega, b, over, most, ws, ms, ys, L, rfl, fit, fun n0 => absurd c0 n0, fun _ C S6 g6 nC hC => ?_⟩
      have hc6 := g6 c _ (by rw [supd_ne (Ne.symm Ac)]; exact hc3)
      have hB6 := g6 B _ (by rw [supd_ne (Ne.symm AB)]; exact hB3)
      simp only [hc6]
      walk_at "dg7"
      exact ⟨_, _, .lst ((gmAt b over most ys L).ranks.2.map .int), rfl, by simp only [shwO, hC], by simp only [shwO, hB6], .lst (by rw [List.length_map]; omega) (fun y hy => by obtain ⟨r, _, rfl⟩ := List.mem_map.mp hy; exact .int), h _⟩
    · rw [decide_eq_false c0] at ht
      obtain ⟨rfl, rfl⟩ := ht
      walk_at "dg7"
      refine ⟨b, over, most, ws, ms, ys, L, rfl, fit, fun _ S6 g6 => ?_, fun n0 => absurd n0 c0⟩
      have hc6 := g6 c _ hc3
      simp only [hc6]
      walk_at "dg7"
      exact ⟨_, _, .non, rfl, rfl, rfl, .non, h _⟩
/-- what is closed shows it -/
theorem shows_cl {g : Gm} (ok : GmOk g) {xs : List Int} (sub : ∀ x, x ∈ xs → x ∈ g.rests) (z : 0 ∈ xs) (cl : ∀ r, r ∈ xs → ∀ s, s ∈ g.sums → ∃ x, x ∈ leadsQ g (g.b * r + s) ∧ x ∈ xs) : g.shows xs = true := by
  unfold Gm.shows
  rw [Bool.and_eq_true, Bool.and_eq_true, decide_eq_true_iff]
  refine ⟨List.all_eq_true.mpr fun r hr => ?_, z, List.all_eq_true.mpr fun r hr => ?_⟩
  · have := sub r hr
    unfold Gm.rests at this
    rw [mem_irg] at this
    exact decide_eq_true (by omega)
  · rw [safe_iff]
    intro s hs
    obtain ⟨x, hx, hm⟩ := cl r hr s hs
    have h1 : g.heldB xs (g.b * r + s) = true := by
      rw [← leads_held ok sub]
      exact List.any_eq_true.mpr ⟨x, hx, decide_eq_true hm⟩
    unfold Gm.heldB at h1
    obtain ⟨y, hy, hm⟩ := List.any_eq_true.mp h1
    exact ⟨y, hy, of_decide_eq_true hm⟩
theorem ranksN_inR (g : Gm) : ∀ (n : Nat) (found : List (Int × Int × Int)) (H : List Int) (k : Int), ∀ t, t ∈ (g.ranksN n found H k).1 → t ∈ found ∨ t.1 ∈ H
  | 0, found, H, k => fun t h => .inl h
  | n + 1, found, H, k => fun t h => by
    unfold Gm.ranksN at h
    by_cases e : H.all (g.safe H) = true
    · rw [if_pos e] at h; exact .inl h
    · rw [if_neg e] at h
      rcases ranksN_inR g n _ _ _ t h with m | m
      · rcases List.mem_append.mp m with m | m
        · exact .inl m
        · unfold Gm.gone at m
          obtain ⟨r, hr, rfl⟩ := List.mem_map.mp m
          exact .inr (List.mem_filter.mp hr).1
      · exact .inr (List.mem_filter.mp m).1
theorem HdOk.congr {g : Gm} {H ks : List Int} (h : HdOk g H) (nd : ks.Nodup) (e : ∀ x, x ∈ ks ↔ x ∈ H) : HdOk g ks := by
  have hl : ks.length ≤ H.length := nd_le nd fun x hx => (e x).mp hx
  refine ⟨fun x hx => h.sub x ((e x).mp hx), (e 0).mpr h.z, ?_, fun r hr s hs => ?_⟩
  · have := h.few
    have := Nat.mul_le_mul_right (g.sums.length + 1) hl
    omega
  · obtain ⟨x, hx, hm⟩ := h.cl r ((e r).mp hr) s hs
    exact ⟨x, hx, (e x).mpr hm⟩
/-- a piece stays what it is -/
theorem shw_keepP {p a : Addr} {N : Nat} {S S' : Store} {x d : D} {xs : List D} (hd : shwO S x = d) (hp : PapD N d) (np : x ≠ .obj p) (ha : S a = some (.lst (.lst [] :: xs))) (hk : ∀ q m, q ≠ p → q ≠ a → S q = some m → S' q = some m) : shwO S' x = d := by
  have na : x ≠ .obj a := fun w => by
    subst w
    unfold shwO at hd
    simp only [ha] at hd
    subst hd
    rcases hp with ⟨es, e | e, _, ho⟩ | e | e
    · cases e
      rcases ho (.lst []) (List.mem_cons_self ..) with ⟨i, e, _⟩ | e
      · cases e
      · simp at e
    · cases e
    · cases e
    · cases e
  cases x with
  | obj l =>
    unfold shwO at hd
    cases e : S l with
    | none => simp [e] at hd; subst hd; rcases hp with ⟨es, e | e, _⟩ | e | e <;> cases e
    | some m =>
      cases m with
      | lst ds =>
        simp only [e] at hd
        have := hk l _ (fun w => np (by rw [w])) (fun w => na (by rw [w])) e
        simp only [shwO, this]
        exact hd
      | _ => simp [e] at hd; subst hd; rcases hp with ⟨es, e | e, _⟩ | e | e <;> cases e
  | _ => exact hd
/-- behind some turns: more pieces stand behind the first ones -/
structure TI (p a : Addr) (N m : Nat) (S0 : Store) (xs : List D) (i : Nat) (S' : Store) : Prop where
  box : BoxAt S' p (m + 20 * i)
  kp : ∀ q x, q ≠ p → q ≠ a → S0 q = some x → S' q = some x
  ls : ∃ ps : List D, S' a = some (.lst (.lst [] :: (xs ++ ps))) ∧ ps.length = i ∧ ∀ x, x ∈ ps → Pc p N S' x
theorem TI.more {p a : Addr} {N m i : Nat} {S0 S' S2 : Store} {xs ps : List D} {y d : D} (h : TI p a N m S0 xs i S') (pa : p ≠ a) (hps : S' a = some (.lst (.lst [] :: (xs ++ ps)))) (hl : ps.length = i) (hc : ∀ x, x ∈ ps → Pc p N S' x)
    (hD : Dk S' S2 p (m + 20 * i + 20)) (hy : shwO S2 y = d) (hd : OddP N d) (np : y ≠ .obj p) : TI p a N m S0 xs (i + 1) (supd S2 a (.lst (.lst [] :: (xs ++ ps) ++ [y]))) := by
  have ha2 : S2 a = some (.lst (.lst [] :: (xs ++ ps))) := hD.2 a _ (Ne.symm pa) hps
  have k1 : ∀ q x, q ≠ p → q ≠ a → S2 q = some x → supd S2 a (.lst (.lst [] :: (xs ++ ps) ++ [y])) q = some x := fun q x _ qa e => by rw [supd_ne qa]; exact e
  refine ⟨?_, fun q x qp qa e => by rw [supd_ne qa]; exact hD.2 q x qp (h.kp q x qp qa e), ps ++ [y], ?_, by rw [List.length_append, hl]; rfl, fun x hx => ?_⟩
  · obtain ⟨a', s, t, h1, h2⟩ := hD.1
    exact ⟨a', s, t, by rw [supd_ne pa]; exact h1, by omega⟩
  · rw [supd_same, List.cons_append, List.append_assoc]
  · rcases List.mem_append.mp hx with mx | mx
    · exact ((hc x mx).keep hps fun q x qp qa e => k1 q x qp qa (hD.2 q x qp e)).1
    · rw [List.mem_singleton.mp mx]
      exact (Pc.keep ⟨⟨d, hy, .inl hd⟩, np⟩ ha2 k1).1
theorem gen3 {a c e r : DS} {DD : DEnds} {ρ : DSt} {S : Store} (h : ∀ r', r' = r → dSeq a (dSeq c (dSeq e r')) DD ρ S) : dSeq a (dSeq c (dSeq e r)) DD ρ S := h r rfl
theorem vc_Lright : goal_Lright := by
  rintro x0 S P ⟨p, n, e, hb, hn, h⟩
  cases e
  unfold rd_Lright
  refine gen3 fun r' hr' => ?_
  walk_at "dg7s"
  refine ⟨p, n, rfl, hb, by omega, fun b over most ws ms S1 hd hb1 => ?_⟩
  unfold gameD
  walk_at "dg7s"
  have b0 := hd.b0; have b1 := hd.b1; have o0 := hd.o0; have o1 := hd.o1
  refine ⟨mulS (by omega), ?_⟩
  suffices hk : ∀ (L : Nat) (S2 : Store), L ≤ 2 → BoxAt S2 p (n + 30) → r' (dEnd P) [some (.obj p), some (gameD b over most ws ms), some (.int b), some (.tup (ws.map .int)), some (.int over), some (.tup (ms.map .int)), some (.int most), some (.int (L : Int)), none, none, none, none, none, none, none, none, none, none, none, none] S2 by
    split
    · refine takeK (.refl hb1) (by decide) (by decide) (by omega) fun t S2 t0 t1 hD2 => ?_
      have := hk t.toNat S2 (by omega) (hD2.1.mono (by omega))
      rw [show ((t.toNat : Nat) : Int) = t by omega] at this
      exact this
    · refine takeK (.refl hb1) (by decide) (by decide) (by omega) fun t S2 t0 t1 hD2 => ?_
      have := hk t.toNat S2 (by omega) (hD2.1.mono (by omega))
      rw [show ((t.toNat : Nat) : Int) = t by omega] at this
      exact this
  clear hb hb1
  intro L S2 hL hb2
  subst hr'
  obtain ⟨ys, hy⟩ := hd.sums
  have hso := hd.of hy
  obtain ⟨gm, gmf⟩ := hd.gm hso hL
  obtain ⟨g, hg⟩ : ∃ g, g = gmAt b over most ys L := ⟨_, rfl⟩
  have fit : Fit b over most ws ms ys L := ⟨hd.few.ok, hy, gm, gmf, by omega, by omega, by omega⟩
  have gm' : GmOk g := by rw [hg]; exact gm
  walk_at "dg7s"
  refine ⟨b, over, most, L, ws, ms, ys, rfl, hd.few, hy, by omega, by omega, by omega, by omega, by omega, hso.ne, fun q S3 g3 hq3 => ?_⟩
  rw [← hg] at hq3
  have hRu3 : RuAt S3 q g := dct_dK hq3
  walk_at "dg7s"
  refine ⟨q, g, rfl, hRu3, gm', fun f S4 g4 hf4 hf4' => ?_⟩
  walk_at "dg7s"
  obtain ⟨rs, hrs, hrl, hrb⟩ : ∃ rs : List Int, (layK g).map (·.1) = rs.map Sum.inl ∧ rs.length ≤ 3000 ∧ ∀ x, x ∈ rs → x ∈ g.rests := by
    refine ⟨g.ranks.1.map (·.1) ++ g.ranks.2, ?_, ?_, fun x hx => ?_⟩
    · unfold layK
      rw [List.map_append, kI_keys, List.map_append, List.map_map, List.map_map]
      rfl
    · have := ranks_len gm'
      rw [List.length_append, List.length_map]; omega
    · rcases List.mem_append.mp hx with m | m
      · obtain ⟨t, ht, rfl⟩ := List.mem_map.mp m
        rcases ranksN_inR g _ _ _ _ t ht with m | m
        · cases m
        · exact m
      · exact ranks_sub g x m
  have hmem : ∀ r, r ∈ rs ↔ (Sum.inl r : Key) ∈ (layK g).map (·.1) := fun r => by
    rw [hrs]
    constructor
    · exact fun m => List.mem_map_of_mem m
    · intro m
      obtain ⟨x, hx, e⟩ := List.mem_map.mp m
      cases e; exact hx
  have hin : ∀ r, r ∈ g.ranks.2 → r ∈ rs := fun r hr => by
    rw [hmem]
    unfold layK
    rw [List.map_append, kI_keys]
    exact List.mem_append_right _ (List.mem_map_of_mem hr)
  refine .inr ⟨f, layK g, hf4', fun o vs => ?_⟩
  unfold dLc
  walk_at "dg7"
  refine ⟨f, o, vs, _, rfl, supd_same, ?_⟩
  rw [show (layK g).map (fun kv => kD kv.1) = rs.map D.int by
    have := congrArg (List.map kD) hrs
    rw [List.map_map, List.map_map] at this
    exact this]
  refine lc_filP D.int (fun r => .tup [.int r, .bl true]) (fun r => decide (r ∈ g.ranks.2)) (by omega) supd_same (fun r hr => ⟨_, rfl, fun Q qq => ?_, fun _ Q qq => ?_⟩) ?_
  · walk_at "dg7"
    rw [dct_dZ supd_same]
    rcases lay_val g r with ⟨m, v⟩ | ⟨m, v⟩
    · simp only [v]
      rw [decide_eq_true m] at qq
      exact qq
    · rw [decide_eq_false m] at qq
      rcases v with v | ⟨i, v⟩
      · exact absurd ((hmem r).mp hr) (dVal_none.mp v)
      · simp only [v]
        exact qq
  · walk_at "dg7"
    exact qq
  refine ⟨supd_same, ?_⟩
  rw [supd_supd, supd_id hf4']
  simp only [lstOf, Option.bind, pairs_ints (fun _ => D.bl true)]
  have hfl := List.length_filter_le (fun r => decide (r ∈ g.ranks.2)) rs
  refine ⟨by unfold kI; rw [List.length_map]; omega, fun ha hha => ?_⟩
  have hks := mrg_KS (fun _ => D.bl true) (rs.filter fun r => decide (r ∈ g.ranks.2)) [] (fun _ => False) 0 ⟨[], rfl, by simp, by simp, by simp⟩
  generalize dMrg [] (kI (fun _ => D.bl true) (rs.filter fun r => decide (r ∈ g.ranks.2))) = kvs at *
  obtain ⟨ks, kk1, knd, kmem0, klen⟩ := hks
  have kmem : ∀ x, x ∈ ks ↔ x ∈ g.ranks.2 := fun x => (kmem0 x).trans (by
    simp only [false_or, List.mem_filter, decide_eq_true_iff]
    exact ⟨fun h => h.2, fun h => ⟨hin x h, h⟩⟩)
  have g5 : Grown S4 (supd S4 ha (.dK kvs)) := Grown.new hha
  have hh5 : Lb.HeldAt (supd S4 ha (.dK kvs)) ha ks := ⟨kvs, dct_dK supd_same, kk1⟩
  have hb5 : BoxAt (supd S4 ha (.dK kvs)) p (n + 30) := hb2.grown ((g3.trans g4).trans g5)
  have hRu5 : RuAt (supd S4 ha (.dK kvs)) q g := hRu3.grown (g4.trans g5)
  have hf5 : supd S4 ha (.dK kvs) f = some (.dK (layK g)) := g5 _ _ hf4'
  generalize supd S4 ha (.dK kvs) = S5 at *
  -- both answers of enough_paper
  have two : ∀ (Q : D → Store → Prop) (S6 : Store), (∀ pa S7, Grown S6 S7 → (0 ∉ g.ranks.2 → pa = .non) → (0 ∈ g.ranks.2 → ∃ A, pa = .obj A ∧ S6 A = none ∧ S7 A = some (.lst (g.ranks.2.map .int))) → Q pa S7) → sp_enough_paper [.int b, .tup (ws.map .int), .int over, .tup (ms.map .int), .int most, .int (L : Int)] S6 Q := fun Q S6 hQ => by
    refine ⟨b, over, most, ws, ms, ys, L, rfl, fit, fun n0 S7 g7 => ?_, fun i0 A S7 g7 nA hA => ?_⟩
    · rw [← hg] at n0
      exact hQ _ S7 g7 (fun _ => rfl) fun i0 => absurd i0 n0
    · rw [← hg] at i0 hA
      exact hQ _ S7 g7 (fun n0 => absurd i0 n0) fun _ => ⟨A, rfl, nA, hA⟩
  refine two _ S5 fun pa S6 g6 pa0 pa1 => ?_
  intro c hc
  have cS5 : S5 c = none := by
    cases e : S5 c with
    | none => rfl
    | some m => rw [g6 _ _ e] at hc; cases hc
  refine ⟨_, rfl, two _ _ fun pb S7 g7 pb0 pb1 => ?_⟩
  refine ⟨_, g7 _ _ supd_same, by simp, ?_⟩
  have g57 : Grown S5 (supd S7 c (.lst ([pa] ++ [pb]))) := ((g6.again cS5).trans g7).again cS5
  have hc7 : supd S7 c (.lst ([pa] ++ [pb])) c = some (.lst [pa, pb]) := supd_same
  have ht7 : TwoP (supd S7 c (.lst ([pa] ++ [pb]))) pa pb g.ranks.2 (decide (0 ∈ g.ranks.2)) := by
    by_cases c0 : (0 : Int) ∈ g.ranks.2
    · rw [decide_eq_true c0]
      obtain ⟨A, rfl, nA, hA⟩ := pa1 c0
      obtain ⟨B, rfl, nB, hB⟩ := pb1 c0
      have Ac : A ≠ c := fun w => by subst w; rw [hA] at hc; cases hc
      have AB : A ≠ B := fun w => by subst w; rw [supd_ne Ac, hA] at nB; cases nB
      have Bc : B ≠ c := fun w => by subst w; rw [supd_same] at nB; cases nB
      exact ⟨A, B, rfl, rfl, AB, by rw [supd_ne Ac]; exact g7 _ _ (by rw [supd_ne Ac]; exact hA), by rw [supd_ne Bc]; exact hB⟩
    · rw [decide_eq_false c0]
      exact ⟨pa0 c0, pb0 c0⟩
  generalize supd S7 c (.lst ([pa] ++ [pb])) = S8 at *
  have hb8 : BoxAt S8 p (n + 30) := hb5.grown g57
  have hq8 : RuAt S8 q g := hRu5.grown g57
  have hf8 := g57 _ _ hf5
  have hh8 : Lb.HeldAt S8 ha ks := by
    obtain ⟨kv, k1, k2⟩ := hh5
    refine ⟨kv, ?_, k2⟩
    cases e : S5 ha with
    | none => simp only [dctOf, e] at k1; cases k1
    | some m => simp only [dctOf, g57 _ _ e, e] at k1 ⊢; exact k1
  obtain ⟨kv0, k01, k02⟩ := held_of (x := 0) hh8
  have k03 : decide ((0 : Int) ∈ ks) = decide ((0 : Int) ∈ g.ranks.2) := by
    by_cases c0 : (0 : Int) ∈ g.ranks.2
    · rw [decide_eq_true c0, decide_eq_true ((kmem 0).mpr c0)]
    · rw [decide_eq_false c0, decide_eq_false fun z => c0 ((kmem 0).mp z)]
  rw [k03] at k02
  have rsb : ∀ zs : List Int, zs.Perm rs → (∀ e, e ∈ zs.map D.int → OddE e) ∧ zs.length ≤ 3000 := fun zs hp => by
    refine ⟨ints_odd fun x hx => ?_, by rw [hp.length_eq]; omega⟩
    have := hrb x (hp.mem_iff.mp hx)
    unfold Gm.rests at this
    rw [mem_irg] at this
    have := gm'.few
    omega
  walk_at "dg7s"
  by_cases c0 : (0 : Int) ∈ g.ranks.2
  · have hA8 := ht7
    rw [decide_eq_true c0] at hA8
    obtain ⟨A, B, rfl, rfl, AB, hA, hB⟩ := hA8
    have rl := ranks_len gm'
    refine ⟨_, _, .lst (g.ranks.2.map .int), rfl, by simp only [shwO, hA], by simp only [shwO, hB], .lst (by rw [List.length_map]; omega) (fun y hy => by obtain ⟨r, _, rfl⟩ := List.mem_map.mp hy; exact .int), ?_⟩
    walk_at "dg7"
    simp only [hc7, k01, k02, decide_eq_true c0]
    walk_at "dg7"
    try simp only [dct_dK hf8]
    try walk_at "dg7"
    refine ⟨rs, hrs, fun zs hzp hzs a2 ha2 => ?_⟩
    have c2 : c ≠ a2 := fun w => by subst w; rw [hc7] at ha2; cases ha2
    have a2p : a2 ≠ p := fun w => by
      obtain ⟨a', s, t, h1, _⟩ := hb8
      rw [w, h1] at ha2; cases ha2
    obtain ⟨zo, zl⟩ := rsb zs hzp
    have g9 : Grown S8 (supd S8 a2 (.lst [.lst [], .lst [.int 0], .non, .int 0, .lst (zs.map .int)])) := Grown.new ha2
    have ha9 : supd S8 a2 (.lst [.lst [], .lst [.int 0], .non, .int 0, .lst (zs.map .int)]) a2 = some (.lst [.lst [], .lst [.int 0], .non, .int 0, .lst (zs.map .int)]) := supd_same
    generalize supd S8 a2 (.lst [.lst [], .lst [.int 0], .non, .int 0, .lst (zs.map .int)]) = S9 at *
    have hc9 := g9 _ _ hc7
    have hq9 := hq8.grown g9
    have hb9 := hb8.grown g9
    have hh9 : ∃ kv, dctOf S9 (.obj ha) = some kv ∧ kv.map (·.1) = ks.map Sum.inl := by
      obtain ⟨kv, k1, k2⟩ := hh8
      refine ⟨kv, ?_, k2⟩
      cases e : S8 ha with
      | none => simp only [dctOf, e] at k1; cases k1
      | some m => simp only [dctOf, g9 _ _ e, e] at k1 ⊢; exact k1
    have hh9' : Lb.HeldAt S9 ha ks := hh9
    obtain ⟨kv, kv1, kv2⟩ := hh9
    simp only [hc9]
    walk_at "dg7"
    simp only [kv1]
    refine ⟨ks, kv2, fun hs hsp hss => ?_⟩
    have hdok : HdOk g ks := HdOk.congr (by have := held_ok hd hy hL (by rw [← hg]; exact c0); rw [← hg] at this; exact this) knd kmem
    have qp : q ≠ p := fun w => by
      subst w
      obtain ⟨a', s, t, h1, _⟩ := hb9
      have hq' : dctOf S9 (.obj q) = some (ruK g) := hq9
      simp only [dctOf, h1] at hq'; cases hq'
    have hap : ha ≠ p := fun w => by
      subst w
      obtain ⟨a', s, t, h1, _⟩ := hb9
      simp only [dctOf, h1] at kv1; cases kv1
    refine ⟨p, q, ha, n + 30, g, ks, rfl, hb9, by omega, hq9, gm', hh9', hdok, qp, hap, fun cs S10 hcs hD10 => ?_⟩
    have ha10 := hD10.2 a2 _ a2p ha9
    dsimp only
    unfold dAddM
    simp only [lstOf, ha10]
    refine ⟨⟨rfl, rfl⟩, by simp, fun a3 ha3 => ?_⟩
    have hsh1 : g.shows g.ranks.2 = true := shows_cl gm' (ranks_sub g) c0 (by have := (held_ok hd hy hL (by rw [← hg]; exact c0)).cl; rw [← hg] at this; exact this)
    have hsm : ∀ x, x ∈ hs ↔ x ∈ ks := fun x => hsp.mem_iff
    have hsh2 : g.shows hs = true := shows_cl gm' (fun x hx => hdok.sub x ((hsm x).mp hx)) ((hsm 0).mpr hdok.z) fun r hr s hs' => by
      obtain ⟨x, hx, hm⟩ := hdok.cl r ((hsm r).mp hr) s hs'
      exact ⟨x, hx, (hsm x).mpr hm⟩
    have hsh3 : g.shows cs = true := shows_cl gm' (fun x hx => hdok.sub x (hcs.sub x hx)) hcs.z hcs.cl
    have npa3 : p ≠ a3 := fun w => by
      obtain ⟨a', s, t, h1, _⟩ := hD10.1
      rw [w, ha3] at h1; cases h1
    have hA9 := g9 _ _ hA
    have Ap : A ≠ p := fun w => by
      obtain ⟨A', e, nA, _⟩ := pa1 c0
      cases e
      obtain ⟨a', s, t, h1, _⟩ := hb5
      rw [← w, nA] at h1; cases h1
    have hA10 := hD10.2 A _ Ap hA9
    have g11 : Grown S10 (supd S10 a3 (.lst [.lst [], .lst [.int 0], .non, .int 0, .lst (zs.map .int), .obj A, .lst (hs.map .int), .lst (cs.map .int)])) := Grown.new ha3
    have ha11 : supd S10 a3 (.lst [.lst [], .lst [.int 0], .non, .int 0, .lst (zs.map .int), .obj A, .lst (hs.map .int), .lst (cs.map .int)]) a3 = some (.lst [.lst [], .lst [.int 0], .non, .int 0, .lst (zs.map .int), .obj A, .lst (hs.map .int), .lst (cs.map .int)]) := supd_same
    simp only [List.cons_append, List.nil_append]
    generalize supd S10 a3 (.lst [.lst [], .lst [.int 0], .non, .int 0, .lst (zs.map .int), .obj A, .lst (hs.map .int), .lst (cs.map .int)]) = S11 at *
    simp only [ha11]
    rw [show dcut [D.lst [], .lst [.int 0], .non, .int 0, .lst (zs.map .int), .obj A, .lst (hs.map .int), .lst (cs.map .int)] (some 5) none = [D.obj A, .lst (hs.map .int), .lst (cs.map .int)] from rfl]
    have hq10 : RuAt S10 q g := by
      have hq' : dctOf S9 (.obj q) = some (ruK g) := hq9
      show dctOf S10 (.obj q) = some (ruK g)
      cases e : S9 q with
      | none => simp only [dctOf, e] at hq'; cases hq'
      | some m => simp only [dctOf, hD10.2 q m qp e, e] at hq' ⊢; exact hq'
    have hq11 := hq10.grown g11
    have hA11 := g11 _ _ hA10
    have small : ∀ x, x ∈ g.rests → x.natAbs ≤ 1000000000 := fun x hx => by
      unfold Gm.rests at hx
      rw [mem_irg] at hx
      have := gm'.few
      omega
    have bits : ∀ d, d ∈ [D.obj A, .lst (hs.map .int), .lst (cs.map .int)] → ∃ xs : List Int, shwO S11 d = .lst (xs.map .int) ∧ xs.length ≤ 3000 ∧ (∀ x, x ∈ xs → x.natAbs ≤ 1000000000) ∧ g.shows xs = true ∧ d ≠ .obj p := fun d hdm => by
      have hrl' := rests_len gm'
      have hkl : ks.length ≤ 2001 := Nat.le_trans (nd_le knd hdok.sub) hrl'
      simp only [List.mem_cons, List.not_mem_nil, or_false] at hdm
      rcases hdm with rfl | rfl | rfl
      · exact ⟨g.ranks.2, by simp only [shwO, hA11], by omega, fun x hx => small x (ranks_sub g x hx), hsh1, fun w => by cases w; exact Ap rfl⟩
      · exact ⟨hs, rfl, by rw [hsp.length_eq]; omega, fun x hx => small x (hdok.sub x ((hsm x).mp hx)), hsh2, fun w => by cases w⟩
      · exact ⟨cs, rfl, Nat.le_trans (nd_le hcs.nd hcs.sub) (by omega), fun x hx => small x (hdok.sub x (hcs.sub x hx)), hsh3, fun w => by cases w⟩
    refine lc_st (fun _ y => y = .bl true) (fun i S' => Grown S11 S') (by simp) Grown.refl (fun i d S' hdd gS => ⟨_, rfl, fun Q qq => ?_⟩) (fun us S12 hlen hR gS => ?_)
    · obtain ⟨xs, x1, x2, x3, x4, _⟩ := bits d (List.mem_of_getElem? hdd)
      have tm : TmP 60000 (.lst (xs.map .int)) := ⟨by rw [List.length_map]; omega, fun e he => odd_tm (ints_odd x3 e he)⟩
      walk_at "dg7"
      refine ⟨q, g, d, _, rfl, hq11.grown gS, gm', shw_grown x1 tm gS, tm, fun S'' g'' => ?_⟩
      rw [papB_ints, x4]
      exact qq _ _ rfl (gS.trans g'')
    have hus : us = [.bl true, .bl true, .bl true] := by
      have : us = List.replicate 3 (.bl true) := List.eq_replicate_iff.mpr ⟨hlen, fun y hy => by
        obtain ⟨k, hk, ek⟩ := List.getElem_of_mem hy
        exact hR k y (by rw [List.getElem?_eq_getElem hk, ek])⟩
      exact this
    subst hus
    refine ⟨by decide, by decide, by decide, ?_⟩
    rw [show dEqB (.lst [.bl true, .bl true, .bl true]) (.lst (List.replicate (Int.toNat 3) [D.bl true]).flatten) = some true by decide +kernel]
    walk_at "dg7"
    have hB9 := g9 _ _ hB
    have Bp : B ≠ p := fun w => by
      obtain ⟨B', e, nB, _⟩ := pb1 c0
      cases e
      subst w
      obtain ⟨a', s, t, h1, _⟩ := hb5
      have h2 := g6 _ _ h1
      by_cases wc : B = c
      · rw [wc, supd_same] at nB; cases nB
      · rw [supd_ne wc, h2] at nB; cases nB
    have hB12 := gS _ _ (g11 _ _ (hD10.2 B _ Bp hB9))
    have hA12 := gS _ _ hA11
    have cp : c ≠ p := fun w => by
      obtain ⟨a', s, t, h1, _⟩ := hb8
      rw [w, h1] at hc7; cases hc7
    have hc12 := gS _ _ (g11 _ _ (hD10.2 c _ cp hc9))
    have ha12 := gS _ _ ha11
    have hq12 := hq11.grown gS
    have hb12 : BoxAt S12 p (n + 31) := ((hD10.1.mono (by omega)).grown g11).grown gS
    have ca : c ≠ a3 := fun w => by rw [w, ha12] at hc12; cases hc12
    have Aa : A ≠ a3 := fun w => by
      rw [w, ha12] at hA12
      have e := MO.lst.inj (Option.some.inj hA12)
      cases hH : g.ranks.2 with
      | nil => rw [hH] at e; cases e
      | cons x l => rw [hH] at e; simp at e
    have Ba : B ≠ a3 := fun w => by
      rw [w, ha12] at hB12
      have e := MO.lst.inj (Option.some.inj hB12)
      cases hH : g.ranks.2 with
      | nil => rw [hH] at e; cases e
      | cons x l => rw [hH] at e; simp at e
    have qa : q ≠ a3 := fun w => by
      subst w
      have hq' : dctOf S12 (.obj q) = some (ruK g) := hq12
      simp only [dctOf, ha12] at hq'; cases hq'
    refine ⟨by decide, by decide, fun i ρ S' => ∃ z14 z15, TI p a3 3010 (n + 31) S12 [.lst [.int 0], .non, .int 0, .lst (zs.map .int), .obj A, .lst (hs.map .int), .lst (cs.map .int)] i S' ∧ ρ = [some (.obj p), some (gameD b over most ws ms), some (.int b), some (.tup (ws.map .int)), some (.int over), some (.tup (ms.map .int)), some (.int most), some (.int (L : Int)), some (.obj q), some (.obj f), some (.obj ha), none, some (.obj c), some (.obj a3), z14, z15, none, none, none, none], ⟨_, _, ⟨hb12, fun q x _ _ e => e, [], ha12, rfl, fun x hx => by cases hx⟩, rfl⟩, ?_, ?_⟩
    · rintro i d ρ S' hdd ⟨z14, z15, hT, rfl⟩
      obtain ⟨hi, rfl⟩ := rng_get hdd
      obtain ⟨ps, hps, hpl, hpc⟩ := hT.ls
      refine ⟨_, rfl, ?_⟩
      walk_at "dg7"
      refine ⟨_, hps, ?_⟩
      simp only [hps]
      obtain ⟨x, hx1, hx2⟩ : ∃ x, atI (D.lst [] :: ([D.lst [.int 0], .non, .int 0, .lst (zs.map .int), .obj A, .lst (hs.map .int), .lst (cs.map .int)] ++ ps)) (5 + (0 + (i : Int)) % 3) = some x ∧ x ∈ [D.obj A, .lst (hs.map .int), .lst (cs.map .int)] := by
        rcases (show i = 0 ∨ i = 1 ∨ i = 2 ∨ i = 3 by omega) with e | e | e | e
        · subst e
          refine ⟨.obj A, ?_, by simp⟩
          rw [show (5 : Int) + (0 + ((0 : Nat) : Int)) % 3 = 5 from rfl, atI_at (by decide) (by simp; omega)]
          rfl
        · subst e
          refine ⟨.lst (hs.map .int), ?_, by simp⟩
          rw [show (5 : Int) + (0 + ((1 : Nat) : Int)) % 3 = 6 from rfl, atI_at (by decide) (by simp; omega)]
          rfl
        · subst e
          refine ⟨.lst (cs.map .int), ?_, by simp⟩
          rw [show (5 : Int) + (0 + ((2 : Nat) : Int)) % 3 = 7 from rfl, atI_at (by decide) (by simp; omega)]
          rfl
        · subst e
          refine ⟨.obj A, ?_, by simp⟩
          rw [show (5 : Int) + (0 + ((3 : Nat) : Int)) % 3 = 5 from rfl, atI_at (by decide) (by simp; omega)]
          rfl
      simp only [List.cons_append, List.nil_append] at hx1 ⊢
      simp only [hx1]
      obtain ⟨xs, x1, x2, x3, x4, xp⟩ := bits x hx2
      have xo := ints_odd x3
      have tm : TmP 60000 (.lst (xs.map .int)) := ⟨by rw [List.length_map]; omega, fun e he => odd_tm (xo e he)⟩
      have y1 := shw_grown x1 tm gS
      have y2 := shw_keepP (N := 3000) (a := a3) y1 (.inl ⟨_, .inl rfl, by rw [List.length_map]; exact x2, xo⟩) xp ha12 hT.kp
      refine ⟨p, q, n + 31 + 20 * i, 3000, x, xs.map .int, rfl, hT.box, by omega, by decide, y2, by rw [List.length_map]; exact x2, xo, fun y d S2 hy hd hne hD => ?_⟩
      have pa3 : p ≠ a3 := npa3
      refine ⟨_, hD.2 a3 _ (Ne.symm pa3) hps, by simp; omega, _, _, ?_, rfl⟩
      obtain ⟨es, he, hel, heo⟩ := hd
      exact hT.more pa3 hps hpl hpc hD hy ⟨es, he, by omega, heo⟩ hne
    · rintro ρ S' ⟨z14, z15, hT, rfl⟩
      rw [rng_len] at hT
      obtain ⟨ps, hps, hpl, hpc⟩ := hT.ls
      have hqk : RuAt S' q g := by
        have hq' : dctOf S12 (.obj q) = some (ruK g) := hq12
        show dctOf S' (.obj q) = some (ruK g)
        cases e : S12 q with
        | none => simp only [dctOf, e] at hq'; cases hq'
        | some m => simp only [dctOf, hT.kp q m qp qa e, e] at hq' ⊢; exact hq'
      have hA' := hT.kp A _ Ap Aa hA12
      have hB' := hT.kp B _ Bp Ba hB12
      have hc' := hT.kp c _ cp ca hc12
      have ht' : TwoP S' (.obj A) (.obj B) (gmAt b over most ys L).ranks.2 (decide (0 ∈ (gmAt b over most ys L).ranks.2)) := by
        rw [← hg, decide_eq_true c0]
        exact ⟨A, B, rfl, rfl, AB, hA', hB'⟩
      refine right2 (N := 3010) h fit (by decide) (by rw [← hg]; exact hqk) hps (by simp; omega) (fun x hx => ?_) hc' ht'
      have keep : ∀ d, d ∈ [D.obj A, .lst (hs.map .int), .lst (cs.map .int)] → ∃ d', shwO S' d = d' ∧ PapD 3010 d' := fun d hd => by
        obtain ⟨xs, x1, x2, x3, x4, xp⟩ := bits d hd
        have xo := ints_odd x3
        have tm : TmP 60000 (.lst (xs.map .int)) := ⟨by rw [List.length_map]; omega, fun e he => odd_tm (xo e he)⟩
        have y1 := shw_grown x1 tm gS
        have y2 := shw_keepP (N := 3000) (a := a3) y1 (.inl ⟨_, .inl rfl, by rw [List.length_map]; exact x2, xo⟩) xp ha12 hT.kp
        exact ⟨_, y2, .inl ⟨_, .inl rfl, by rw [List.length_map]; omega, xo⟩⟩
      simp only [List.mem_cons, List.cons_append, List.nil_append] at hx
      rcases hx with rfl | rfl | rfl | rfl | rfl | rfl | rfl | rfl | hx
      · exact ⟨_, rfl, .inl ⟨[], .inl rfl, by simp, by simp⟩⟩
      · exact ⟨_, rfl, .inl ⟨[.int 0], .inl rfl, by simp, ints_odd (xs := [0]) (by simp)⟩⟩
      · exact ⟨_, rfl, .inr (.inl rfl)⟩
      · exact ⟨_, rfl, .inr (.inr rfl)⟩
      · exact ⟨_, rfl, .inl ⟨_, .inl rfl, by rw [List.length_map]; omega, zo⟩⟩
      · exact keep _ (by simp)
      · exact keep _ (by simp)
      · exact keep _ (by simp)
      · exact (hpc x hx).ex
  · have e1 := pa0 c0
    have e2 := pb0 c0
    subst e1; subst e2
    refine ⟨_, _, .non, rfl, rfl, rfl, .non, ?_⟩
    walk_at "dg7"
    simp only [hc7, k01, k02, decide_eq_false c0]
    walk_at "dg7"
    try simp only [dct_dK hf8]
    try walk_at "dg7"
    refine ⟨rs, hrs, fun zs hzp hzs a2 ha2 => ?_⟩
    have c2 : c ≠ a2 := fun w => by subst w; rw [hc7] at ha2; cases ha2
    have hc9 : supd S8 a2 (.lst [.lst [], .lst [.int 0], .non, .int 0, .lst (zs.map .int)]) c = some (.lst [.non, .non]) := by rw [supd_ne c2]; exact hc7
    obtain ⟨zo, zl⟩ := rsb zs hzp
    have hq9 : RuAt (supd S8 a2 (.lst [.lst [], .lst [.int 0], .non, .int 0, .lst (zs.map .int)])) q g := hq8.grown (Grown.new ha2)
    have ha9 : supd S8 a2 (.lst [.lst [], .lst [.int 0], .non, .int 0, .lst (zs.map .int)]) a2 = some (.lst [.lst [], .lst [.int 0], .non, .int 0, .lst (zs.map .int)]) := supd_same
    have ht9 : TwoP (supd S8 a2 (.lst [.lst [], .lst [.int 0], .non, .int 0, .lst (zs.map .int)])) .non .non (gmAt b over most ys L).ranks.2 (decide (0 ∈ (gmAt b over most ys L).ranks.2)) := by
      rw [← hg, decide_eq_false c0]
      exact ⟨rfl, rfl⟩
    generalize supd S8 a2 (.lst [.lst [], .lst [.int 0], .non, .int 0, .lst (zs.map .int)]) = S9 at *
    simp only [hc9]
    walk_at "dg7"
    refine right2 (N := 3000) h fit (by decide) (by rw [← hg]; exact hq9) ha9 (by simp) (fun x hx => ?_) hc9 ht9
    simp only [List.mem_cons, List.not_mem_nil, or_false] at hx
    rcases hx with rfl | rfl | rfl | rfl | rfl
    · exact ⟨_, rfl, .inl ⟨[], .inl rfl, by simp, by simp⟩⟩
    · exact ⟨_, rfl, .inl ⟨[.int 0], .inl rfl, by simp, ints_odd (xs := [0]) (by simp)⟩⟩
    · exact ⟨_, rfl, .inr (.inl rfl)⟩
    · exact ⟨_, rfl, .inr (.inr rfl)⟩
    · exact ⟨_, rfl, .inl ⟨_, .inl rfl, by rw [List.length_map]; exact zl, zo⟩⟩
theorem len_Lright : ∀ ds S P, sp_Lright ds S P → ds.length = 1 := by rintro ds S P ⟨a, b, rfl, _⟩; rfl
theorem len_law : ∀ ds S P, sp_law ds S P → ds.length = 1 := law_len
theorem vc_law : goal_law := by
  rintro x0 S P ⟨ns, e, hn, h⟩
  cases e
  unfold rd_law
  walk_at "dg7"
  rw [List.length_map]
  have e1 : 1 ≤ (if (if (ns.length : Int) < (2 : Int) then (ns.length : Int) else (2 : Int)) > 1 then (if (ns.length : Int) < (2 : Int) then (ns.length : Int) else (2 : Int)) else 1) ∧ (if (if (ns.length : Int) < (2 : Int) then (ns.length : Int) else (2 : Int)) > 1 then (if (ns.length : Int) < (2 : Int) then (ns.length : Int) else (2 : Int)) else 1) ≤ 2 := by split <;> split <;> omega
  generalize (if (if (ns.length : Int) < (2 : Int) then (ns.length : Int) else (2 : Int)) > 1 then (if (ns.length : Int) < (2 : Int) then (ns.length : Int) else (2 : Int)) else 1) = c at *
  refine ⟨by omega, by omega, by rw [rng_len]; omega, fun i acc S' => acc = List.replicate i (.bl true), rfl, ?_, ?_⟩
  · rintro i d acc S2 hd rfl
    obtain ⟨hi, rfl⟩ := rng_get hd
    refine ⟨_, rfl, ?_⟩
    walk_at "dg7"
    refine ⟨ns, _, rfl, by omega, by omega, fun p S3 hp hd3 => ?_⟩
    walk_at "dg7"
    refine ⟨p, 0, rfl, hd3.box, by decide, fun S4 => ?_⟩
    walk_at "dg7"
    rw [List.replicate_succ']
  · rintro acc S2 rfl
    walk_at "dg7"
    have hb : ∀ m : Nat, dBools (List.replicate m (.bl true)) = some (List.replicate m true) := fun m => by
      have := dBools_map (List.replicate m true)
      rwa [List.map_replicate] at this
    unfold cAll
    simp only [lstOf, Option.bind, hb]
    have ht : (List.replicate (rng 0 c.toNat).length true).all id = true := by simp
    rw [ht]
    exact h _
end K35

namespace K35
@[elab_as_elim] theorem us_1 {α : Type} {p : List α → Prop} (us : List α) (hl : us.length = 1) (h : ∀ a0, p [a0]) : p us := by
  match us, hl with
  | [a0], _ => exact h a0
@[elab_as_elim] theorem us_2 {α : Type} {p : List α → Prop} (us : List α) (hl : us.length = 2) (h : ∀ a0 a1, p [a0, a1]) : p us := by
  match us, hl with
  | [a0, a1], _ => exact h a0 a1
@[elab_as_elim] theorem us_3 {α : Type} {p : List α → Prop} (us : List α) (hl : us.length = 3) (h : ∀ a0 a1 a2, p [a0, a1, a2]) : p us := by
  match us, hl with
  | [a0, a1, a2], _ => exact h a0 a1 a2
@[elab_as_elim] theorem us_4 {α : Type} {p : List α → Prop} (us : List α) (hl : us.length = 4) (h : ∀ a0 a1 a2 a3, p [a0, a1, a2, a3]) : p us := by
  match us, hl with
  | [a0, a1, a2, a3], _ => exact h a0 a1 a2 a3
@[elab_as_elim] theorem us_5 {α : Type} {p : List α → Prop} (us : List α) (hl : us.length = 5) (h : ∀ a0 a1 a2 a3 a4, p [a0, a1, a2, a3, a4]) : p us := by
  match us, hl with
  | [a0, a1, a2, a3, a4], _ => exact h a0 a1 a2 a3 a4
@[elab_as_elim] theorem us_6 {α : Type} {p : List α → Prop} (us : List α) (hl : us.length = 6) (h : ∀ a0 a1 a2 a3 a4 a5, p [a0, a1, a2, a3, a4, a5]) : p us := by
  match us, hl with
  | [a0, a1, a2, a3, a4, a5], _ => exact h a0 a1 a2 a3 a4 a5
@[elab_as_elim] theorem us_7 {α : Type} {p : List α → Prop} (us : List α) (hl : us.length = 7) (h : ∀ a0 a1 a2 a3 a4 a5 a6, p [a0, a1, a2, a3, a4, a5, a6]) : p us := by
  match us, hl with
  | [a0, a1, a2, a3, a4, a5, a6], _ => exact h a0 a1 a2 a3 a4 a5 a6
@[elab_as_elim] theorem us_8 {α : Type} {p : List α → Prop} (us : List α) (hl : us.length = 8) (h : ∀ a0 a1 a2 a3 a4 a5 a6 a7, p [a0, a1, a2, a3, a4, a5, a6, a7]) : p us := by
  match us, hl with
  | [a0, a1, a2, a3, a4, a5, a6, a7], _ => exact h a0 a1 a2 a3 a4 a5 a6 a7
open PySem PySem.Spec PyProof.Rows L2 DL Lb
def topS (i : Nat) : Stmt := PySem.Challenge.pw_firstfigures_k35_papers_that_a_lag_is_en.main.body.getD i (.Pass ⟨0, 0, 0, 0⟩)
abbrev s_is_number : Stmt := topS 3
theorem sc_is_number : FnScope ["thing"] ["thing"] (defScope s_is_number) := ⟨rfl, rfl, rfl, by decide +kernel, rfl, by decide +kernel, by decide +kernel⟩
abbrev s_power : Stmt := topS 4
theorem sc_power : FnScope ["base", "many", "found", "turn"] ["base", "many"] (defScope s_power) := ⟨rfl, rfl, rfl, by decide +kernel, rfl, by decide +kernel, by decide +kernel⟩
abbrev s_sums_of : Stmt := topS 7
theorem sc_sums_of : FnScope ["weights", "mosts", "found", "weight", "most", "one", "figure"] ["weights", "mosts"] (defScope s_sums_of) := ⟨rfl, rfl, rfl, by decide +kernel, rfl, by decide +kernel, by decide +kernel⟩
abbrev s_Game_init : Stmt := inClass (topS 8) 0
theorem sc_Game_init : FnScope ["self", "base", "weights", "over", "mosts", "most", "lag"] ["self", "base", "weights", "over", "mosts", "most", "lag"] (defScope s_Game_init) := ⟨rfl, rfl, rfl, by decide +kernel, rfl, by decide +kernel, by decide +kernel⟩
abbrev s_Game_is_lost : Stmt := inClass (topS 8) 1
theorem sc_Game_is_lost : FnScope ["self", "rest"] ["self", "rest"] (defScope s_Game_is_lost) := ⟨rfl, rfl, rfl, by decide +kernel, rfl, by decide +kernel, by decide +kernel⟩
abbrev s_Game_greatest : Stmt := inClass (topS 8) 2
theorem sc_Game_greatest : FnScope ["self"] ["self"] (defScope s_Game_greatest) := ⟨rfl, rfl, rfl, by decide +kernel, rfl, by decide +kernel, by decide +kernel⟩
abbrev s_Game_rests : Stmt := inClass (topS 8) 3
theorem sc_Game_rests : FnScope ["self"] ["self"] (defScope s_Game_rests) := ⟨rfl, rfl, rfl, by decide +kernel, rfl, by decide +kernel, by decide +kernel⟩
abbrev s_Game_look : Stmt := inClass (topS 8) 4
theorem sc_Game_look : FnScope ["self", "many"] ["self"] (defScope s_Game_look) := ⟨rfl, rfl, rfl, by decide +kernel, rfl, by decide +kernel, by decide +kernel⟩
abbrev s_Game_led_to : Stmt := inClass (topS 8) 5
theorem sc_Game_led_to : FnScope ["self", "ahead", "least", "most", "figure"] ["self", "ahead"] (defScope s_Game_led_to) := ⟨rfl, rfl, rfl, by decide +kernel, rfl, by decide +kernel, by decide +kernel⟩
abbrev s_Game_is_held : Stmt := inClass (topS 8) 6
theorem sc_Game_is_held : FnScope ["self", "rest", "sum_now", "held", "one"] ["self", "rest", "sum_now", "held"] (defScope s_Game_is_held) := ⟨rfl, rfl, rfl, by decide +kernel, rfl, by decide +kernel, by decide +kernel⟩
abbrev s_Game_first_fatal : Stmt := inClass (topS 8) 7
theorem sc_Game_first_fatal : FnScope ["self", "rest", "known", "held", "sum_now", "ahead"] ["self", "rest", "known", "held"] (defScope s_Game_first_fatal) := ⟨rfl, rfl, rfl, by decide +kernel, rfl, by decide +kernel, by decide +kernel⟩
abbrev s_Game_ranks : Stmt := inClass (topS 8) 8
theorem sc_Game_ranks : FnScope ["self", "found", "held", "rest", "rank", "known", "fatal", "gone"] ["self"] (defScope s_Game_ranks) := ⟨rfl, rfl, rfl, by decide +kernel, rfl, by decide +kernel, by decide +kernel⟩
abbrev s_enough_paper : Stmt := topS 9
theorem sc_enough_paper : FnScope ["base", "weights", "over", "mosts", "most", "lag", "game", "held"] ["base", "weights", "over", "mosts", "most", "lag"] (defScope s_enough_paper) := ⟨rfl, rfl, rfl, by decide +kernel, rfl, by decide +kernel, by decide +kernel⟩
abbrev s_shows_enough : Stmt := topS 10
theorem sc_shows_enough : FnScope ["base", "weights", "over", "mosts", "most", "lag", "thing", "game", "rest", "held", "known"] ["base", "weights", "over", "mosts", "most", "lag", "thing"] (defScope s_shows_enough) := ⟨rfl, rfl, rfl, by decide +kernel, rfl, by decide +kernel, by decide +kernel⟩
abbrev s_Lcell_at : Stmt := topS 12
theorem sc_Lcell_at : FnScope ["_law_script", "_law_k"] ["_law_script", "_law_k"] (defScope s_Lcell_at) := ⟨rfl, rfl, rfl, by decide +kernel, rfl, by decide +kernel, by decide +kernel⟩
abbrev s_Lbox : Stmt := topS 13
theorem sc_Lbox : FnScope ["_law_script", "_law_k", "_law_core"] ["_law_script", "_law_k"] (defScope s_Lbox) := ⟨rfl, rfl, rfl, by decide +kernel, rfl, by decide +kernel, by decide +kernel⟩
abbrev s_Ltake : Stmt := topS 14
theorem sc_Ltake : FnScope ["_law_box_here", "_law_size", "_law_found", "_law_once", "_law_twice"] ["_law_box_here", "_law_size"] (defScope s_Ltake) := ⟨rfl, rfl, rfl, by decide +kernel, rfl, by decide +kernel, by decide +kernel⟩
abbrev s_Lof : Stmt := topS 15
theorem sc_Lof : FnScope ["_law_box_here", "_law_some"] ["_law_box_here", "_law_some"] (defScope s_Lof) := ⟨rfl, rfl, rfl, by decide +kernel, rfl, by decide +kernel, by decide +kernel⟩
abbrev s_Lsame : Stmt := topS 16
theorem sc_Lsame : FnScope ["_law_found", "_law_due", "_law_key", "_law_one", "_law_two"] ["_law_found", "_law_due"] (defScope s_Lsame) := ⟨rfl, rfl, rfl, by decide +kernel, rfl, by decide +kernel, by decide +kernel⟩
abbrev s_Lsums : Stmt := topS 17
theorem sc_Lsums : FnScope ["_law_shares", "_law_wides", "_law_found", "_law_share", "_law_wide", "_law_more", "_law_one", "_law_figure"] ["_law_shares", "_law_wides"] (defScope s_Lsums) := ⟨rfl, rfl, rfl, by decide +kernel, rfl, by decide +kernel, by decide +kernel⟩
abbrev s_Ldrawn : Stmt := topS 18
theorem sc_Ldrawn : FnScope ["_law_box_here", "_law_root", "_law_least", "_law_shares", "_law_turn", "_law_wides", "_law_share"] ["_law_box_here"] (defScope s_Ldrawn) := ⟨rfl, rfl, rfl, by decide +kernel, rfl, by decide +kernel, by decide +kernel⟩
abbrev s_Lrules : Stmt := topS 19
theorem sc_Lrules : FnScope ["_law_game", "_law_late", "_law_root", "_law_shares", "_law_by", "_law_wides", "_law_wide", "_law_sums_here", "_law_step", "_law_turn"] ["_law_game", "_law_late"] (defScope s_Lrules) := ⟨rfl, rfl, rfl, by decide +kernel, rfl, by decide +kernel, by decide +kernel⟩
abbrev s_Lis_lost : Stmt := topS 20
theorem sc_Lis_lost : FnScope ["_law_g", "_law_rest"] ["_law_g", "_law_rest"] (defScope s_Lis_lost) := ⟨rfl, rfl, rfl, by decide +kernel, rfl, by decide +kernel, by decide +kernel⟩
abbrev s_Lrests : Stmt := topS 21
theorem sc_Lrests : FnScope ["_law_g", "_law_found", "_law_rest", "_law_one"] ["_law_g"] (defScope s_Lrests) := ⟨rfl, rfl, rfl, by decide +kernel, rfl, by decide +kernel, by decide +kernel⟩
abbrev s_Lleads : Stmt := topS 22
theorem sc_Lleads : FnScope ["_law_g", "_law_rest", "_law_more", "_law_figure"] ["_law_g", "_law_rest", "_law_more"] (defScope s_Lleads) := ⟨rfl, rfl, rfl, by decide +kernel, rfl, by decide +kernel, by decide +kernel⟩
abbrev s_Lis_safe : Stmt := topS 23
theorem sc_Lis_safe : FnScope ["_law_g", "_law_rest", "_law_some", "_law_more", "_law_one"] ["_law_g", "_law_rest", "_law_some"] (defScope s_Lis_safe) := ⟨rfl, rfl, rfl, by decide +kernel, rfl, by decide +kernel, by decide +kernel⟩
abbrev s_Llayers : Stmt := topS 24
theorem sc_Llayers : FnScope ["_law_g", "_law_found", "_law_some", "_law_count", "_law_rest", "_law_turn", "_law_gone"] ["_law_g"] (defScope s_Llayers) := ⟨rfl, rfl, rfl, by decide +kernel, rfl, by decide +kernel, by decide +kernel⟩
abbrev s_Lchosen : Stmt := topS 25
theorem sc_Lchosen : FnScope ["_law_box_here", "_law_g", "_law_held", "_law_found", "_law_left", "_law_way", "_law_rest", "_law_more", "_law_some", "_law_one", "_law_near"] ["_law_box_here", "_law_g", "_law_held"] (defScope s_Lchosen) := ⟨rfl, rfl, rfl, by decide +kernel, rfl, by decide +kernel, by decide +kernel⟩
abbrev s_Lis_paper : Stmt := topS 26
theorem sc_Lis_paper : FnScope ["_law_g", "_law_piece", "_law_one", "_law_some", "_law_rest"] ["_law_g", "_law_piece"] (defScope s_Lis_paper) := ⟨rfl, rfl, rfl, by decide +kernel, rfl, by decide +kernel, by decide +kernel⟩
abbrev s_Lotherwise : Stmt := topS 27
theorem sc_Lotherwise : FnScope ["_law_box_here", "_law_g", "_law_paper", "_law_found", "_law_turn", "_law_at", "_law_way", "_law_one"] ["_law_box_here", "_law_g", "_law_paper"] (defScope s_Lotherwise) := ⟨rfl, rfl, rfl, by decide +kernel, rfl, by decide +kernel, by decide +kernel⟩
abbrev s_Lright : Stmt := topS 28
theorem sc_Lright : FnScope ["_law_box_here", "_law_game", "_law_root", "_law_shares", "_law_by", "_law_wides", "_law_wide", "_law_late", "_law_g", "_law_layers_here", "_law_held", "_law_rest", "_law_found", "_law_papers", "_law_one", "_law_turn", "_law_piece", "_law_kept", "_law_due", "_law_told"] ["_law_box_here"] (defScope s_Lright) := ⟨rfl, rfl, rfl, by decide +kernel, rfl, by decide +kernel, by decide +kernel⟩
abbrev s_law : Stmt := topS 29
theorem sc_law : FnScope ["_law_script", "_law_k"] ["_law_script"] (defScope s_law) := ⟨rfl, rfl, rfl, by decide +kernel, rfl, by decide +kernel, by decide +kernel⟩
/-- the built-in names that the top leaves as they are -/
structure Tx [CT] (K : PySem.W.Frag) (mg : Str → Option Value) : Prop where
  k_Game : Cls K (CT.at_ 3)
  a_Game_own_base : NoAttr K (CT.at_ 3) "own_base"
  a_Game_own_most : NoAttr K (CT.at_ 3) "own_most"
  a_Game_own_step : NoAttr K (CT.at_ 3) "own_step"
  a_Game_own_sums : NoAttr K (CT.at_ 3) "own_sums"
  n_abs : mg "abs" = none
  n_all : mg "all" = none
  n_any : mg "any" = none
  n_bool : mg "bool" = none
  n_dict : mg "dict" = none
  n_int : mg "int" = none
  n_isinstance : mg "isinstance" = none
  n_len : mg "len" = none
  n_list : mg "list" = none
  n_max : mg "max" = none
  n_min : mg "min" = none
  n_range : mg "range" = none
  n_repr : mg "repr" = none
  n_set : mg "set" = none
  n_sorted : mg "sorted" = none
  n_str : mg "str" = none
  n_tuple : mg "tuple" = none
  n_zip : mg "zip" = none
  c_MOST_STATES : ∃ t, mg "MOST_STATES" = some (.int 2000 t)
section
variable [CT]
variable {P : Program} {w : World} {K : PySem.W.Frag} {mg : Str → Option Value} {base : Heap}
theorem ok_is_number {f : Addr} {fd : FuncData} (F : Fun K "is_number" "is_number" s_is_number f fd) (T : Tx K mg) (vc : goal_is_number) (len : ∀ ds S P, sp_is_number ds S P → ds.length = 1)
     : FnD P w K mg base 1 f fd ["thing"] sp_is_number :=
  fn_d F sc_is_number len fun cdv A outer s H E hr => ⟨rd_is_number, (have nd := sc_is_number.nd
  (jss_one
  (js_ret (je_and (je_isi T.n_isinstance (ja_cons (je_var 0) (ja_cons (je_tyInt T.n_int) ja_nil))) (je_one (je_not (je_isi T.n_isinstance (ja_cons (je_var 0) (ja_cons (je_tyBool T.n_bool) ja_nil))))))))), Vs1 len vc⟩
theorem ok_power {f : Addr} {fd : FuncData} (F : Fun K "power" "power" s_power f fd) (T : Tx K mg) (vc : goal_power) (len : ∀ ds S P, sp_power ds S P → ds.length = 2)
     : FnD P w K mg base 1 f fd ["base", "many"] sp_power :=
  fn_d F sc_power len fun cdv A outer s H E hr => ⟨rd_power, (have nd := sc_power.nd
  (jss_cons
  (js_set 2 nd rfl (by first | exact Or.inl rfl | exact Or.inr rfl) je_int) (jss_cons
  (js_for PassesOwn.never rfl (ji_range1 T.n_range (ja_cons (je_abs T.n_abs (ja_cons (je_var 1) ja_nil)) ja_nil)) (jg_name 3 nd rfl (by first | exact Or.inl rfl | exact Or.inr rfl)) (jss_one
  (js_imul 2 nd rfl (by first | exact Or.inl rfl | exact Or.inr rfl) (je_var 0)))) (jss_one
  (js_ret (je_ifE (jt_ge (je_var 1) je_int) (je_tup (ja_cons (je_var 2) (ja_cons je_int ja_nil))) (je_tup (ja_cons je_int (ja_cons (je_var 2) ja_nil))))))))), Vs2 len vc⟩
theorem ok_sums_of {f : Addr} {fd : FuncData} (F : Fun K "sums_of" "sums_of" s_sums_of f fd) (T : Tx K mg) (vc : goal_sums_of) (len : ∀ ds S P, sp_sums_of ds S P → ds.length = 2)
     : FnD P w K mg base 1 f fd ["weights", "mosts"] sp_sums_of :=
  fn_d F sc_sums_of len fun cdv A outer s H E hr => ⟨rd_sums_of, (have nd := sc_sums_of.nd
  (jss_cons
  (js_set 2 nd rfl (by first | exact Or.inl rfl | exact Or.inr rfl) (je_disp (jps_cons je_int je_bl jps_nil))) (jss_cons
  (js_for PassesOwn.never rfl (ji_zipS T.n_zip (ja_cons (je_var 0) (ja_cons (je_var 1) ja_nil))) (jg_tup rfl (jgs_cons (jg_name 3 nd rfl (by first | exact Or.inl rfl | exact Or.inr rfl)) (jgs_cons (jg_name 4 nd rfl (by first | exact Or.inl rfl | exact Or.inr rfl)) jgs_nil))) (jss_one
  (js_lock (js_setDc2 2 [("one", 5), ("figure", 6)] (by decide) nd rfl rfl (swd_true rfl rfl rfl (by decide +kernel)) (ji_keys (je_var 2)) (blkOk_by (N := ["weights", "mosts", "found", "weight", "most", "one", "figure"]) (sc := defScope s_sums_of) (by decide +kernel)) rfl (fun _ _ _ _ _ => (jg_name 5 nd rfl (by first | exact Or.inl rfl | exact Or.inr rfl))) (fun _ _ _ _ _ => jts_nil) (fun _ _ _ _ _ => (ji_range2 T.n_range (ja_cons (je_neg (je_var 4)) (ja_cons (je_add (je_var 4) je_int) ja_nil)))) (fun _ _ _ _ _ => (jg_name 6 nd rfl (by first | exact Or.inl rfl | exact Or.inr rfl))) (fun _ _ _ _ _ => jts_nil) (fun _ _ _ _ _ => (je_add (je_var 5) (je_mul (je_var 3) (je_var 6)))) (fun _ _ _ _ _ => je_bl))))) (jss_one
  (js_ret (je_sortDB T.n_sorted rfl (ja_cons (je_var 2) ja_nil))))))), Vs2 len vc⟩
theorem ok_Game_init {f : Addr} {fd : FuncData} (F : Fun K "__init__" "Game.__init__" s_Game_init f fd) (T : Tx K mg) (vc : goal_Game_init) (len : ∀ ds S P, sp_Game_init ds S P → ds.length = 7)
    {f_power : Addr} {fd_power : FuncData} (G_power : Does P w K mg base 1 "power" ["base", "many"] f_power fd_power sp_power)
    {f_sums_of : Addr} {fd_sums_of : FuncData} (G_sums_of : Does P w K mg base 1 "sums_of" ["weights", "mosts"] f_sums_of fd_sums_of sp_sums_of) : FnD P w K mg base 2 f fd ["self", "base", "weights", "over", "mosts", "most", "lag"] sp_Game_init :=
  fn_d F sc_Game_init len fun cdv A outer s H E hr => ⟨rd_Game_init, (have nd := sc_Game_init.nd
  (jss_cons
  (js_fld T.k_Game T.a_Game_own_base (je_var 0) (je_var 1)) (jss_cons
  (js_fld T.k_Game T.a_Game_own_most (je_var 0) (je_var 5)) (jss_cons
  (js_fld T.k_Game T.a_Game_own_step (je_var 0) (je_mul (je_var 3) (je_ix (je_f G_power hr (ja_cons (je_var 1) (ja_cons (je_var 6) ja_nil))) je_int))) (jss_one
  (js_fld T.k_Game T.a_Game_own_sums (je_var 0) (je_f G_sums_of hr (ja_cons (je_var 2) (ja_cons (je_var 4) ja_nil))))))))), Vs7 len vc⟩
theorem ok_Game_is_lost {f : Addr} {fd : FuncData} (F : Fun K "is_lost" "Game.is_lost" s_Game_is_lost f fd) (T : Tx K mg) (vc : goal_Game_is_lost) (len : ∀ ds S P, sp_Game_is_lost ds S P → ds.length = 2)
     : FnD P w K mg base 1 f fd ["self", "rest"] sp_Game_is_lost :=
  fn_d F sc_Game_is_lost len fun cdv A outer s H E hr => ⟨rd_Game_is_lost, (have nd := sc_Game_is_lost.nd
  (jss_one
  (js_ret (je_gt (je_add (je_mul (je_sub (je_fld T.k_Game T.a_Game_own_base (je_var 0)) je_int) (je_abs T.n_abs (ja_cons (je_var 1) ja_nil))) (je_ix (je_fld T.k_Game T.a_Game_own_sums (je_var 0)) (je_neg je_int))) (je_mul (je_fld T.k_Game T.a_Game_own_step (je_var 0)) (je_fld T.k_Game T.a_Game_own_most (je_var 0))))))), Vs2 len vc⟩
theorem ok_Game_greatest {f : Addr} {fd : FuncData} (F : Fun K "greatest" "Game.greatest" s_Game_greatest f fd) (T : Tx K mg) (vc : goal_Game_greatest) (len : ∀ ds S P, sp_Game_greatest ds S P → ds.length = 1)
     : FnD P w K mg base 1 f fd ["self"] sp_Game_greatest :=
  fn_d F sc_Game_greatest len fun cdv A outer s H E hr => ⟨rd_Game_greatest, (have nd := sc_Game_greatest.nd
  (jss_one
  (js_ret (je_fdiv (je_sub (je_mul (je_fld T.k_Game T.a_Game_own_step (je_var 0)) (je_fld T.k_Game T.a_Game_own_most (je_var 0))) (je_ix (je_fld T.k_Game T.a_Game_own_sums (je_var 0)) (je_neg je_int))) (je_sub (je_fld T.k_Game T.a_Game_own_base (je_var 0)) je_int))))), Vs1 len vc⟩
theorem ok_Game_rests {f : Addr} {fd : FuncData} (F : Fun K "rests" "Game.rests" s_Game_rests f fd) (T : Tx K mg) (vc : goal_Game_rests) (len : ∀ ds S P, sp_Game_rests ds S P → ds.length = 1)
    {f_Game_greatest : Addr} {fd_Game_greatest : FuncData} (G_Game_greatest : DoesM P w K mg base 1 3 "greatest" ["self"] f_Game_greatest fd_Game_greatest sp_Game_greatest) : FnD P w K mg base 2 f fd ["self"] sp_Game_rests :=
  fn_d F sc_Game_rests len fun cdv A outer s H E hr => ⟨rd_Game_rests, (have nd := sc_Game_rests.nd
  (jss_one
  (js_ret (je_listR2 T.n_list T.n_range (je_neg (je_m0 G_Game_greatest hr (je_var 0))) (je_add (je_m0 G_Game_greatest hr (je_var 0)) je_int))))), Vs1 len vc⟩
theorem ok_Game_look {f : Addr} {fd : FuncData} (F : Fun K "look" "Game.look" s_Game_look f fd) (T : Tx K mg) (vc : goal_Game_look) (len : ∀ ds S P, sp_Game_look ds S P → ds.length = 1)
    {f_Game_greatest : Addr} {fd_Game_greatest : FuncData} (G_Game_greatest : DoesM P w K mg base 1 3 "greatest" ["self"] f_Game_greatest fd_Game_greatest sp_Game_greatest) : FnD P w K mg base 2 f fd ["self"] sp_Game_look :=
  fn_d F sc_Game_look len fun cdv A outer s H E hr => ⟨rd_Game_look, (have nd := sc_Game_look.nd
  (jss_cons
  (js_set 1 nd rfl (by first | exact Or.inl rfl | exact Or.inr rfl) (je_max2 T.n_max (ja_cons je_int (ja_cons (je_add (je_mul je_int (je_m0 G_Game_greatest hr (je_var 0))) je_int) ja_nil)))) (jss_one
  (js_if (jt_gt (je_var 1) (je_cI T.c_MOST_STATES)) jss_never jss_nil)))), Vs1 len vc⟩
theorem ok_Game_led_to {f : Addr} {fd : FuncData} (F : Fun K "led_to" "Game.led_to" s_Game_led_to f fd) (T : Tx K mg) (vc : goal_Game_led_to) (len : ∀ ds S P, sp_Game_led_to ds S P → ds.length = 2)
    {f_Game_greatest : Addr} {fd_Game_greatest : FuncData} (G_Game_greatest : DoesM P w K mg base 1 3 "greatest" ["self"] f_Game_greatest fd_Game_greatest sp_Game_greatest) : FnD P w K mg base 2 f fd ["self", "ahead"] sp_Game_led_to :=
  fn_d F sc_Game_led_to len fun cdv A outer s H E hr => ⟨rd_Game_led_to, (have nd := sc_Game_led_to.nd
  (jss_cons
  (js_set 2 nd rfl (by first | exact Or.inl rfl | exact Or.inr rfl) (je_max2 T.n_max (ja_cons (je_neg (je_fld T.k_Game T.a_Game_own_most (je_var 0))) (ja_cons (je_neg (je_fdiv (je_sub (je_m0 G_Game_greatest hr (je_var 0)) (je_var 1)) (je_fld T.k_Game T.a_Game_own_step (je_var 0)))) ja_nil)))) (jss_cons
  (js_set 3 nd rfl (by first | exact Or.inl rfl | exact Or.inr rfl) (je_min2 T.n_min (ja_cons (je_fld T.k_Game T.a_Game_own_most (je_var 0)) (ja_cons (je_fdiv (je_add (je_var 1) (je_m0 G_Game_greatest hr (je_var 0))) (je_fld T.k_Game T.a_Game_own_step (je_var 0))) ja_nil)))) (jss_one
  (js_ret (je_lc [("figure", 4)] rfl nd (ji_range2 T.n_range (ja_cons (je_var 2) (ja_cons (je_add (je_var 3) je_int) ja_nil))) (blkOk_by (N := ["self", "ahead", "least", "most", "figure"]) (sc := defScope s_Game_led_to) (by decide +kernel)) (by decide) (fun _ _ _ _ _ => (jg_name 4 nd rfl (by first | exact Or.inl rfl | exact Or.inr rfl))) (fun _ _ _ _ _ => jts_nil) (fun _ _ _ _ _ => (je_sub (je_var 1) (je_mul (je_var 4) (je_fld T.k_Game T.a_Game_own_step (je_var 0))))))))))), Vs2 len vc⟩
theorem ok_Game_is_held {f : Addr} {fd : FuncData} (F : Fun K "is_held" "Game.is_held" s_Game_is_held f fd) (T : Tx K mg) (vc : goal_Game_is_held) (len : ∀ ds S P, sp_Game_is_held ds S P → ds.length = 4)
    {f_Game_led_to : Addr} {fd_Game_led_to : FuncData} (G_Game_led_to : DoesM P w K mg base 2 3 "led_to" ["self", "ahead"] f_Game_led_to fd_Game_led_to sp_Game_led_to) : FnD P w K mg base 3 f fd ["self", "rest", "sum_now", "held"] sp_Game_is_held :=
  fn_d F sc_Game_is_held len fun cdv A outer s H E hr => ⟨rd_Game_is_held, (have nd := sc_Game_is_held.nd
  (jss_one
  (js_ret (je_any T.n_any (ja_cons (je_lc [("one", 4)] rfl nd (ji_seq (je_m G_Game_led_to hr (je_var 0) (ja_cons (je_add (je_mul (je_fld T.k_Game T.a_Game_own_base (je_var 0)) (je_var 1)) (je_var 2)) ja_nil))) (blkOk_by (N := ["self", "rest", "sum_now", "held", "one"]) (sc := defScope s_Game_is_held) (by decide +kernel)) (by decide) (fun _ _ _ _ _ => (jg_name 4 nd rfl (by first | exact Or.inl rfl | exact Or.inr rfl))) (fun _ _ _ _ _ => jts_nil) (fun _ _ _ _ _ => (je_din hr (je_var 4) (je_var 3)))) ja_nil))))), Vs4 len vc⟩
theorem ok_Game_first_fatal {f : Addr} {fd : FuncData} (F : Fun K "first_fatal" "Game.first_fatal" s_Game_first_fatal f fd) (T : Tx K mg) (vc : goal_Game_first_fatal) (len : ∀ ds S P, sp_Game_first_fatal ds S P → ds.length = 4)
    {f_Game_is_held : Addr} {fd_Game_is_held : FuncData} (G_Game_is_held : DoesM P w K mg base 3 3 "is_held" ["self", "rest", "sum_now", "held"] f_Game_is_held fd_Game_is_held sp_Game_is_held) : FnD P w K mg base 4 f fd ["self", "rest", "known", "held"] sp_Game_first_fatal :=
  fn_d F sc_Game_first_fatal len fun cdv A outer s H E hr => ⟨rd_Game_first_fatal, (have nd := sc_Game_first_fatal.nd
  (jss_cons
  (js_for PassesOwn.never rfl (ji_seq (je_fld T.k_Game T.a_Game_own_sums (je_var 0))) (jg_name 4 nd rfl (by first | exact Or.inl rfl | exact Or.inr rfl)) (jss_cons
  (js_set 5 nd rfl (by first | exact Or.inl rfl | exact Or.inr rfl) (je_add (je_mul (je_fld T.k_Game T.a_Game_own_base (je_var 0)) (je_var 1)) (je_var 4))) (jss_cons
  (js_if (jt_dnotin hr (je_var 5) (je_var 2)) (jss_one
  (js_dput hr (je_var 2) (je_var 5) (je_m G_Game_is_held hr (je_var 0) (ja_cons (je_var 1) (ja_cons (je_var 4) (ja_cons (je_var 3) ja_nil)))))) jss_nil) (jss_one
  (js_if (jt_not (jt_val (je_dget hr (je_var 2) (je_var 5)))) (jss_one
  (js_ret (je_var 4))) jss_nil))))) (jss_one
  (js_ret je_non)))), Vs4 len vc⟩
theorem ok_Game_ranks {f : Addr} {fd : FuncData} (F : Fun K "ranks" "Game.ranks" s_Game_ranks f fd) (T : Tx K mg) (vc : goal_Game_ranks) (len : ∀ ds S P, sp_Game_ranks ds S P → ds.length = 1)
    {f_Game_rests : Addr} {fd_Game_rests : FuncData} (G_Game_rests : DoesM P w K mg base 2 3 "rests" ["self"] f_Game_rests fd_Game_rests sp_Game_rests)
    {f_Game_first_fatal : Addr} {fd_Game_first_fatal : FuncData} (G_Game_first_fatal : DoesM P w K mg base 4 3 "first_fatal" ["self", "rest", "known", "held"] f_Game_first_fatal fd_Game_first_fatal sp_Game_first_fatal) : FnD P w K mg base 5 f fd ["self"] sp_Game_ranks :=
  fn_d F sc_Game_ranks len fun cdv A outer s H E hr => ⟨rd_Game_ranks, (have nd := sc_Game_ranks.nd
  (jss_cons
  (js_asg (je_tup (ja_cons je_dnew (ja_cons (je_dc [("rest", 3)] rfl nd (ji_seq (je_m0 G_Game_rests hr (je_var 0))) (blkOk_by (N := ["self", "found", "held", "rest", "rank", "known", "fatal", "gone"]) (sc := defScope s_Game_ranks) (by decide +kernel)) (by decide) (fun _ _ _ _ _ => (jg_name 3 nd rfl (by first | exact Or.inl rfl | exact Or.inr rfl))) (fun _ _ _ _ _ => jts_nil) (fun _ _ _ _ _ => (je_var 3)) (fun _ _ _ _ _ => je_bl)) ja_nil))) (jg_tup rfl (jgs_cons (jg_name 1 nd rfl (by first | exact Or.inl rfl | exact Or.inr rfl)) (jgs_cons (jg_name 2 nd rfl (by first | exact Or.inl rfl | exact Or.inr rfl)) jgs_nil)))) (jss_cons
  (js_set 4 nd rfl (by first | exact Or.inl rfl | exact Or.inr rfl) je_int) (jss_one
  (js_while PassesOwn.never (jt_val je_bl) (jss_cons
  (js_set 5 nd rfl (by first | exact Or.inl rfl | exact Or.inr rfl) je_dnew) (jss_cons
  (js_set 6 nd rfl (by first | exact Or.inl rfl | exact Or.inr rfl) (je_lock (je_dc [("rest", 3)] rfl nd (ji_keys (je_var 2)) (blkOk_by (N := ["self", "found", "held", "rest", "rank", "known", "fatal", "gone"]) (sc := defScope s_Game_ranks) (by decide +kernel)) (by decide) (fun _ _ _ _ _ => (jg_name 3 nd rfl (by first | exact Or.inl rfl | exact Or.inr rfl))) (fun _ _ _ _ _ => jts_nil) (fun _ _ _ _ _ => (je_var 3)) (fun _ _ _ _ _ => (je_m G_Game_first_fatal hr (je_var 0) (ja_cons (je_var 3) (ja_cons (je_var 5) (ja_cons (je_var 2) ja_nil)))))))) (jss_cons
  (js_lock (js_setLc 7 [("rest", 3)] rfl nd rfl rfl (sw_true rfl rfl rfl (by decide +kernel)) (ji_keys (je_var 6)) (blkOk_by (N := ["self", "found", "held", "rest", "rank", "known", "fatal", "gone"]) (sc := defScope s_Game_ranks) (by decide +kernel)) (by decide) (fun _ _ _ _ _ => (jg_name 3 nd rfl (by first | exact Or.inl rfl | exact Or.inr rfl))) (fun _ _ _ _ _ => (jts_one (jt_notN (je_dget hr (je_var 6) (je_var 3)) je_non))) (fun _ _ _ _ _ => (je_var 3)))) (jss_cons
  (js_if (jt_eq hr (je_var 7) (je_lst ja_nil)) (jss_one
  (js_ret (je_tup (ja_cons (je_var 1) (ja_cons (je_var 2) ja_nil))))) jss_nil) (jss_cons
  (js_expr (je_dupd (je_var 1) (je_dc [("rest", 3)] rfl nd (ji_seq (je_var 7)) (blkOk_by (N := ["self", "found", "held", "rest", "rank", "known", "fatal", "gone"]) (sc := defScope s_Game_ranks) (by decide +kernel)) (by decide) (fun _ _ _ _ _ => (jg_name 3 nd rfl (by first | exact Or.inl rfl | exact Or.inr rfl))) (fun _ _ _ _ _ => jts_nil) (fun _ _ _ _ _ => (je_var 3)) (fun _ _ _ _ _ => (je_tup (ja_cons (je_var 4) (ja_cons (je_dget hr (je_var 6) (je_var 3)) ja_nil))))))) (jss_cons
  (js_set 2 nd rfl (by first | exact Or.inl rfl | exact Or.inr rfl) (je_lock (je_dc [("rest", 3)] rfl nd (ji_keys (je_var 2)) (blkOk_by (N := ["self", "found", "held", "rest", "rank", "known", "fatal", "gone"]) (sc := defScope s_Game_ranks) (by decide +kernel)) (by decide) (fun _ _ _ _ _ => (jg_name 3 nd rfl (by first | exact Or.inl rfl | exact Or.inr rfl))) (fun _ _ _ _ _ => (jts_one (jt_isN (je_dget hr (je_var 6) (je_var 3)) je_non))) (fun _ _ _ _ _ => (je_var 3)) (fun _ _ _ _ _ => je_bl)))) (jss_one
  (js_iadd 4 nd rfl (by first | exact Or.inl rfl | exact Or.inr rfl) je_int))))))))))))), Vs1 len vc⟩
theorem ok_enough_paper {f : Addr} {fd : FuncData} (F : Fun K "enough_paper" "enough_paper" s_enough_paper f fd) (T : Tx K mg) (vc : goal_enough_paper) (len : ∀ ds S P, sp_enough_paper ds S P → ds.length = 6)
    {f_Game_init : Addr} {fd_Game_init : FuncData} (G_Game_init : DoesI P w K mg base 2 3 "Game" ["self", "base", "weights", "over", "mosts", "most", "lag"] f_Game_init fd_Game_init sp_Game_init)
    (B_Game_init : Binds K fd_Game_init ["self", "base", "weights", "over", "mosts", "most", "lag"] [])
    {f_Game_look : Addr} {fd_Game_look : FuncData} (G_Game_look : DoesM P w K mg base 2 3 "look" ["self"] f_Game_look fd_Game_look sp_Game_look)
    {f_Game_ranks : Addr} {fd_Game_ranks : FuncData} (G_Game_ranks : DoesM P w K mg base 5 3 "ranks" ["self"] f_Game_ranks fd_Game_ranks sp_Game_ranks) : FnD P w K mg base 6 f fd ["base", "weights", "over", "mosts", "most", "lag"] sp_enough_paper :=
  fn_d F sc_enough_paper len fun cdv A outer s H E hr => ⟨rd_enough_paper, (have nd := sc_enough_paper.nd
  (jss_cons
  (js_set 6 nd rfl (by first | exact Or.inl rfl | exact Or.inr rfl) (je_make G_Game_init hr B_Game_init (ja_cons (je_var 0) (ja_cons (je_var 1) (ja_cons (je_var 2) (ja_cons (je_var 3) (ja_cons (je_var 4) (ja_cons (je_var 5) ja_nil)))))))) (jss_cons
  (js_expr (je_m0 G_Game_look hr (je_var 6))) (jss_cons
  (js_set 7 nd rfl (by first | exact Or.inl rfl | exact Or.inr rfl) (je_ix (je_m0 G_Game_ranks hr (je_var 6)) je_int)) (jss_one
  (js_ret (je_ifE (jt_din hr je_int (je_var 7)) (je_sortDBM T.n_sorted rfl (ja_cons (je_var 7) ja_nil)) je_non))))))), Vs6 len vc⟩
theorem ok_shows_enough {f : Addr} {fd : FuncData} (F : Fun K "shows_enough" "shows_enough" s_shows_enough f fd) (T : Tx K mg) (vc : goal_shows_enough) (len : ∀ ds S P, sp_shows_enough ds S P → ds.length = 7)
    {f_Game_init : Addr} {fd_Game_init : FuncData} (G_Game_init : DoesI P w K mg base 2 3 "Game" ["self", "base", "weights", "over", "mosts", "most", "lag"] f_Game_init fd_Game_init sp_Game_init)
    (B_Game_init : Binds K fd_Game_init ["self", "base", "weights", "over", "mosts", "most", "lag"] [])
    {f_Game_is_lost : Addr} {fd_Game_is_lost : FuncData} (G_Game_is_lost : DoesM P w K mg base 1 3 "is_lost" ["self", "rest"] f_Game_is_lost fd_Game_is_lost sp_Game_is_lost)
    {f_is_number : Addr} {fd_is_number : FuncData} (G_is_number : Does P w K mg base 1 "is_number" ["thing"] f_is_number fd_is_number sp_is_number)
    {f_Game_first_fatal : Addr} {fd_Game_first_fatal : FuncData} (G_Game_first_fatal : DoesM P w K mg base 4 3 "first_fatal" ["self", "rest", "known", "held"] f_Game_first_fatal fd_Game_first_fatal sp_Game_first_fatal) : FnD P w K mg base 5 f fd ["base", "weights", "over", "mosts", "most", "lag", "thing"] sp_shows_enough :=
  fn_d F sc_shows_enough len fun cdv A outer s H E hr => ⟨rd_shows_enough, (have nd := sc_shows_enough.nd
  (jss_cons
  (js_set 7 nd rfl (by first | exact Or.inl rfl | exact Or.inr rfl) (je_make G_Game_init hr B_Game_init (ja_cons (je_var 0) (ja_cons (je_var 1) (ja_cons (je_var 2) (ja_cons (je_var 3) (ja_cons (je_var 4) (ja_cons (je_var 5) ja_nil)))))))) (jss_cons
  (js_if (jt_w (jw_or (jt_not (jt_val (je_isi T.n_isinstance (ja_cons (je_var 6) (ja_cons (je_tyList T.n_list) ja_nil))))) (jw_or1 (jt_not (jt_val (je_all T.n_all (ja_cons (je_lc [("rest", 8)] rfl nd (ji_seq (je_var 6)) (blkOk_by (N := ["base", "weights", "over", "mosts", "most", "lag", "thing", "game", "rest", "held", "known"]) (sc := defScope s_shows_enough) (by decide +kernel)) (by decide) (fun _ _ _ _ _ => (jg_name 8 nd rfl (by first | exact Or.inl rfl | exact Or.inr rfl))) (fun _ _ _ _ _ => jts_nil) (fun _ _ _ _ _ => (je_and (je_f G_is_number hr (ja_cons (je_var 8) ja_nil)) (je_one (je_not (je_m G_Game_is_lost hr (je_var 7) (ja_cons (je_var 8) ja_nil))))))) ja_nil))))))) (jss_one
  (js_ret je_bl)) jss_nil) (jss_cons
  (js_asg (je_tup (ja_cons (je_dc [("rest", 8)] rfl nd (ji_seq (je_var 6)) (blkOk_by (N := ["base", "weights", "over", "mosts", "most", "lag", "thing", "game", "rest", "held", "known"]) (sc := defScope s_shows_enough) (by decide +kernel)) (by decide) (fun _ _ _ _ _ => (jg_name 8 nd rfl (by first | exact Or.inl rfl | exact Or.inr rfl))) (fun _ _ _ _ _ => jts_nil) (fun _ _ _ _ _ => (je_var 8)) (fun _ _ _ _ _ => je_bl)) (ja_cons je_dnew ja_nil))) (jg_tup rfl (jgs_cons (jg_name 9 nd rfl (by first | exact Or.inl rfl | exact Or.inr rfl)) (jgs_cons (jg_name 10 nd rfl (by first | exact Or.inl rfl | exact Or.inr rfl)) jgs_nil)))) (jss_one
  (js_ret (je_and (je_din hr je_int (je_var 9)) (je_one (je_all T.n_all (ja_cons (je_lock (je_lc [("rest", 8)] rfl nd (ji_keys (je_var 9)) (blkOk_by (N := ["base", "weights", "over", "mosts", "most", "lag", "thing", "game", "rest", "held", "known"]) (sc := defScope s_shows_enough) (by decide +kernel)) (by decide) (fun _ _ _ _ _ => (jg_name 8 nd rfl (by first | exact Or.inl rfl | exact Or.inr rfl))) (fun _ _ _ _ _ => jts_nil) (fun _ _ _ _ _ => (je_isN (je_m G_Game_first_fatal hr (je_var 7) (ja_cons (je_var 8) (ja_cons (je_var 10) (ja_cons (je_var 9) ja_nil)))) je_non)))) ja_nil)))))))))), Vs7 len vc⟩
theorem ok_Lcell_at {f : Addr} {fd : FuncData} (F : Fun K "_law_cell_at" "_law_cell_at" s_Lcell_at f fd) (T : Tx K mg) (vc : goal_Lcell_at) (len : ∀ ds S P, sp_Lcell_at ds S P → ds.length = 2)
     : FnD P w K mg base 1 f fd ["_law_script", "_law_k"] sp_Lcell_at :=
  fn_d F sc_Lcell_at len fun cdv A outer s H E hr => ⟨rd_Lcell_at, (have nd := sc_Lcell_at.nd
  (jss_cons
  (js_if (jt_lt (je_var 1) (je_len T.n_len (ja_cons (je_var 0) ja_nil))) (jss_one
  (js_ret (je_ix (je_var 0) (je_var 1)))) jss_nil) (jss_one
  (js_ret je_int)))), Vs2 len vc⟩
theorem ok_Lbox {f : Addr} {fd : FuncData} (F : Fun K "_law_box" "_law_box" s_Lbox f fd) (T : Tx K mg) (vc : goal_Lbox) (len : ∀ ds S P, sp_Lbox ds S P → ds.length = 2)
    {f_Lcell_at : Addr} {fd_Lcell_at : FuncData} (G_Lcell_at : Does P w K mg base 1 "_law_cell_at" ["_law_script", "_law_k"] f_Lcell_at fd_Lcell_at sp_Lcell_at) : FnD P w K mg base 2 f fd ["_law_script", "_law_k"] sp_Lbox :=
  fn_d F sc_Lbox len fun cdv A outer s H E hr => ⟨rd_Lbox, (have nd := sc_Lbox.nd
  (jss_cons
  (js_set 2 nd rfl (by first | exact Or.inl rfl | exact Or.inr rfl) (je_f G_Lcell_at hr (ja_cons (je_var 0) (ja_cons (je_var 1) ja_nil)))) (jss_one
  (js_ret (je_lstM (ja_cons (je_mul (je_abs T.n_abs (ja_cons (je_var 2) ja_nil)) (je_intC T.n_int (ja_cons (je_ge (je_abs T.n_abs (ja_cons (je_var 2) ja_nil)) (je_pow je_int je_int)) ja_nil))) (ja_cons (je_add (je_add (je_mod (je_var 2) je_int) (je_mul je_int (je_var 1))) je_int) (ja_cons je_int ja_nil)))))))), Vs2 len vc⟩
theorem ok_Ltake {f : Addr} {fd : FuncData} (F : Fun K "_law_take" "_law_take" s_Ltake f fd) (T : Tx K mg) (vc : goal_Ltake) (len : ∀ ds S P, sp_Ltake ds S P → ds.length = 2)
     : FnD P w K mg base 1 f fd ["_law_box_here", "_law_size"] sp_Ltake :=
  fn_d F sc_Ltake len fun cdv A outer s H E hr => ⟨rd_Ltake, (have nd := sc_Ltake.nd
  (jss_cons
  (js_if (jt_gt (je_ix (je_var 0) je_int) je_int) (jss_cons
  (js_set 2 nd rfl (by first | exact Or.inl rfl | exact Or.inr rfl) (je_mod (je_ix (je_var 0) je_int) (je_var 1))) (jss_cons
  (js_setIx (je_fdiv (je_ix (je_var 0) je_int) (je_var 1)) (je_var 0) je_int) (jss_one
  (js_ret (je_var 2))))) jss_nil) (jss_cons
  (js_setIx (je_add (je_ix (je_var 0) je_int) je_int) (je_var 0) je_int) (jss_cons
  (js_set 3 nd rfl (by first | exact Or.inl rfl | exact Or.inr rfl) (je_mod (je_mul (je_add (je_ix (je_var 0) je_int) (je_mul je_int (je_ix (je_var 0) je_int))) (je_add je_int (je_ix (je_var 0) je_int))) je_int)) (jss_cons
  (js_set 4 nd rfl (by first | exact Or.inl rfl | exact Or.inr rfl) (je_mod (je_mul (je_add (je_add (je_var 3) (je_ix (je_var 0) je_int)) (je_fdiv (je_ix (je_var 0) je_int) je_int)) (je_add (je_mod (je_var 3) je_int) je_int)) je_int)) (jss_one
  (js_ret (je_mod (je_fdiv (je_mod (je_add (je_mul (je_var 4) je_int) (je_var 3)) je_int) je_int) (je_var 1))))))))), Vs2 len vc⟩
theorem ok_Lof {f : Addr} {fd : FuncData} (F : Fun K "_law_of" "_law_of" s_Lof f fd) (T : Tx K mg) (vc : goal_Lof) (len : ∀ ds S P, sp_Lof ds S P → ds.length = 2)
    {f_Ltake : Addr} {fd_Ltake : FuncData} (G_Ltake : Does P w K mg base 1 "_law_take" ["_law_box_here", "_law_size"] f_Ltake fd_Ltake sp_Ltake) : FnD P w K mg base 2 f fd ["_law_box_here", "_law_some"] sp_Lof :=
  fn_d F sc_Lof len fun cdv A outer s H E hr => ⟨rd_Lof, (have nd := sc_Lof.nd
  (jss_one
  (js_ret (je_ix (je_var 1) (je_f G_Ltake hr (ja_cons (je_var 0) (ja_cons (je_len T.n_len (ja_cons (je_var 1) ja_nil)) ja_nil))))))), Vs2 len vc⟩
theorem ok_Lsame {f : Addr} {fd : FuncData} (F : Fun K "_law_same" "_law_same" s_Lsame f fd) (T : Tx K mg) (vc : goal_Lsame) (len : ∀ n ds S P, spr_Lsame n ds S P → ds.length = 2) (hz : ∀ ds S P, spr_Lsame 0 ds S P → False) (gm : mg "_law_same" = some (.ref f)) (kp : PySem.W.keepIn K (.ref f) = true) (B : Binds K fd ["_law_found", "_law_due"] [])
     : ∀ n : Nat, FnD P w K mg base (0 + n) f fd ["_law_found", "_law_due"] (spr_Lsame n)
  | 0 => fnd_never hz
  | n + 1 => have G_Lsame : Does P w K mg base (0 + n) "_law_same" ["_law_found", "_law_due"] f fd (spr_Lsame n) := ⟨gm, kp, B, ok_Lsame F T vc len hz gm kp B  n⟩
    fn_d F sc_Lsame (len (n + 1)) fun cdv A outer s H E hr => ⟨rd_Lsame (spr_Lsame n), (have nd := sc_Lsame.nd
  (jss_cons
  (js_if (jt_val (je_isi T.n_isinstance (ja_cons (je_var 1) (ja_cons (je_tyDict T.n_dict) ja_nil)))) jss_never jss_nil) (jss_cons
  (js_if (jt_val (je_isi T.n_isinstance (ja_cons (je_var 1) (ja_cons (je_tup (ja_cons (je_tyList T.n_list) (ja_cons (je_tyTuple T.n_tuple) ja_nil))) ja_nil)))) (jss_cons
  (js_if (jt_w (jw_or (jt_ne hr (je_isi T.n_isinstance (ja_cons (je_var 0) (ja_cons (je_tyList T.n_list) ja_nil))) (je_isi T.n_isinstance (ja_cons (je_var 1) (ja_cons (je_tyList T.n_list) ja_nil)))) (jw_or1 (jt_ne hr (je_isi T.n_isinstance (ja_cons (je_var 0) (ja_cons (je_tyTuple T.n_tuple) ja_nil))) (je_isi T.n_isinstance (ja_cons (je_var 1) (ja_cons (je_tyTuple T.n_tuple) ja_nil))))))) (jss_one
  (js_ret je_bl)) jss_nil) (jss_one
  (js_ret (je_and (je_eq hr (je_len T.n_len (ja_cons (je_var 0) ja_nil)) (je_len T.n_len (ja_cons (je_var 1) ja_nil))) (je_one (je_all T.n_all (ja_cons (je_lc [("_law_one", 3), ("_law_two", 4)] rfl nd (ji_zip T.n_zip (ja_cons (je_var 0) (ja_cons (je_var 1) ja_nil))) (blkOk_by (N := ["_law_found", "_law_due", "_law_key", "_law_one", "_law_two"]) (sc := defScope s_Lsame) (by decide +kernel)) (by decide) (fun _ _ _ _ _ => (jg_tup rfl (jgs_cons (jg_name 3 nd rfl (by first | exact Or.inl rfl | exact Or.inr rfl)) (jgs_cons (jg_name 4 nd rfl (by first | exact Or.inl rfl | exact Or.inr rfl)) jgs_nil)))) (fun _ _ _ _ _ => jts_nil) (fun _ _ _ _ _ => (je_f G_Lsame hr (ja_cons (je_var 3) (ja_cons (je_var 4) ja_nil)) (hk := by first | exact Nat.le_refl _ | exact Nat.le_trans (by decide) (Nat.le_add_right _ _) | omega)))) ja_nil))))))) jss_nil) (jss_cons
  (js_if (jt_w (jw_or (jt_isN (je_var 1) je_non) (jw_or1 (jt_val (je_isi T.n_isinstance (ja_cons (je_var 1) (ja_cons (je_tup (ja_cons (je_tyBool T.n_bool) (ja_cons (je_tyStr T.n_str) ja_nil))) ja_nil))))))) (jss_one
  (js_ret (je_and (je_eq hr (je_var 0) (je_var 1)) (je_and (je_eq hr (je_isi T.n_isinstance (ja_cons (je_var 0) (ja_cons (je_tyBool T.n_bool) ja_nil))) (je_isi T.n_isinstance (ja_cons (je_var 1) (ja_cons (je_tyBool T.n_bool) ja_nil)))) (je_one (je_eq hr (je_isN (je_var 0) je_non) (je_isN (je_var 1) je_non))))))) jss_nil) (jss_one
  (js_ret (je_and (je_isi T.n_isinstance (ja_cons (je_var 0) (ja_cons (je_tyInt T.n_int) ja_nil))) (je_and (je_not (je_isi T.n_isinstance (ja_cons (je_var 0) (ja_cons (je_tyBool T.n_bool) ja_nil)))) (je_one (je_eq hr (je_var 0) (je_var 1))))))))))), fun ds S P h => match ds, len _ ds S P h, h with
  | [x0, x1], _, h => vc n x0 x1 S P h⟩
theorem ok_Lsums {f : Addr} {fd : FuncData} (F : Fun K "_law_sums" "_law_sums" s_Lsums f fd) (T : Tx K mg) (vc : goal_Lsums) (len : ∀ ds S P, sp_Lsums ds S P → ds.length = 2)
     : FnD P w K mg base 1 f fd ["_law_shares", "_law_wides"] sp_Lsums :=
  fn_d F sc_Lsums len fun cdv A outer s H E hr => ⟨rd_Lsums, (have nd := sc_Lsums.nd
  (jss_cons
  (js_set 2 nd rfl (by first | exact Or.inl rfl | exact Or.inr rfl) (je_lst (ja_cons je_int ja_nil))) (jss_cons
  (js_for PassesOwn.never rfl (ji_zip T.n_zip (ja_cons (je_var 0) (ja_cons (je_var 1) ja_nil))) (jg_tup rfl (jgs_cons (jg_name 3 nd rfl (by first | exact Or.inl rfl | exact Or.inr rfl)) (jgs_cons (jg_name 4 nd rfl (by first | exact Or.inl rfl | exact Or.inr rfl)) jgs_nil))) (jss_cons
  (js_set 5 nd rfl (by first | exact Or.inl rfl | exact Or.inr rfl) (je_lst ja_nil)) (jss_cons
  (js_for PassesOwn.never rfl (ji_seq (je_var 2)) (jg_name 6 nd rfl (by first | exact Or.inl rfl | exact Or.inr rfl)) (jss_one
  (js_set 5 nd rfl (by first | exact Or.inl rfl | exact Or.inr rfl) (je_add (je_var 5) (je_lc [("_law_figure", 7)] rfl nd (ji_range2 T.n_range (ja_cons (je_sub je_int (je_var 4)) (ja_cons (je_add (je_var 4) je_int) ja_nil))) (blkOk_by (N := ["_law_shares", "_law_wides", "_law_found", "_law_share", "_law_wide", "_law_more", "_law_one", "_law_figure"]) (sc := defScope s_Lsums) (by decide +kernel)) (by decide) (fun _ _ _ _ _ => (jg_name 7 nd rfl (by first | exact Or.inl rfl | exact Or.inr rfl))) (fun _ _ _ _ _ => jts_nil) (fun _ _ _ _ _ => (je_add (je_var 6) (je_mul (je_var 3) (je_var 7))))))))) (jss_one
  (js_set 2 nd rfl (by first | exact Or.inl rfl | exact Or.inr rfl) (je_sortSet T.n_sorted T.n_set (je_var 5))))))) (jss_one
  (js_ret (je_var 2)))))), Vs2 len vc⟩
theorem ok_Ldrawn {f : Addr} {fd : FuncData} (F : Fun K "_law_drawn" "_law_drawn" s_Ldrawn f fd) (T : Tx K mg) (vc : goal_Ldrawn) (len : ∀ ds S P, sp_Ldrawn ds S P → ds.length = 1)
    {f_Lof : Addr} {fd_Lof : FuncData} (G_Lof : Does P w K mg base 2 "_law_of" ["_law_box_here", "_law_some"] f_Lof fd_Lof sp_Lof)
    {f_Ltake : Addr} {fd_Ltake : FuncData} (G_Ltake : Does P w K mg base 1 "_law_take" ["_law_box_here", "_law_size"] f_Ltake fd_Ltake sp_Ltake) : FnD P w K mg base 3 f fd ["_law_box_here"] sp_Ldrawn :=
  fn_d F sc_Ldrawn len fun cdv A outer s H E hr => ⟨rd_Ldrawn, (have nd := sc_Ldrawn.nd
  (jss_cons
  (js_set 1 nd rfl (by first | exact Or.inl rfl | exact Or.inr rfl) (je_f G_Lof hr (ja_cons (je_var 0) (ja_cons (je_lst (ja_cons je_int (ja_cons je_int (ja_cons je_int (ja_cons je_int (ja_cons je_int (ja_cons je_int ja_nil))))))) ja_nil)))) (jss_cons
  (js_set 2 nd rfl (by first | exact Or.inl rfl | exact Or.inr rfl) (je_fdiv (je_add (je_var 1) je_int) je_int)) (jss_cons
  (js_set 3 nd rfl (by first | exact Or.inl rfl | exact Or.inr rfl) (je_tupC T.n_tuple (ja_cons (je_lc [("_law_turn", 4)] rfl nd (ji_range1 T.n_range (ja_cons (je_add je_int (je_f G_Ltake hr (ja_cons (je_var 0) (ja_cons je_int ja_nil)))) ja_nil)) (blkOk_by (N := ["_law_box_here", "_law_root", "_law_least", "_law_shares", "_law_turn", "_law_wides", "_law_share"]) (sc := defScope s_Ldrawn) (by decide +kernel)) (by decide) (fun _ _ _ _ _ => (jg_name 4 nd rfl (by first | exact Or.inl rfl | exact Or.inr rfl))) (fun _ _ _ _ _ => jts_nil) (fun _ _ _ _ _ => (je_f G_Lof hr (ja_cons (je_var 0) (ja_cons (je_lst (ja_cons je_int (ja_cons je_int (ja_cons (je_neg je_int) (ja_cons je_int (ja_cons je_int ja_nil)))))) ja_nil))))) ja_nil))) (jss_cons
  (js_set 5 nd rfl (by first | exact Or.inl rfl | exact Or.inr rfl) (je_tupC T.n_tuple (ja_cons (je_lc [("_law_share", 6)] rfl nd (ji_seq (je_var 3)) (blkOk_by (N := ["_law_box_here", "_law_root", "_law_least", "_law_shares", "_law_turn", "_law_wides", "_law_share"]) (sc := defScope s_Ldrawn) (by decide +kernel)) (by decide) (fun _ _ _ _ _ => (jg_name 6 nd rfl (by first | exact Or.inl rfl | exact Or.inr rfl))) (fun _ _ _ _ _ => jts_nil) (fun _ _ _ _ _ => (je_add (je_var 2) (je_f G_Ltake hr (ja_cons (je_var 0) (ja_cons je_int ja_nil)))))) ja_nil))) (jss_one
  (js_ret (je_tup (ja_cons (je_var 1) (ja_cons (je_var 3) (ja_cons (je_add je_int (je_f G_Ltake hr (ja_cons (je_var 0) (ja_cons (je_ix (je_lst (ja_cons je_int (ja_cons je_int (ja_cons je_int ja_nil)))) (je_f G_Ltake hr (ja_cons (je_var 0) (ja_cons je_int ja_nil)))) ja_nil)))) (ja_cons (je_var 5) (ja_cons (je_add (je_var 2) (je_f G_Ltake hr (ja_cons (je_var 0) (ja_cons je_int ja_nil)))) ja_nil))))))))))))), Vs1 len vc⟩
theorem ok_Lrules {f : Addr} {fd : FuncData} (F : Fun K "_law_rules" "_law_rules" s_Lrules f fd) (T : Tx K mg) (vc : goal_Lrules) (len : ∀ ds S P, sp_Lrules ds S P → ds.length = 2)
    {f_Lsums : Addr} {fd_Lsums : FuncData} (G_Lsums : Does P w K mg base 1 "_law_sums" ["_law_shares", "_law_wides"] f_Lsums fd_Lsums sp_Lsums) : FnD P w K mg base 2 f fd ["_law_game", "_law_late"] sp_Lrules :=
  fn_d F sc_Lrules len fun cdv A outer s H E hr => ⟨rd_Lrules, (have nd := sc_Lrules.nd
  (jss_cons
  (js_asg (je_var 0) (jg_tup rfl (jgs_cons (jg_name 2 nd rfl (by first | exact Or.inl rfl | exact Or.inr rfl)) (jgs_cons (jg_name 3 nd rfl (by first | exact Or.inl rfl | exact Or.inr rfl)) (jgs_cons (jg_name 4 nd rfl (by first | exact Or.inl rfl | exact Or.inr rfl)) (jgs_cons (jg_name 5 nd rfl (by first | exact Or.inl rfl | exact Or.inr rfl)) (jgs_cons (jg_name 6 nd rfl (by first | exact Or.inl rfl | exact Or.inr rfl)) jgs_nil))))))) (jss_cons
  (js_par 7 8 rfl nd rfl rfl (by decide) rfl rfl (ja_cons (je_f G_Lsums hr (ja_cons (je_var 3) (ja_cons (je_var 5) ja_nil))) (ja_cons (je_var 4) ja_nil)) (by rfl)) (jss_cons
  (js_for PassesOwn.never rfl (ji_range1 T.n_range (ja_cons (je_var 1) ja_nil)) (jg_name 9 nd rfl (by first | exact Or.inl rfl | exact Or.inr rfl)) (jss_one
  (js_set 8 nd rfl (by first | exact Or.inl rfl | exact Or.inr rfl) (je_mul (je_var 8) (je_var 2))))) (jss_one
  (js_ret (je_disp (jps_cons je_str (je_var 2) (jps_cons je_str (je_var 8) (jps_cons je_str (je_var 7) (jps_cons je_str (je_ix (je_var 7) (je_neg je_int)) (jps_cons je_str (je_var 6) jps_nil)))))))))))), Vs2 len vc⟩
theorem ok_Lis_lost {f : Addr} {fd : FuncData} (F : Fun K "_law_is_lost" "_law_is_lost" s_Lis_lost f fd) (T : Tx K mg) (vc : goal_Lis_lost) (len : ∀ ds S P, sp_Lis_lost ds S P → ds.length = 2)
     : FnD P w K mg base 1 f fd ["_law_g", "_law_rest"] sp_Lis_lost :=
  fn_d F sc_Lis_lost len fun cdv A outer s H E hr => ⟨rd_Lis_lost, (have nd := sc_Lis_lost.nd
  (jss_one
  (js_ret (je_gt (je_add (je_mul (je_sub (je_dget hr (je_var 0) je_str) je_int) (je_abs T.n_abs (ja_cons (je_var 1) ja_nil))) (je_dget hr (je_var 0) je_str)) (je_mul (je_dget hr (je_var 0) je_str) (je_dget hr (je_var 0) je_str)))))), Vs2 len vc⟩
theorem ok_Lrests {f : Addr} {fd : FuncData} (F : Fun K "_law_rests" "_law_rests" s_Lrests f fd) (T : Tx K mg) (vc : goal_Lrests) (len : ∀ ds S P, sp_Lrests ds S P → ds.length = 1)
    {f_Lis_lost : Addr} {fd_Lis_lost : FuncData} (G_Lis_lost : Does P w K mg base 1 "_law_is_lost" ["_law_g", "_law_rest"] f_Lis_lost fd_Lis_lost sp_Lis_lost) : FnD P w K mg base 2 f fd ["_law_g"] sp_Lrests :=
  fn_d F sc_Lrests len fun cdv A outer s H E hr => ⟨rd_Lrests, (have nd := sc_Lrests.nd
  (jss_cons
  (js_set 1 nd rfl (by first | exact Or.inl rfl | exact Or.inr rfl) (je_lstM ja_nil)) (jss_cons
  (js_for PassesOwn.never rfl (ji_range1 T.n_range (ja_cons je_int ja_nil)) (jg_name 2 nd rfl (by first | exact Or.inl rfl | exact Or.inr rfl)) (jss_cons
  (js_if (jt_val (je_f G_Lis_lost hr (ja_cons (je_var 0) (ja_cons (je_var 2) ja_nil)))) (jss_one
  (js_ret (je_add (je_lc [("_law_one", 3)] rfl nd (ji_seq (je_back (je_var 1))) (blkOk_by (N := ["_law_g", "_law_found", "_law_rest", "_law_one"]) (sc := defScope s_Lrests) (by decide +kernel)) (by decide) (fun _ _ _ _ _ => (jg_name 3 nd rfl (by first | exact Or.inl rfl | exact Or.inr rfl))) (fun _ _ _ _ _ => jts_nil) (fun _ _ _ _ _ => (je_sub je_int (je_var 3)))) (je_var 1)))) jss_nil) (jss_one
  (js_expr (je_append (je_var 1) (je_var 2)))))) (jss_one
  (js_ret (je_add (je_lc [("_law_one", 3)] rfl nd (ji_seq (je_back (je_var 1))) (blkOk_by (N := ["_law_g", "_law_found", "_law_rest", "_law_one"]) (sc := defScope s_Lrests) (by decide +kernel)) (by decide) (fun _ _ _ _ _ => (jg_name 3 nd rfl (by first | exact Or.inl rfl | exact Or.inr rfl))) (fun _ _ _ _ _ => jts_nil) (fun _ _ _ _ _ => (je_sub je_int (je_var 3)))) (je_var 1))))))), Vs1 len vc⟩
theorem ok_Lleads {f : Addr} {fd : FuncData} (F : Fun K "_law_leads" "_law_leads" s_Lleads f fd) (T : Tx K mg) (vc : goal_Lleads) (len : ∀ ds S P, sp_Lleads ds S P → ds.length = 3)
     : FnD P w K mg base 1 f fd ["_law_g", "_law_rest", "_law_more"] sp_Lleads :=
  fn_d F sc_Lleads len fun cdv A outer s H E hr => ⟨rd_Lleads, (have nd := sc_Lleads.nd
  (jss_one
  (js_ret (je_lc [("_law_figure", 3)] rfl nd (ji_range2 T.n_range (ja_cons (je_sub je_int (je_dget hr (je_var 0) je_str)) (ja_cons (je_add (je_dget hr (je_var 0) je_str) je_int) ja_nil))) (blkOk_by (N := ["_law_g", "_law_rest", "_law_more", "_law_figure"]) (sc := defScope s_Lleads) (by decide +kernel)) (by decide) (fun _ _ _ _ _ => (jg_name 3 nd rfl (by first | exact Or.inl rfl | exact Or.inr rfl))) (fun _ _ _ _ _ => jts_nil) (fun _ _ _ _ _ => (je_sub (je_add (je_mul (je_dget hr (je_var 0) je_str) (je_var 1)) (je_var 2)) (je_mul (je_var 3) (je_dget hr (je_var 0) je_str)))))))), Vs3 len vc⟩
theorem ok_Lis_safe {f : Addr} {fd : FuncData} (F : Fun K "_law_is_safe" "_law_is_safe" s_Lis_safe f fd) (T : Tx K mg) (vc : goal_Lis_safe) (len : ∀ ds S P, sp_Lis_safe ds S P → ds.length = 3)
    {f_Lleads : Addr} {fd_Lleads : FuncData} (G_Lleads : Does P w K mg base 1 "_law_leads" ["_law_g", "_law_rest", "_law_more"] f_Lleads fd_Lleads sp_Lleads) : FnD P w K mg base 2 f fd ["_law_g", "_law_rest", "_law_some"] sp_Lis_safe :=
  fn_d F sc_Lis_safe len fun cdv A outer s H E hr => ⟨rd_Lis_safe, (have nd := sc_Lis_safe.nd
  (jss_cons
  (js_for PassesOwn.never rfl (ji_seq (je_dget hr (je_var 0) je_str)) (jg_name 3 nd rfl (by first | exact Or.inl rfl | exact Or.inr rfl)) (jss_one
  (js_if (jt_not (jt_val (je_any T.n_any (ja_cons (je_lc [("_law_one", 4)] rfl nd (ji_seq (je_f G_Lleads hr (ja_cons (je_var 0) (ja_cons (je_var 1) (ja_cons (je_var 3) ja_nil))))) (blkOk_by (N := ["_law_g", "_law_rest", "_law_some", "_law_more", "_law_one"]) (sc := defScope s_Lis_safe) (by decide +kernel)) (by decide) (fun _ _ _ _ _ => (jg_name 4 nd rfl (by first | exact Or.inl rfl | exact Or.inr rfl))) (fun _ _ _ _ _ => jts_nil) (fun _ _ _ _ _ => (je_din hr (je_var 4) (je_var 2)))) ja_nil)))) (jss_one
  (js_ret je_bl)) jss_nil))) (jss_one
  (js_ret je_bl)))), Vs3 len vc⟩
theorem ok_Llayers {f : Addr} {fd : FuncData} (F : Fun K "_law_layers" "_law_layers" s_Llayers f fd) (T : Tx K mg) (vc : goal_Llayers) (len : ∀ ds S P, sp_Llayers ds S P → ds.length = 1)
    {f_Lrests : Addr} {fd_Lrests : FuncData} (G_Lrests : Does P w K mg base 2 "_law_rests" ["_law_g"] f_Lrests fd_Lrests sp_Lrests)
    {f_Lis_safe : Addr} {fd_Lis_safe : FuncData} (G_Lis_safe : Does P w K mg base 2 "_law_is_safe" ["_law_g", "_law_rest", "_law_some"] f_Lis_safe fd_Lis_safe sp_Lis_safe) : FnD P w K mg base 3 f fd ["_law_g"] sp_Llayers :=
  fn_d F sc_Llayers len fun cdv A outer s H E hr => ⟨rd_Llayers, (have nd := sc_Llayers.nd
  (jss_cons
  (js_asg (je_tup (ja_cons je_dnew (ja_cons (je_dictP T.n_dict rfl (ja_cons (je_lc [("_law_rest", 4)] rfl nd (ji_seq (je_f G_Lrests hr (ja_cons (je_var 0) ja_nil))) (blkOk_by (N := ["_law_g", "_law_found", "_law_some", "_law_count", "_law_rest", "_law_turn", "_law_gone"]) (sc := defScope s_Llayers) (by decide +kernel)) (by decide) (fun _ _ _ _ _ => (jg_name 4 nd rfl (by first | exact Or.inl rfl | exact Or.inr rfl))) (fun _ _ _ _ _ => jts_nil) (fun _ _ _ _ _ => (je_tup (ja_cons (je_var 4) (ja_cons je_bl ja_nil))))) ja_nil)) (ja_cons je_int ja_nil)))) (jg_tup rfl (jgs_cons (jg_name 1 nd rfl (by first | exact Or.inl rfl | exact Or.inr rfl)) (jgs_cons (jg_name 2 nd rfl (by first | exact Or.inl rfl | exact Or.inr rfl)) (jgs_cons (jg_name 3 nd rfl (by first | exact Or.inl rfl | exact Or.inr rfl)) jgs_nil))))) (jss_cons
  (js_for PassesOwn.never rfl (ji_range1 T.n_range (ja_cons (je_add (je_lenD T.n_len (ja_cons (je_var 2) ja_nil)) je_int) ja_nil)) (jg_name 5 nd rfl (by first | exact Or.inl rfl | exact Or.inr rfl)) (jss_cons
  (js_lock (js_setLc 6 [("_law_rest", 4)] rfl nd rfl rfl (sw_true rfl rfl rfl (by decide +kernel)) (ji_keys (je_var 2)) (blkOk_by (N := ["_law_g", "_law_found", "_law_some", "_law_count", "_law_rest", "_law_turn", "_law_gone"]) (sc := defScope s_Llayers) (by decide +kernel)) (by decide) (fun _ _ _ _ _ => (jg_name 4 nd rfl (by first | exact Or.inl rfl | exact Or.inr rfl))) (fun _ _ _ _ _ => (jts_one (jt_not (jt_val (je_f G_Lis_safe hr (ja_cons (je_var 0) (ja_cons (je_var 4) (ja_cons (je_var 2) ja_nil)))))))) (fun _ _ _ _ _ => (je_var 4)))) (jss_cons
  (js_for PassesOwn.never rfl (ji_seq (je_var 6)) (jg_name 4 nd rfl (by first | exact Or.inl rfl | exact Or.inr rfl)) (jss_cons
  (js_dput hr (je_var 1) (je_var 4) (je_var 3)) (jss_one
  (js_expr (je_dpop1 (je_var 2) (je_var 4)))))) (jss_cons
  (js_set 3 nd rfl (by first | exact Or.inl rfl | exact Or.inr rfl) (je_add (je_var 3) je_int)) (jss_one
  (js_if (jt_eq hr (je_var 6) (je_lst ja_nil)) (jss_cons
  (js_expr (je_dupd (je_var 1) (je_dictP T.n_dict rfl (ja_cons (je_lock (je_lc [("_law_rest", 4)] rfl nd (ji_keys (je_var 2)) (blkOk_by (N := ["_law_g", "_law_found", "_law_some", "_law_count", "_law_rest", "_law_turn", "_law_gone"]) (sc := defScope s_Llayers) (by decide +kernel)) (by decide) (fun _ _ _ _ _ => (jg_name 4 nd rfl (by first | exact Or.inl rfl | exact Or.inr rfl))) (fun _ _ _ _ _ => jts_nil) (fun _ _ _ _ _ => (je_tup (ja_cons (je_var 4) (ja_cons je_non ja_nil)))))) ja_nil)))) (jss_one
  (js_ret (je_var 1)))) jss_nil)))))) (jss_one
  (js_ret (je_var 1)))))), Vs1 len vc⟩
theorem ok_Lchosen {f : Addr} {fd : FuncData} (F : Fun K "_law_chosen" "_law_chosen" s_Lchosen f fd) (T : Tx K mg) (vc : goal_Lchosen) (len : ∀ ds S P, sp_Lchosen ds S P → ds.length = 3)
    {f_Ltake : Addr} {fd_Ltake : FuncData} (G_Ltake : Does P w K mg base 1 "_law_take" ["_law_box_here", "_law_size"] f_Ltake fd_Ltake sp_Ltake)
    {f_Lleads : Addr} {fd_Lleads : FuncData} (G_Lleads : Does P w K mg base 1 "_law_leads" ["_law_g", "_law_rest", "_law_more"] f_Lleads fd_Lleads sp_Lleads) : FnD P w K mg base 2 f fd ["_law_box_here", "_law_g", "_law_held"] sp_Lchosen :=
  fn_d F sc_Lchosen len fun cdv A outer s H E hr => ⟨rd_Lchosen, (have nd := sc_Lchosen.nd
  (jss_cons
  (js_asg (je_tup (ja_cons (je_lstM ja_nil) (ja_cons (je_lstM (ja_cons je_int ja_nil)) (ja_cons (je_f G_Ltake hr (ja_cons (je_var 0) (ja_cons je_int ja_nil))) ja_nil)))) (jg_tup rfl (jgs_cons (jg_name 3 nd rfl (by first | exact Or.inl rfl | exact Or.inr rfl)) (jgs_cons (jg_name 4 nd rfl (by first | exact Or.inl rfl | exact Or.inr rfl)) (jgs_cons (jg_name 5 nd rfl (by first | exact Or.inl rfl | exact Or.inr rfl)) jgs_nil))))) (jss_cons
  (js_while PassesOwn.never (jt_neL hr (je_var 4) (je_lst ja_nil)) (jss_cons
  (js_set 6 nd rfl (by first | exact Or.inl rfl | exact Or.inr rfl) (je_pop (je_var 4))) (jss_one
  (js_if (jt_notin (je_var 6) (je_var 3)) (jss_cons
  (js_expr (je_append (je_var 3) (je_var 6))) (jss_one
  (js_for PassesOwn.never rfl (ji_seq (je_dget hr (je_var 1) je_str)) (jg_name 7 nd rfl (by first | exact Or.inl rfl | exact Or.inr rfl)) (jss_cons
  (js_set 8 nd rfl (by first | exact Or.inl rfl | exact Or.inr rfl) (je_sortL T.n_sorted (ja_cons (je_lc [("_law_one", 9)] rfl nd (ji_seq (je_f G_Lleads hr (ja_cons (je_var 1) (ja_cons (je_var 6) (ja_cons (je_var 7) ja_nil))))) (blkOk_by (N := ["_law_box_here", "_law_g", "_law_held", "_law_found", "_law_left", "_law_way", "_law_rest", "_law_more", "_law_some", "_law_one", "_law_near"]) (sc := defScope s_Lchosen) (by decide +kernel)) (by decide) (fun _ _ _ _ _ => (jg_name 9 nd rfl (by first | exact Or.inl rfl | exact Or.inr rfl))) (fun _ _ _ _ _ => (jts_one (jt_din hr (je_var 9) (je_var 2)))) (fun _ _ _ _ _ => (je_var 9))) ja_nil))) (jss_cons
  (js_setLc 10 [("_law_one", 9)] rfl nd rfl rfl (sw_true rfl rfl rfl (by decide +kernel)) (ji_seq (je_var 8)) (blkOk_by (N := ["_law_box_here", "_law_g", "_law_held", "_law_found", "_law_left", "_law_way", "_law_rest", "_law_more", "_law_some", "_law_one", "_law_near"]) (sc := defScope s_Lchosen) (by decide +kernel)) (by decide) (fun _ _ _ _ _ => (jg_name 9 nd rfl (by first | exact Or.inl rfl | exact Or.inr rfl))) (fun _ _ _ _ _ => (jts_one (jt_in (je_var 9) (je_var 3)))) (fun _ _ _ _ _ => (je_var 9))) (jss_one
  (js_expr (je_append (je_var 4) (je_ix (je_orL (je_var 10) (je_one (je_var 8))) (je_ix (je_lst (ja_cons je_int (ja_cons (je_neg je_int) (ja_cons (je_fdiv (je_len T.n_len (ja_cons (je_orL (je_var 10) (je_one (je_var 8))) ja_nil)) je_int) ja_nil)))) (je_var 5))))))))))) jss_nil)))) (jss_one
  (js_retZ (je_var 3)))))), Vs3 len vc⟩
theorem ok_Lis_paper {f : Addr} {fd : FuncData} (F : Fun K "_law_is_paper" "_law_is_paper" s_Lis_paper f fd) (T : Tx K mg) (vc : goal_Lis_paper) (len : ∀ ds S P, sp_Lis_paper ds S P → ds.length = 2)
    {f_Lis_lost : Addr} {fd_Lis_lost : FuncData} (G_Lis_lost : Does P w K mg base 1 "_law_is_lost" ["_law_g", "_law_rest"] f_Lis_lost fd_Lis_lost sp_Lis_lost)
    {f_Lis_safe : Addr} {fd_Lis_safe : FuncData} (G_Lis_safe : Does P w K mg base 2 "_law_is_safe" ["_law_g", "_law_rest", "_law_some"] f_Lis_safe fd_Lis_safe sp_Lis_safe) : FnD P w K mg base 3 f fd ["_law_g", "_law_piece"] sp_Lis_paper :=
  fn_d F sc_Lis_paper len fun cdv A outer s H E hr => ⟨rd_Lis_paper, (have nd := sc_Lis_paper.nd
  (jss_cons
  (js_if (jt_not (jt_val (je_isi T.n_isinstance (ja_cons (je_var 1) (ja_cons (je_tyList T.n_list) ja_nil))))) (jss_one
  (js_ret je_bl)) jss_nil) (jss_cons
  (js_for PassesOwn.never rfl (ji_seq (je_var 1)) (jg_name 2 nd rfl (by first | exact Or.inl rfl | exact Or.inr rfl)) (jss_one
  (js_if (jt_w (jw_or (jt_not (jt_val (je_isi T.n_isinstance (ja_cons (je_var 2) (ja_cons (je_tyInt T.n_int) ja_nil))))) (jw_or (jt_val (je_isi T.n_isinstance (ja_cons (je_var 2) (ja_cons (je_tyBool T.n_bool) ja_nil)))) (jw_or1 (jt_val (je_f G_Lis_lost hr (ja_cons (je_var 0) (ja_cons (je_var 2) ja_nil)))))))) (jss_one
  (js_ret je_bl)) jss_nil))) (jss_cons
  (js_set 3 nd rfl (by first | exact Or.inl rfl | exact Or.inr rfl) (je_dictP T.n_dict rfl (ja_cons (je_lc [("_law_one", 2)] rfl nd (ji_seq (je_var 1)) (blkOk_by (N := ["_law_g", "_law_piece", "_law_one", "_law_some", "_law_rest"]) (sc := defScope s_Lis_paper) (by decide +kernel)) (by decide) (fun _ _ _ _ _ => (jg_name 2 nd rfl (by first | exact Or.inl rfl | exact Or.inr rfl))) (fun _ _ _ _ _ => jts_nil) (fun _ _ _ _ _ => (je_tup (ja_cons (je_var 2) (ja_cons je_bl ja_nil))))) ja_nil))) (jss_one
  (js_ret (je_and (je_din hr je_int (je_var 3)) (je_one (je_all T.n_all (ja_cons (je_lock (je_lc [("_law_rest", 4)] rfl nd (ji_keys (je_var 3)) (blkOk_by (N := ["_law_g", "_law_piece", "_law_one", "_law_some", "_law_rest"]) (sc := defScope s_Lis_paper) (by decide +kernel)) (by decide) (fun _ _ _ _ _ => (jg_name 4 nd rfl (by first | exact Or.inl rfl | exact Or.inr rfl))) (fun _ _ _ _ _ => jts_nil) (fun _ _ _ _ _ => (je_f G_Lis_safe hr (ja_cons (je_var 0) (ja_cons (je_var 4) (ja_cons (je_var 3) ja_nil))))))) ja_nil)))))))))), Vs2 len vc⟩
theorem ok_Lotherwise {f : Addr} {fd : FuncData} (F : Fun K "_law_otherwise" "_law_otherwise" s_Lotherwise f fd) (T : Tx K mg) (vc : goal_Lotherwise) (len : ∀ ds S P, sp_Lotherwise ds S P → ds.length = 3)
    {f_Ltake : Addr} {fd_Ltake : FuncData} (G_Ltake : Does P w K mg base 1 "_law_take" ["_law_box_here", "_law_size"] f_Ltake fd_Ltake sp_Ltake)
    {f_Lof : Addr} {fd_Lof : FuncData} (G_Lof : Does P w K mg base 2 "_law_of" ["_law_box_here", "_law_some"] f_Lof fd_Lof sp_Lof) : FnD P w K mg base 3 f fd ["_law_box_here", "_law_g", "_law_paper"] sp_Lotherwise :=
  fn_d F sc_Lotherwise len fun cdv A outer s H E hr => ⟨rd_Lotherwise, (have nd := sc_Lotherwise.nd
  (jss_cons
  (js_set 3 nd rfl (by first | exact Or.inl rfl | exact Or.inr rfl) (je_listCM T.n_list (ja_cons (je_var 2) ja_nil))) (jss_cons
  (js_for PassesOwn.never rfl (ji_range1 T.n_range (ja_cons (je_add je_int (je_f G_Ltake hr (ja_cons (je_var 0) (ja_cons je_int ja_nil)))) ja_nil)) (jg_name 4 nd rfl (by first | exact Or.inl rfl | exact Or.inr rfl)) (jss_cons
  (js_par 5 6 rfl nd rfl rfl (by decide) rfl rfl (ja_cons (je_f G_Ltake hr (ja_cons (je_var 0) (ja_cons (je_add (je_len T.n_len (ja_cons (je_var 3) ja_nil)) je_int) ja_nil))) (ja_cons (je_f G_Ltake hr (ja_cons (je_var 0) (ja_cons je_int ja_nil))) ja_nil)) (by rfl)) (jss_one
  (js_if (jt_lt (je_var 6) je_int) (jss_one
  (js_set 3 nd rfl (by first | exact Or.inl rfl | exact Or.inr rfl) (je_addM (je_sl (je_var 3) jo_none (jo_some (je_var 5))) (je_sl (je_var 3) (jo_some (je_add (je_var 5) je_int)) jo_none)))) (jss_one
  (js_if (jt_eq hr (je_var 6) je_int) (jss_one
  (js_expr (je_insert (je_var 3) (je_var 5) (je_sub (je_f G_Ltake hr (ja_cons (je_var 0) (ja_cons je_int ja_nil))) je_int)))) (jss_one
  (js_if (jt_eq hr (je_var 6) je_int) (jss_one
  (js_set 3 nd rfl (by first | exact Or.inl rfl | exact Or.inr rfl) (je_addM (je_var 3) (je_sl (je_var 3) (jo_some (je_var 5)) (jo_some (je_add (je_var 5) je_int)))))) (jss_one
  (js_if (jt_eq hr (je_var 6) je_int) (jss_one
  (js_setLcM 3 [("_law_one", 7)] rfl nd rfl rfl (sw_true rfl rfl rfl (by decide +kernel)) (ji_seq (je_var 3)) (blkOk_by (N := ["_law_box_here", "_law_g", "_law_paper", "_law_found", "_law_turn", "_law_at", "_law_way", "_law_one"]) (sc := defScope s_Lotherwise) (by decide +kernel)) (by decide) (fun _ _ _ _ _ => (jg_name 7 nd rfl (by first | exact Or.inl rfl | exact Or.inr rfl))) (fun _ _ _ _ _ => (jts_one (jt_ne hr (je_var 7) je_int))) (fun _ _ _ _ _ => (je_var 7)))) (jss_one
  (js_expr (je_insert (je_var 3) (je_var 5) (je_f G_Lof hr (ja_cons (je_var 0) (ja_cons (je_lst (ja_cons je_bl (ja_cons je_non (ja_cons je_str (ja_cons (je_tup (ja_cons je_int ja_nil)) (ja_cons (je_lst (ja_cons je_int ja_nil)) (ja_cons (je_pow je_int je_int) (ja_cons je_int (ja_cons je_bl ja_nil))))))))) ja_nil)))))))))))))))) (jss_one
  (js_ret (je_f G_Lof hr (ja_cons (je_var 0) (ja_cons (je_lst (ja_cons (je_var 3) (ja_cons (je_var 3) (ja_cons (je_revL (je_var 3)) (ja_cons (je_tupC T.n_tuple (ja_cons (je_var 3) ja_nil)) ja_nil))))) ja_nil)))))))), Vs3 len vc⟩
theorem ok_Lright {f : Addr} {fd : FuncData} (F : Fun K "_law_right" "_law_right" s_Lright f fd) (T : Tx K mg) (vc : goal_Lright) (len : ∀ ds S P, sp_Lright ds S P → ds.length = 1)
    {f_Ldrawn : Addr} {fd_Ldrawn : FuncData} (G_Ldrawn : Does P w K mg base 3 "_law_drawn" ["_law_box_here"] f_Ldrawn fd_Ldrawn sp_Ldrawn)
    {f_Ltake : Addr} {fd_Ltake : FuncData} (G_Ltake : Does P w K mg base 1 "_law_take" ["_law_box_here", "_law_size"] f_Ltake fd_Ltake sp_Ltake)
    {f_Lrules : Addr} {fd_Lrules : FuncData} (G_Lrules : Does P w K mg base 2 "_law_rules" ["_law_game", "_law_late"] f_Lrules fd_Lrules sp_Lrules)
    {f_Llayers : Addr} {fd_Llayers : FuncData} (G_Llayers : Does P w K mg base 3 "_law_layers" ["_law_g"] f_Llayers fd_Llayers sp_Llayers)
    {f_enough_paper : Addr} {fd_enough_paper : FuncData} (G_enough_paper : Does P w K mg base 6 "enough_paper" ["base", "weights", "over", "mosts", "most", "lag"] f_enough_paper fd_enough_paper sp_enough_paper)
    {f_Lsame : Addr} {fd_Lsame : FuncData} (G_Lsame : Does P w K mg base 6 "_law_same" ["_law_found", "_law_due"] f_Lsame fd_Lsame sp_Lsame)
    {f_Lchosen : Addr} {fd_Lchosen : FuncData} (G_Lchosen : Does P w K mg base 2 "_law_chosen" ["_law_box_here", "_law_g", "_law_held"] f_Lchosen fd_Lchosen sp_Lchosen)
    {f_Lis_paper : Addr} {fd_Lis_paper : FuncData} (G_Lis_paper : Does P w K mg base 3 "_law_is_paper" ["_law_g", "_law_piece"] f_Lis_paper fd_Lis_paper sp_Lis_paper)
    {f_Lotherwise : Addr} {fd_Lotherwise : FuncData} (G_Lotherwise : Does P w K mg base 3 "_law_otherwise" ["_law_box_here", "_law_g", "_law_paper"] f_Lotherwise fd_Lotherwise sp_Lotherwise)
    {f_shows_enough : Addr} {fd_shows_enough : FuncData} (G_shows_enough : Does P w K mg base 5 "shows_enough" ["base", "weights", "over", "mosts", "most", "lag", "thing"] f_shows_enough fd_shows_enough sp_shows_enough)
    (kb_enough_paper_0 : KBn K fd_enough_paper ["base", "weights", "over", "mosts", "most", "lag"] 0 ["lag", "most", "mosts", "over", "weights", "base"] (pick [5, 4, 3, 2, 1, 0]) (pick [5, 4, 3, 2, 1, 0]))
    (kb_shows_enough_0 : KBn K fd_shows_enough ["base", "weights", "over", "mosts", "most", "lag", "thing"] 0 ["thing", "lag", "base", "weights", "over", "mosts", "most"] (pick [2, 3, 4, 5, 6, 1, 0]) (pick [2, 3, 4, 5, 6, 1, 0])) : FnD P w K mg base 7 f fd ["_law_box_here"] sp_Lright :=
  fn_d F sc_Lright len fun cdv A outer s H E hr => ⟨rd_Lright, (have nd := sc_Lright.nd
  (jss_cons
  (js_set 1 nd rfl (by first | exact Or.inl rfl | exact Or.inr rfl) (je_f G_Ldrawn hr (ja_cons (je_var 0) ja_nil))) (jss_cons
  (js_asg (je_var 1) (jg_tup rfl (jgs_cons (jg_name 2 nd rfl (by first | exact Or.inl rfl | exact Or.inr rfl)) (jgs_cons (jg_name 3 nd rfl (by first | exact Or.inl rfl | exact Or.inr rfl)) (jgs_cons (jg_name 4 nd rfl (by first | exact Or.inl rfl | exact Or.inr rfl)) (jgs_cons (jg_name 5 nd rfl (by first | exact Or.inl rfl | exact Or.inr rfl)) (jgs_cons (jg_name 6 nd rfl (by first | exact Or.inl rfl | exact Or.inr rfl)) jgs_nil))))))) (jss_cons
  (js_set 7 nd rfl (by first | exact Or.inl rfl | exact Or.inr rfl) (je_f G_Ltake hr (ja_cons (je_var 0) (ja_cons (je_ifE (jt_lt (je_mul (je_var 2) (je_var 4)) je_int) je_int je_int) ja_nil)))) (jss_cons
  (js_set 8 nd rfl (by first | exact Or.inl rfl | exact Or.inr rfl) (je_f G_Lrules hr (ja_cons (je_var 1) (ja_cons (je_var 7) ja_nil)))) (jss_cons
  (js_set 9 nd rfl (by first | exact Or.inl rfl | exact Or.inr rfl) (je_f G_Llayers hr (ja_cons (je_var 8) ja_nil))) (jss_cons
  (js_set 10 nd rfl (by first | exact Or.inl rfl | exact Or.inr rfl) (je_dictP T.n_dict rfl (ja_cons (je_lock (je_lc [("_law_rest", 11)] rfl nd (ji_keys (je_var 9)) (blkOk_by (N := ["_law_box_here", "_law_game", "_law_root", "_law_shares", "_law_by", "_law_wides", "_law_wide", "_law_late", "_law_g", "_law_layers_here", "_law_held", "_law_rest", "_law_found", "_law_papers", "_law_one", "_law_turn", "_law_piece", "_law_kept", "_law_due", "_law_told"]) (sc := defScope s_Lright) (by decide +kernel)) (by decide) (fun _ _ _ _ _ => (jg_name 11 nd rfl (by first | exact Or.inl rfl | exact Or.inr rfl))) (fun _ _ _ _ _ => (jts_one (jt_isN (je_dget hr (je_var 9) (je_var 11)) je_non))) (fun _ _ _ _ _ => (je_tup (ja_cons (je_var 11) (ja_cons je_bl ja_nil)))))) ja_nil))) (jss_cons
  (js_set 12 nd rfl (by first | exact Or.inl rfl | exact Or.inr rfl) (je_lstM (ja_cons (je_f G_enough_paper hr (ja_cons (je_var 2) (ja_cons (je_var 3) (ja_cons (je_var 4) (ja_cons (je_var 5) (ja_cons (je_var 6) (ja_cons (je_var 7) ja_nil))))))) ja_nil))) (jss_cons
  (js_expr (je_append (je_var 12) (je_fk0 G_enough_paper hr kb_enough_paper_0 (jk_cons (je_var 7) (jk_cons (je_var 6) (jk_cons (je_var 5) (jk_cons (je_var 4) (jk_cons (je_var 3) (jk_cons (je_var 2) jk_nil))))))))) (jss_cons
  (js_if (jt_w (jw_or (jt_not (jt_val (je_f G_Lsame hr (ja_cons (je_ix (je_var 12) je_int) (ja_cons (je_ix (je_var 12) je_int) ja_nil))))) (jw_or1 (jt_ne hr (je_isN (je_ix (je_var 12) je_int) je_non) (je_dnotin hr je_int (je_var 10)))))) (jss_one
  (js_ret je_bl)) jss_nil) (jss_cons
  (js_set 13 nd rfl (by first | exact Or.inl rfl | exact Or.inr rfl) (je_lstM (ja_cons (je_lst ja_nil) (ja_cons (je_lst (ja_cons je_int ja_nil)) (ja_cons je_non (ja_cons je_int (ja_cons (je_sortDB T.n_sorted rfl (ja_cons (je_var 9) ja_nil)) ja_nil))))))) (jss_cons
  (js_if (jt_notN (je_ix (je_var 12) je_int) je_non) (jss_cons
  (js_set 13 nd rfl (by first | exact Or.inl rfl | exact Or.inr rfl) (je_addM (je_var 13) (je_lst (ja_cons (je_ix (je_var 12) je_int) (ja_cons (je_sortDB T.n_sorted rfl (ja_cons (je_var 10) ja_nil)) (ja_cons (je_f G_Lchosen hr (ja_cons (je_var 0) (ja_cons (je_var 8) (ja_cons (je_var 10) ja_nil)))) ja_nil)))))) (jss_cons
  (js_if (jt_ne hr (je_lc [("_law_one", 14)] rfl nd (ji_seq (je_sl (je_var 13) (jo_some je_int) jo_none)) (blkOk_by (N := ["_law_box_here", "_law_game", "_law_root", "_law_shares", "_law_by", "_law_wides", "_law_wide", "_law_late", "_law_g", "_law_layers_here", "_law_held", "_law_rest", "_law_found", "_law_papers", "_law_one", "_law_turn", "_law_piece", "_law_kept", "_law_due", "_law_told"]) (sc := defScope s_Lright) (by decide +kernel)) (by decide) (fun _ _ _ _ _ => (jg_name 14 nd rfl (by first | exact Or.inl rfl | exact Or.inr rfl))) (fun _ _ _ _ _ => jts_nil) (fun _ _ _ _ _ => (je_f G_Lis_paper hr (ja_cons (je_var 8) (ja_cons (je_var 14) ja_nil))))) (je_mul (je_lst (ja_cons je_bl ja_nil)) je_int)) (jss_one
  (js_ret je_bl)) jss_nil) (jss_one
  (js_for PassesOwn.never rfl (ji_range1 T.n_range (ja_cons je_int ja_nil)) (jg_name 15 nd rfl (by first | exact Or.inl rfl | exact Or.inr rfl)) (jss_one
  (js_expr (je_append (je_var 13) (je_f G_Lotherwise hr (ja_cons (je_var 0) (ja_cons (je_var 8) (ja_cons (je_ix (je_var 13) (je_add je_int (je_mod (je_var 15) je_int))) ja_nil))))))))))) jss_nil) (jss_cons
  (js_for PassesOwn.never rfl (ji_seq (je_var 13)) (jg_name 16 nd rfl (by first | exact Or.inl rfl | exact Or.inr rfl)) (jss_cons
  (js_par 17 18 rfl nd rfl rfl (by decide) rfl rfl (ja_cons (je_reprO hr T.n_repr (ja_cons (je_var 16) ja_nil)) (ja_cons (je_f G_Lis_paper hr (ja_cons (je_var 8) (ja_cons (je_var 16) ja_nil))) ja_nil)) (by rfl)) (jss_cons
  (js_set 19 nd rfl (by first | exact Or.inl rfl | exact Or.inr rfl) (je_lstM (ja_cons (je_f G_shows_enough hr (ja_cons (je_var 2) (ja_cons (je_var 3) (ja_cons (je_var 4) (ja_cons (je_var 5) (ja_cons (je_var 6) (ja_cons (je_var 7) (ja_cons (je_var 16) ja_nil)))))))) ja_nil))) (jss_cons
  (js_expr (je_append (je_var 19) (je_fk0 G_shows_enough hr kb_shows_enough_0 (jk_cons (je_var 16) (jk_cons (je_var 7) (jk_cons (je_var 2) (jk_cons (je_var 3) (jk_cons (je_var 4) (jk_cons (je_var 5) (jk_cons (je_var 6) jk_nil)))))))))) (jss_one
  (js_if (jt_w (jw_or (jt_not (jt_val (je_f G_Lsame hr (ja_cons (je_var 19) (ja_cons (je_lst (ja_cons (je_var 18) (ja_cons (je_var 18) ja_nil))) ja_nil))))) (jw_or1 (jt_ne hr (je_reprO hr T.n_repr (ja_cons (je_var 16) ja_nil)) (je_var 17))))) (jss_one
  (js_ret je_bl)) jss_nil)))))) (jss_cons
  (js_if (jt_notN (je_ix (je_var 12) je_int) je_non) (jss_one
  (js_expr (je_append (je_ix (je_var 12) je_int) je_str))) jss_nil) (jss_one
  (js_ret (je_f G_Lsame hr (ja_cons (je_f G_enough_paper hr (ja_cons (je_var 2) (ja_cons (je_var 3) (ja_cons (je_var 4) (ja_cons (je_var 5) (ja_cons (je_var 6) (ja_cons (je_var 7) ja_nil))))))) (ja_cons (je_ix (je_var 12) je_int) ja_nil))))))))))))))))))), Vs1 len vc⟩
theorem ok_law {f : Addr} {fd : FuncData} (F : Fun K "law" "law" s_law f fd) (T : Tx K mg) (vc : goal_law) (len : ∀ ds S P, sp_law ds S P → ds.length = 1)
    {f_Lright : Addr} {fd_Lright : FuncData} (G_Lright : Does P w K mg base 7 "_law_right" ["_law_box_here"] f_Lright fd_Lright sp_Lright)
    {f_Lbox : Addr} {fd_Lbox : FuncData} (G_Lbox : Does P w K mg base 2 "_law_box" ["_law_script", "_law_k"] f_Lbox fd_Lbox sp_Lbox) : FnD P w K mg base 8 f fd ["_law_script"] sp_law :=
  fn_d F sc_law len fun cdv A outer s H E hr => ⟨rd_law, (have nd := sc_law.nd
  (jss_one
  (js_ret (je_all T.n_all (ja_cons (je_lc [("_law_k", 1)] rfl nd (ji_range1 T.n_range (ja_cons (je_max2 T.n_max (ja_cons je_int (ja_cons (je_min2 T.n_min (ja_cons je_int (ja_cons (je_len T.n_len (ja_cons (je_var 0) ja_nil)) ja_nil))) ja_nil))) ja_nil)) (blkOk_by (N := ["_law_script", "_law_k"]) (sc := defScope s_law) (by decide +kernel)) (by decide) (fun _ _ _ _ _ => (jg_name 1 nd rfl (by first | exact Or.inl rfl | exact Or.inr rfl))) (fun _ _ _ _ _ => jts_nil) (fun _ _ _ _ _ => (je_f G_Lright hr (ja_cons (je_f G_Lbox hr (ja_cons (je_var 0) (ja_cons (je_var 1) ja_nil))) ja_nil)))) ja_nil))))), Vs1 len vc⟩
end
theorem all_mk {l : PySem.W.OpenLaw} {w : World} {K : PySem.W.Frag} {h : Heap} {mg : Str → Option Value} {fa : Addr} (X : K.In h) (G : h.Ns mainGlobals mg) (hfa : mg "law" = some (.ref fa)) (c : HD.Says HDR.hdP HDR.hdF HDR.hdT w K)
    : ∃ fd : FuncData, (∀ (s : Shared) (v : Value), BindsTo s fd ⟨[v], []⟩ [("_law_script", v)]) ∧ ∀ base : Heap, K.In base → base.Ns mainGlobals mg → DG.FnG l.prog w K mg base CX0 8 fa fd ["_law_script"] (spLaw K) := by
  have aC_Game : PySem.W.nsIn K mainGlobals "Game" = some (some (.ref (He.ga K "Game"))) := of_decide_eq_true (c.p 0 0 rfl)
  have pg_Game : PySem.W.plainGet K (He.ga K "Game") Str.empty = true := c.p 0 1 rfl
  have hd_Game : PySem.W.hasDictIn K (He.ga K "Game") = true := c.p 0 2 rfl
  have po_Game : PySem.W.plainOver K (He.ga K "Game") = true := c.p 0 3 rfl
  have sa_Game : PySem.W.findIn K (.ref (He.ga K "Game")) "__setattr__" = some (some (.builtin "object.__setattr__")) := of_decide_eq_true (c.p 0 4 rfl)
  have mk_Game : PySem.W.makesIn K (He.ga K "Game") = true := c.p 0 5 rfl
  have kc_Game : PySem.W.keepIn K (.ref (He.ga K "Game")) = true := c.p 0 6 rfl
  have nA_Game_own_base : PySem.W.findIn K (.ref (He.ga K "Game")) "own_base" = some none := of_decide_eq_true (c.p 0 7 rfl)
  have nA_Game_own_most : PySem.W.findIn K (.ref (He.ga K "Game")) "own_most" = some none := of_decide_eq_true (c.p 0 8 rfl)
  have nA_Game_own_step : PySem.W.findIn K (.ref (He.ga K "Game")) "own_step" = some none := of_decide_eq_true (c.p 0 9 rfl)
  have nA_Game_own_sums : PySem.W.findIn K (.ref (He.ga K "Game")) "own_sums" = some none := of_decide_eq_true (c.p 0 10 rfl)
  have a_is_number : PySem.W.nsIn K mainGlobals "is_number" = some (some (.ref (He.fAd K ("is_number", none)))) := of_decide_eq_true (c.p 0 11 rfl)
  have a_power : PySem.W.nsIn K mainGlobals "power" = some (some (.ref (He.fAd K ("power", none)))) := of_decide_eq_true (c.p 0 12 rfl)
  have a_sums_of : PySem.W.nsIn K mainGlobals "sums_of" = some (some (.ref (He.fAd K ("sums_of", none)))) := of_decide_eq_true (c.p 0 13 rfl)
  have a_Game_init : PySem.W.findIn K (.ref (He.ga K "Game")) "__init__" = some (some (.ref (He.fAd K ("Game", some "__init__")))) := of_decide_eq_true (c.p 0 14 rfl)
  have i_Game_init : PySem.W.isFn K (.ref (He.fAd K ("Game", some "__init__"))) = true := c.p 0 15 rfl
  have a_Game_is_lost : PySem.W.findIn K (.ref (He.ga K "Game")) "is_lost" = some (some (.ref (He.fAd K ("Game", some "is_lost")))) := of_decide_eq_true (c.p 0 16 rfl)
  have i_Game_is_lost : PySem.W.isFn K (.ref (He.fAd K ("Game", some "is_lost"))) = true := c.p 0 17 rfl
  have a_Game_greatest : PySem.W.findIn K (.ref (He.ga K "Game")) "greatest" = some (some (.ref (He.fAd K ("Game", some "greatest")))) := of_decide_eq_true (c.p 0 18 rfl)
  have i_Game_greatest : PySem.W.isFn K (.ref (He.fAd K ("Game", some "greatest"))) = true := c.p 0 19 rfl
  have a_Game_rests : PySem.W.findIn K (.ref (He.ga K "Game")) "rests" = some (some (.ref (He.fAd K ("Game", some "rests")))) := of_decide_eq_true (c.p 0 20 rfl)
  have i_Game_rests : PySem.W.isFn K (.ref (He.fAd K ("Game", some "rests"))) = true := c.p 0 21 rfl
  have a_Game_look : PySem.W.findIn K (.ref (He.ga K "Game")) "look" = some (some (.ref (He.fAd K ("Game", some "look")))) := of_decide_eq_true (c.p 0 22 rfl)
  have i_Game_look : PySem.W.isFn K (.ref (He.fAd K ("Game", some "look"))) = true := c.p 0 23 rfl
  have a_Game_led_to : PySem.W.findIn K (.ref (He.ga K "Game")) "led_to" = some (some (.ref (He.fAd K ("Game", some "led_to")))) := of_decide_eq_true (c.p 0 24 rfl)
  have i_Game_led_to : PySem.W.isFn K (.ref (He.fAd K ("Game", some "led_to"))) = true := c.p 1 0 rfl
  have a_Game_is_held : PySem.W.findIn K (.ref (He.ga K "Game")) "is_held" = some (some (.ref (He.fAd K ("Game", some "is_held")))) := of_decide_eq_true (c.p 1 1 rfl)
  have i_Game_is_held : PySem.W.isFn K (.ref (He.fAd K ("Game", some "is_held"))) = true := c.p 1 2 rfl
  have a_Game_first_fatal : PySem.W.findIn K (.ref (He.ga K "Game")) "first_fatal" = some (some (.ref (He.fAd K ("Game", some "first_fatal")))) := of_decide_eq_true (c.p 1 3 rfl)
  have i_Game_first_fatal : PySem.W.isFn K (.ref (He.fAd K ("Game", some "first_fatal"))) = true := c.p 1 4 rfl
  have a_Game_ranks : PySem.W.findIn K (.ref (He.ga K "Game")) "ranks" = some (some (.ref (He.fAd K ("Game", some "ranks")))) := of_decide_eq_true (c.p 1 5 rfl)
  have i_Game_ranks : PySem.W.isFn K (.ref (He.fAd K ("Game", some "ranks"))) = true := c.p 1 6 rfl
  have a_enough_paper : PySem.W.nsIn K mainGlobals "enough_paper" = some (some (.ref (He.fAd K ("enough_paper", none)))) := of_decide_eq_true (c.p 1 7 rfl)
  have a_shows_enough : PySem.W.nsIn K mainGlobals "shows_enough" = some (some (.ref (He.fAd K ("shows_enough", none)))) := of_decide_eq_true (c.p 1 8 rfl)
  have a_Lcell_at : PySem.W.nsIn K mainGlobals "_law_cell_at" = some (some (.ref (He.fAd K ("_law_cell_at", none)))) := of_decide_eq_true (c.p 1 9 rfl)
  have a_Lbox : PySem.W.nsIn K mainGlobals "_law_box" = some (some (.ref (He.fAd K ("_law_box", none)))) := of_decide_eq_true (c.p 1 10 rfl)
  have a_Ltake : PySem.W.nsIn K mainGlobals "_law_take" = some (some (.ref (He.fAd K ("_law_take", none)))) := of_decide_eq_true (c.p 1 11 rfl)
  have a_Lof : PySem.W.nsIn K mainGlobals "_law_of" = some (some (.ref (He.fAd K ("_law_of", none)))) := of_decide_eq_true (c.p 1 12 rfl)
  have a_Lsame : PySem.W.nsIn K mainGlobals "_law_same" = some (some (.ref (He.fAd K ("_law_same", none)))) := of_decide_eq_true (c.p 1 13 rfl)
  have a_Lsums : PySem.W.nsIn K mainGlobals "_law_sums" = some (some (.ref (He.fAd K ("_law_sums", none)))) := of_decide_eq_true (c.p 1 14 rfl)
  have a_Ldrawn : PySem.W.nsIn K mainGlobals "_law_drawn" = some (some (.ref (He.fAd K ("_law_drawn", none)))) := of_decide_eq_true (c.p 1 15 rfl)
  have a_Lrules : PySem.W.nsIn K mainGlobals "_law_rules" = some (some (.ref (He.fAd K ("_law_rules", none)))) := of_decide_eq_true (c.p 1 16 rfl)
  have a_Lis_lost : PySem.W.nsIn K mainGlobals "_law_is_lost" = some (some (.ref (He.fAd K ("_law_is_lost", none)))) := of_decide_eq_true (c.p 1 17 rfl)
  have a_Lrests : PySem.W.nsIn K mainGlobals "_law_rests" = some (some (.ref (He.fAd K ("_law_rests", none)))) := of_decide_eq_true (c.p 1 18 rfl)
  have a_Lleads : PySem.W.nsIn K mainGlobals "_law_leads" = some (some (.ref (He.fAd K ("_law_leads", none)))) := of_decide_eq_true (c.p 1 19 rfl)
  have a_Lis_safe : PySem.W.nsIn K mainGlobals "_law_is_safe" = some (some (.ref (He.fAd K ("_law_is_safe", none)))) := of_decide_eq_true (c.p 1 20 rfl)
  have a_Llayers : PySem.W.nsIn K mainGlobals "_law_layers" = some (some (.ref (He.fAd K ("_law_layers", none)))) := of_decide_eq_true (c.p 1 21 rfl)
  have a_Lchosen : PySem.W.nsIn K mainGlobals "_law_chosen" = some (some (.ref (He.fAd K ("_law_chosen", none)))) := of_decide_eq_true (c.p 1 22 rfl)
  have a_Lis_paper : PySem.W.nsIn K mainGlobals "_law_is_paper" = some (some (.ref (He.fAd K ("_law_is_paper", none)))) := of_decide_eq_true (c.p 1 23 rfl)
  have a_Lotherwise : PySem.W.nsIn K mainGlobals "_law_otherwise" = some (some (.ref (He.fAd K ("_law_otherwise", none)))) := of_decide_eq_true (c.p 1 24 rfl)
  have a_Lright : PySem.W.nsIn K mainGlobals "_law_right" = some (some (.ref (He.fAd K ("_law_right", none)))) := of_decide_eq_true (c.p 2 0 rfl)
  have a_law : PySem.W.nsIn K mainGlobals "law" = some (some (.ref (He.fAd K ("law", none)))) := of_decide_eq_true (c.p 2 1 rfl)
  have z_abs : PySem.W.nsIn K mainGlobals "abs" = some none := of_decide_eq_true (c.p 2 2 rfl)
  have z_all : PySem.W.nsIn K mainGlobals "all" = some none := of_decide_eq_true (c.p 2 3 rfl)
  have z_any : PySem.W.nsIn K mainGlobals "any" = some none := of_decide_eq_true (c.p 2 4 rfl)
  have z_bool : PySem.W.nsIn K mainGlobals "bool" = some none := of_decide_eq_true (c.p 2 5 rfl)
  have z_dict : PySem.W.nsIn K mainGlobals "dict" = some none := of_decide_eq_true (c.p 2 6 rfl)
  have z_int : PySem.W.nsIn K mainGlobals "int" = some none := of_decide_eq_true (c.p 2 7 rfl)
  have z_isinstance : PySem.W.nsIn K mainGlobals "isinstance" = some none := of_decide_eq_true (c.p 2 8 rfl)
  have z_len : PySem.W.nsIn K mainGlobals "len" = some none := of_decide_eq_true (c.p 2 9 rfl)
  have z_list : PySem.W.nsIn K mainGlobals "list" = some none := of_decide_eq_true (c.p 2 10 rfl)
  have z_max : PySem.W.nsIn K mainGlobals "max" = some none := of_decide_eq_true (c.p 2 11 rfl)
  have z_min : PySem.W.nsIn K mainGlobals "min" = some none := of_decide_eq_true (c.p 2 12 rfl)
  have z_range : PySem.W.nsIn K mainGlobals "range" = some none := of_decide_eq_true (c.p 2 13 rfl)
  have z_repr : PySem.W.nsIn K mainGlobals "repr" = some none := of_decide_eq_true (c.p 2 14 rfl)
  have z_set : PySem.W.nsIn K mainGlobals "set" = some none := of_decide_eq_true (c.p 2 15 rfl)
  have z_sorted : PySem.W.nsIn K mainGlobals "sorted" = some none := of_decide_eq_true (c.p 2 16 rfl)
  have z_str : PySem.W.nsIn K mainGlobals "str" = some none := of_decide_eq_true (c.p 2 17 rfl)
  have z_tuple : PySem.W.nsIn K mainGlobals "tuple" = some none := of_decide_eq_true (c.p 2 18 rfl)
  have z_zip : PySem.W.nsIn K mainGlobals "zip" = some none := of_decide_eq_true (c.p 2 19 rfl)
  obtain ⟨q_MOST_STATES, g_MOST_STATES⟩ : ∃ q : Tok, PySem.W.nsIn K mainGlobals "MOST_STATES" = some (some (.int 2000 q)) := HD.lit_int (c.p 2 20 rfl)
  have e := hfa.symm.trans (PySem.W.mg_of X G a_law)
  cases e
  letI : CT := ⟨fun n => match n with | 3 => (He.ga K "Game") | _ => 0⟩
  have T : Tx K mg := ⟨⟨pg_Game, hd_Game, po_Game, sa_Game⟩, nA_Game_own_base, nA_Game_own_most, nA_Game_own_step, nA_Game_own_sums, PySem.W.mg_none_of X G z_abs, PySem.W.mg_none_of X G z_all, PySem.W.mg_none_of X G z_any, PySem.W.mg_none_of X G z_bool, PySem.W.mg_none_of X G z_dict, PySem.W.mg_none_of X G z_int, PySem.W.mg_none_of X G z_isinstance, PySem.W.mg_none_of X G z_len, PySem.W.mg_none_of X G z_list, PySem.W.mg_none_of X G z_max, PySem.W.mg_none_of X G z_min, PySem.W.mg_none_of X G z_range, PySem.W.mg_none_of X G z_repr, PySem.W.mg_none_of X G z_set, PySem.W.mg_none_of X G z_sorted, PySem.W.mg_none_of X G z_str, PySem.W.mg_none_of X G z_tuple, PySem.W.mg_none_of X G z_zip, ⟨_, PySem.W.mg_of X G g_MOST_STATES⟩⟩
  have F_is_number : Fun K "is_number" "is_number" s_is_number (He.fAd K ("is_number", none)) (HD.fdo K (He.fAd K ("is_number", none))) := c.f0 0 0 rfl
  have k_is_number := F_is_number.kp
  have B_is_number := F_is_number.binds (ps := ["thing"]) fun _ _ _ _ _ _ us hl => us_1 us hl fun _ => rfl
  have F_power : Fun K "power" "power" s_power (He.fAd K ("power", none)) (HD.fdo K (He.fAd K ("power", none))) := c.f0 0 1 rfl
  have k_power := F_power.kp
  have B_power := F_power.binds (ps := ["base", "many"]) fun _ _ _ _ _ _ us hl => us_2 us hl fun _ _ => rfl
  have F_sums_of : Fun K "sums_of" "sums_of" s_sums_of (He.fAd K ("sums_of", none)) (HD.fdo K (He.fAd K ("sums_of", none))) := c.f0 0 2 rfl
  have k_sums_of := F_sums_of.kp
  have B_sums_of := F_sums_of.binds (ps := ["weights", "mosts"]) fun _ _ _ _ _ _ us hl => us_2 us hl fun _ _ => rfl
  have F_Game_init : Fun K "__init__" "Game.__init__" s_Game_init (He.fAd K ("Game", some "__init__")) (HD.fdo K (He.fAd K ("Game", some "__init__"))) := c.f0 0 3 rfl
  have k_Game_init := F_Game_init.kp
  have B_Game_init := F_Game_init.binds (ps := ["self", "base", "weights", "over", "mosts", "most", "lag"]) fun _ _ _ _ _ _ us hl => us_7 us hl fun _ _ _ _ _ _ _ => rfl
  have F_Game_is_lost : Fun K "is_lost" "Game.is_lost" s_Game_is_lost (He.fAd K ("Game", some "is_lost")) (HD.fdo K (He.fAd K ("Game", some "is_lost"))) := c.f0 0 4 rfl
  have k_Game_is_lost := F_Game_is_lost.kp
  have B_Game_is_lost := F_Game_is_lost.binds (ps := ["self", "rest"]) fun _ _ _ _ _ _ us hl => us_2 us hl fun _ _ => rfl
  have F_Game_greatest : Fun K "greatest" "Game.greatest" s_Game_greatest (He.fAd K ("Game", some "greatest")) (HD.fdo K (He.fAd K ("Game", some "greatest"))) := c.f0 0 5 rfl
  have k_Game_greatest := F_Game_greatest.kp
  have B_Game_greatest := F_Game_greatest.binds (ps := ["self"]) fun _ _ _ _ _ _ us hl => us_1 us hl fun _ => rfl
  have F_Game_rests : Fun K "rests" "Game.rests" s_Game_rests (He.fAd K ("Game", some "rests")) (HD.fdo K (He.fAd K ("Game", some "rests"))) := c.f0 0 6 rfl
  have k_Game_rests := F_Game_rests.kp
  have B_Game_rests := F_Game_rests.binds (ps := ["self"]) fun _ _ _ _ _ _ us hl => us_1 us hl fun _ => rfl
  have F_Game_look : Fun K "look" "Game.look" s_Game_look (He.fAd K ("Game", some "look")) (HD.fdo K (He.fAd K ("Game", some "look"))) := c.f0 0 7 rfl
  have k_Game_look := F_Game_look.kp
  have B_Game_look := F_Game_look.binds (ps := ["self"]) fun _ _ _ _ _ _ us hl => us_1 us hl fun _ => rfl
  have F_Game_led_to : Fun K "led_to" "Game.led_to" s_Game_led_to (He.fAd K ("Game", some "led_to")) (HD.fdo K (He.fAd K ("Game", some "led_to"))) := c.f0 0 8 rfl
  have k_Game_led_to := F_Game_led_to.kp
  have B_Game_led_to := F_Game_led_to.binds (ps := ["self", "ahead"]) fun _ _ _ _ _ _ us hl => us_2 us hl fun _ _ => rfl
  have F_Game_is_held : Fun K "is_held" "Game.is_held" s_Game_is_held (He.fAd K ("Game", some "is_held")) (HD.fdo K (He.fAd K ("Game", some "is_held"))) := c.f0 0 9 rfl
  have k_Game_is_held := F_Game_is_held.kp
  have B_Game_is_held := F_Game_is_held.binds (ps := ["self", "rest", "sum_now", "held"]) fun _ _ _ _ _ _ us hl => us_4 us hl fun _ _ _ _ => rfl
  have F_Game_first_fatal : Fun K "first_fatal" "Game.first_fatal" s_Game_first_fatal (He.fAd K ("Game", some "first_fatal")) (HD.fdo K (He.fAd K ("Game", some "first_fatal"))) := c.f0 0 10 rfl
  have k_Game_first_fatal := F_Game_first_fatal.kp
  have B_Game_first_fatal := F_Game_first_fatal.binds (ps := ["self", "rest", "known", "held"]) fun _ _ _ _ _ _ us hl => us_4 us hl fun _ _ _ _ => rfl
  have F_Game_ranks : Fun K "ranks" "Game.ranks" s_Game_ranks (He.fAd K ("Game", some "ranks")) (HD.fdo K (He.fAd K ("Game", some "ranks"))) := c.f0 0 11 rfl
  have k_Game_ranks := F_Game_ranks.kp
  have B_Game_ranks := F_Game_ranks.binds (ps := ["self"]) fun _ _ _ _ _ _ us hl => us_1 us hl fun _ => rfl
  have F_enough_paper : Fun K "enough_paper" "enough_paper" s_enough_paper (He.fAd K ("enough_paper", none)) (HD.fdo K (He.fAd K ("enough_paper", none))) := c.f0 0 12 rfl
  have k_enough_paper := F_enough_paper.kp
  have B_enough_paper := F_enough_paper.binds (ps := ["base", "weights", "over", "mosts", "most", "lag"]) fun _ _ _ _ _ _ us hl => us_6 us hl fun _ _ _ _ _ _ => rfl
  have F_shows_enough : Fun K "shows_enough" "shows_enough" s_shows_enough (He.fAd K ("shows_enough", none)) (HD.fdo K (He.fAd K ("shows_enough", none))) := c.f0 0 13 rfl
  have k_shows_enough := F_shows_enough.kp
  have B_shows_enough := F_shows_enough.binds (ps := ["base", "weights", "over", "mosts", "most", "lag", "thing"]) fun _ _ _ _ _ _ us hl => us_7 us hl fun _ _ _ _ _ _ _ => rfl
  have F_Lcell_at : Fun K "_law_cell_at" "_law_cell_at" s_Lcell_at (He.fAd K ("_law_cell_at", none)) (HD.fdo K (He.fAd K ("_law_cell_at", none))) := c.f0 0 14 rfl
  have k_Lcell_at := F_Lcell_at.kp
  have B_Lcell_at := F_Lcell_at.binds (ps := ["_law_script", "_law_k"]) fun _ _ _ _ _ _ us hl => us_2 us hl fun _ _ => rfl
  have F_Lbox : Fun K "_law_box" "_law_box" s_Lbox (He.fAd K ("_law_box", none)) (HD.fdo K (He.fAd K ("_law_box", none))) := c.f0 0 15 rfl
  have k_Lbox := F_Lbox.kp
  have B_Lbox := F_Lbox.binds (ps := ["_law_script", "_law_k"]) fun _ _ _ _ _ _ us hl => us_2 us hl fun _ _ => rfl
  have F_Ltake : Fun K "_law_take" "_law_take" s_Ltake (He.fAd K ("_law_take", none)) (HD.fdo K (He.fAd K ("_law_take", none))) := c.f0 0 16 rfl
  have k_Ltake := F_Ltake.kp
  have B_Ltake := F_Ltake.binds (ps := ["_law_box_here", "_law_size"]) fun _ _ _ _ _ _ us hl => us_2 us hl fun _ _ => rfl
  have F_Lof : Fun K "_law_of" "_law_of" s_Lof (He.fAd K ("_law_of", none)) (HD.fdo K (He.fAd K ("_law_of", none))) := c.f0 0 17 rfl
  have k_Lof := F_Lof.kp
  have B_Lof := F_Lof.binds (ps := ["_law_box_here", "_law_some"]) fun _ _ _ _ _ _ us hl => us_2 us hl fun _ _ => rfl
  have F_Lsame : Fun K "_law_same" "_law_same" s_Lsame (He.fAd K ("_law_same", none)) (HD.fdo K (He.fAd K ("_law_same", none))) := c.f0 0 18 rfl
  have k_Lsame := F_Lsame.kp
  have B_Lsame := F_Lsame.binds (ps := ["_law_found", "_law_due"]) fun _ _ _ _ _ _ us hl => us_2 us hl fun _ _ => rfl
  have F_Lsums : Fun K "_law_sums" "_law_sums" s_Lsums (He.fAd K ("_law_sums", none)) (HD.fdo K (He.fAd K ("_law_sums", none))) := c.f0 0 19 rfl
  have k_Lsums := F_Lsums.kp
  have B_Lsums := F_Lsums.binds (ps := ["_law_shares", "_law_wides"]) fun _ _ _ _ _ _ us hl => us_2 us hl fun _ _ => rfl
  have F_Ldrawn : Fun K "_law_drawn" "_law_drawn" s_Ldrawn (He.fAd K ("_law_drawn", none)) (HD.fdo K (He.fAd K ("_law_drawn", none))) := c.f0 0 20 rfl
  have k_Ldrawn := F_Ldrawn.kp
  have B_Ldrawn := F_Ldrawn.binds (ps := ["_law_box_here"]) fun _ _ _ _ _ _ us hl => us_1 us hl fun _ => rfl
  have F_Lrules : Fun K "_law_rules" "_law_rules" s_Lrules (He.fAd K ("_law_rules", none)) (HD.fdo K (He.fAd K ("_law_rules", none))) := c.f0 0 21 rfl
  have k_Lrules := F_Lrules.kp
  have B_Lrules := F_Lrules.binds (ps := ["_law_game", "_law_late"]) fun _ _ _ _ _ _ us hl => us_2 us hl fun _ _ => rfl
  have F_Lis_lost : Fun K "_law_is_lost" "_law_is_lost" s_Lis_lost (He.fAd K ("_law_is_lost", none)) (HD.fdo K (He.fAd K ("_law_is_lost", none))) := c.f0 0 22 rfl
  have k_Lis_lost := F_Lis_lost.kp
  have B_Lis_lost := F_Lis_lost.binds (ps := ["_law_g", "_law_rest"]) fun _ _ _ _ _ _ us hl => us_2 us hl fun _ _ => rfl
  have F_Lrests : Fun K "_law_rests" "_law_rests" s_Lrests (He.fAd K ("_law_rests", none)) (HD.fdo K (He.fAd K ("_law_rests", none))) := c.f0 0 23 rfl
  have k_Lrests := F_Lrests.kp
  have B_Lrests := F_Lrests.binds (ps := ["_law_g"]) fun _ _ _ _ _ _ us hl => us_1 us hl fun _ => rfl
  have F_Lleads : Fun K "_law_leads" "_law_leads" s_Lleads (He.fAd K ("_law_leads", none)) (HD.fdo K (He.fAd K ("_law_leads", none))) := c.f0 0 24 rfl
  have k_Lleads := F_Lleads.kp
  have B_Lleads := F_Lleads.binds (ps := ["_law_g", "_law_rest", "_law_more"]) fun _ _ _ _ _ _ us hl => us_3 us hl fun _ _ _ => rfl
  have F_Lis_safe : Fun K "_law_is_safe" "_law_is_safe" s_Lis_safe (He.fAd K ("_law_is_safe", none)) (HD.fdo K (He.fAd K ("_law_is_safe", none))) := c.f0 1 0 rfl
  have k_Lis_safe := F_Lis_safe.kp
  have B_Lis_safe := F_Lis_safe.binds (ps := ["_law_g", "_law_rest", "_law_some"]) fun _ _ _ _ _ _ us hl => us_3 us hl fun _ _ _ => rfl
  have F_Llayers : Fun K "_law_layers" "_law_layers" s_Llayers (He.fAd K ("_law_layers", none)) (HD.fdo K (He.fAd K ("_law_layers", none))) := c.f0 1 1 rfl
  have k_Llayers := F_Llayers.kp
  have B_Llayers := F_Llayers.binds (ps := ["_law_g"]) fun _ _ _ _ _ _ us hl => us_1 us hl fun _ => rfl
  have F_Lchosen : Fun K "_law_chosen" "_law_chosen" s_Lchosen (He.fAd K ("_law_chosen", none)) (HD.fdo K (He.fAd K ("_law_chosen", none))) := c.f0 1 2 rfl
  have k_Lchosen := F_Lchosen.kp
  have B_Lchosen := F_Lchosen.binds (ps := ["_law_box_here", "_law_g", "_law_held"]) fun _ _ _ _ _ _ us hl => us_3 us hl fun _ _ _ => rfl
  have F_Lis_paper : Fun K "_law_is_paper" "_law_is_paper" s_Lis_paper (He.fAd K ("_law_is_paper", none)) (HD.fdo K (He.fAd K ("_law_is_paper", none))) := c.f0 1 3 rfl
  have k_Lis_paper := F_Lis_paper.kp
  have B_Lis_paper := F_Lis_paper.binds (ps := ["_law_g", "_law_piece"]) fun _ _ _ _ _ _ us hl => us_2 us hl fun _ _ => rfl
  have F_Lotherwise : Fun K "_law_otherwise" "_law_otherwise" s_Lotherwise (He.fAd K ("_law_otherwise", none)) (HD.fdo K (He.fAd K ("_law_otherwise", none))) := c.f0 1 4 rfl
  have k_Lotherwise := F_Lotherwise.kp
  have B_Lotherwise := F_Lotherwise.binds (ps := ["_law_box_here", "_law_g", "_law_paper"]) fun _ _ _ _ _ _ us hl => us_3 us hl fun _ _ _ => rfl
  have F_Lright : Fun K "_law_right" "_law_right" s_Lright (He.fAd K ("_law_right", none)) (HD.fdo K (He.fAd K ("_law_right", none))) := c.f0 1 5 rfl
  have k_Lright := F_Lright.kp
  have B_Lright := F_Lright.binds (ps := ["_law_box_here"]) fun _ _ _ _ _ _ us hl => us_1 us hl fun _ => rfl
  have F_law : Fun K "law" "law" s_law (He.fAd K ("law", none)) (HD.fdo K (He.fAd K ("law", none))) := c.f0 1 6 rfl
  have k_law := F_law.kp
  have B_law := F_law.binds (ps := ["_law_script"]) fun _ _ _ _ _ _ us hl => us_1 us hl fun _ => rfl
  have kb_enough_paper_0 : KBn K _ ["base", "weights", "over", "mosts", "most", "lag"] 0 ["lag", "most", "mosts", "over", "weights", "base"] (pick [5, 4, 3, 2, 1, 0]) (pick [5, 4, 3, 2, 1, 0]) := kbn_mk F_enough_paper fun _ _ _ _ _ _ us ws h1 h2 => match us, ws, h1, h2 with | [], [_, _, _, _, _, _], _, _ => rfl
  have kb_shows_enough_0 : KBn K _ ["base", "weights", "over", "mosts", "most", "lag", "thing"] 0 ["thing", "lag", "base", "weights", "over", "mosts", "most"] (pick [2, 3, 4, 5, 6, 1, 0]) (pick [2, 3, 4, 5, 6, 1, 0]) := kbn_mk F_shows_enough fun _ _ _ _ _ _ us ws h1 h2 => match us, ws, h1, h2 with | [], [_, _, _, _, _, _, _], _, _ => rfl
  refine ⟨_, HD.law_binds F_law fun _ _ _ _ _ _ s v => .of_eq rfl, fun base _ _ => ?_⟩
  have G_is_number : Does l.prog w K mg base 1 "is_number" ["thing"] _ _ sp_is_number := ⟨PySem.W.mg_of X G a_is_number, k_is_number, B_is_number, ok_is_number F_is_number T vc_is_number len_is_number  ⟩
  have G_power : Does l.prog w K mg base 1 "power" ["base", "many"] _ _ sp_power := ⟨PySem.W.mg_of X G a_power, k_power, B_power, ok_power F_power T vc_power len_power  ⟩
  have G_sums_of : Does l.prog w K mg base 1 "sums_of" ["weights", "mosts"] _ _ sp_sums_of := ⟨PySem.W.mg_of X G a_sums_of, k_sums_of, B_sums_of, ok_sums_of F_sums_of T vc_sums_of len_sums_of  ⟩
  have G_Game_init : DoesI l.prog w K mg base 2 3 "Game" ["self", "base", "weights", "over", "mosts", "most", "lag"] _ _ sp_Game_init := ⟨PySem.W.mg_of X G aC_Game, ⟨mk_Game, a_Game_init, i_Game_init, kc_Game⟩, ok_Game_init F_Game_init T vc_Game_init len_Game_init G_power G_sums_of ⟩
  have G_Game_is_lost : DoesM l.prog w K mg base 1 3 "is_lost" ["self", "rest"] _ _ sp_Game_is_lost := ⟨T.k_Game, ⟨a_Game_is_lost, i_Game_is_lost, k_Game_is_lost⟩, B_Game_is_lost, ok_Game_is_lost F_Game_is_lost T vc_Game_is_lost len_Game_is_lost  ⟩
  have G_Game_greatest : DoesM l.prog w K mg base 1 3 "greatest" ["self"] _ _ sp_Game_greatest := ⟨T.k_Game, ⟨a_Game_greatest, i_Game_greatest, k_Game_greatest⟩, B_Game_greatest, ok_Game_greatest F_Game_greatest T vc_Game_greatest len_Game_greatest  ⟩
  have G_Game_rests : DoesM l.prog w K mg base 2 3 "rests" ["self"] _ _ sp_Game_rests := ⟨T.k_Game, ⟨a_Game_rests, i_Game_rests, k_Game_rests⟩, B_Game_rests, ok_Game_rests F_Game_rests T vc_Game_rests len_Game_rests G_Game_greatest ⟩
  have G_Game_look : DoesM l.prog w K mg base 2 3 "look" ["self"] _ _ sp_Game_look := ⟨T.k_Game, ⟨a_Game_look, i_Game_look, k_Game_look⟩, B_Game_look, ok_Game_look F_Game_look T vc_Game_look len_Game_look G_Game_greatest ⟩
  have G_Game_led_to : DoesM l.prog w K mg base 2 3 "led_to" ["self", "ahead"] _ _ sp_Game_led_to := ⟨T.k_Game, ⟨a_Game_led_to, i_Game_led_to, k_Game_led_to⟩, B_Game_led_to, ok_Game_led_to F_Game_led_to T vc_Game_led_to len_Game_led_to G_Game_greatest ⟩
  have G_Game_is_held : DoesM l.prog w K mg base 3 3 "is_held" ["self", "rest", "sum_now", "held"] _ _ sp_Game_is_held := ⟨T.k_Game, ⟨a_Game_is_held, i_Game_is_held, k_Game_is_held⟩, B_Game_is_held, ok_Game_is_held F_Game_is_held T vc_Game_is_held len_Game_is_held G_Game_led_to ⟩
  have G_Game_first_fatal : DoesM l.prog w K mg base 4 3 "first_fatal" ["self", "rest", "known", "held"] _ _ sp_Game_first_fatal := ⟨T.k_Game, ⟨a_Game_first_fatal, i_Game_first_fatal, k_Game_first_fatal⟩, B_Game_first_fatal, ok_Game_first_fatal F_Game_first_fatal T vc_Game_first_fatal len_Game_first_fatal G_Game_is_held ⟩
  have G_Game_ranks : DoesM l.prog w K mg base 5 3 "ranks" ["self"] _ _ sp_Game_ranks := ⟨T.k_Game, ⟨a_Game_ranks, i_Game_ranks, k_Game_ranks⟩, B_Game_ranks, ok_Game_ranks F_Game_ranks T vc_Game_ranks len_Game_ranks G_Game_rests G_Game_first_fatal ⟩
  have G_enough_paper : Does l.prog w K mg base 6 "enough_paper" ["base", "weights", "over", "mosts", "most", "lag"] _ _ sp_enough_paper := ⟨PySem.W.mg_of X G a_enough_paper, k_enough_paper, B_enough_paper, ok_enough_paper F_enough_paper T vc_enough_paper len_enough_paper G_Game_init B_Game_init G_Game_look G_Game_ranks ⟩
  have G_shows_enough : Does l.prog w K mg base 5 "shows_enough" ["base", "weights", "over", "mosts", "most", "lag", "thing"] _ _ sp_shows_enough := ⟨PySem.W.mg_of X G a_shows_enough, k_shows_enough, B_shows_enough, ok_shows_enough F_shows_enough T vc_shows_enough len_shows_enough G_Game_init B_Game_init G_Game_is_lost G_is_number G_Game_first_fatal ⟩
  have G_Lcell_at : Does l.prog w K mg base 1 "_law_cell_at" ["_law_script", "_law_k"] _ _ sp_Lcell_at := ⟨PySem.W.mg_of X G a_Lcell_at, k_Lcell_at, B_Lcell_at, ok_Lcell_at F_Lcell_at T vc_Lcell_at len_Lcell_at  ⟩
  have G_Lbox : Does l.prog w K mg base 2 "_law_box" ["_law_script", "_law_k"] _ _ sp_Lbox := ⟨PySem.W.mg_of X G a_Lbox, k_Lbox, B_Lbox, ok_Lbox F_Lbox T vc_Lbox len_Lbox G_Lcell_at ⟩
  have G_Ltake : Does l.prog w K mg base 1 "_law_take" ["_law_box_here", "_law_size"] _ _ sp_Ltake := ⟨PySem.W.mg_of X G a_Ltake, k_Ltake, B_Ltake, ok_Ltake F_Ltake T vc_Ltake len_Ltake  ⟩
  have G_Lof : Does l.prog w K mg base 2 "_law_of" ["_law_box_here", "_law_some"] _ _ sp_Lof := ⟨PySem.W.mg_of X G a_Lof, k_Lof, B_Lof, ok_Lof F_Lof T vc_Lof len_Lof G_Ltake ⟩
  have G_Lsame : Does l.prog w K mg base 6 "_law_same" ["_law_found", "_law_due"] _ _ sp_Lsame := ⟨PySem.W.mg_of X G a_Lsame, k_Lsame, B_Lsame, ok_Lsame F_Lsame T vc_Lsame len_Lsame z_Lsame (PySem.W.mg_of X G a_Lsame) k_Lsame B_Lsame  6⟩
  have G_Lsums : Does l.prog w K mg base 1 "_law_sums" ["_law_shares", "_law_wides"] _ _ sp_Lsums := ⟨PySem.W.mg_of X G a_Lsums, k_Lsums, B_Lsums, ok_Lsums F_Lsums T vc_Lsums len_Lsums  ⟩
  have G_Ldrawn : Does l.prog w K mg base 3 "_law_drawn" ["_law_box_here"] _ _ sp_Ldrawn := ⟨PySem.W.mg_of X G a_Ldrawn, k_Ldrawn, B_Ldrawn, ok_Ldrawn F_Ldrawn T vc_Ldrawn len_Ldrawn G_Lof G_Ltake ⟩
  have G_Lrules : Does l.prog w K mg base 2 "_law_rules" ["_law_game", "_law_late"] _ _ sp_Lrules := ⟨PySem.W.mg_of X G a_Lrules, k_Lrules, B_Lrules, ok_Lrules F_Lrules T vc_Lrules len_Lrules G_Lsums ⟩
  have G_Lis_lost : Does l.prog w K mg base 1 "_law_is_lost" ["_law_g", "_law_rest"] _ _ sp_Lis_lost := ⟨PySem.W.mg_of X G a_Lis_lost, k_Lis_lost, B_Lis_lost, ok_Lis_lost F_Lis_lost T vc_Lis_lost len_Lis_lost  ⟩
  have G_Lrests : Does l.prog w K mg base 2 "_law_rests" ["_law_g"] _ _ sp_Lrests := ⟨PySem.W.mg_of X G a_Lrests, k_Lrests, B_Lrests, ok_Lrests F_Lrests T vc_Lrests len_Lrests G_Lis_lost ⟩
  have G_Lleads : Does l.prog w K mg base 1 "_law_leads" ["_law_g", "_law_rest", "_law_more"] _ _ sp_Lleads := ⟨PySem.W.mg_of X G a_Lleads, k_Lleads, B_Lleads, ok_Lleads F_Lleads T vc_Lleads len_Lleads  ⟩
  have G_Lis_safe : Does l.prog w K mg base 2 "_law_is_safe" ["_law_g", "_law_rest", "_law_some"] _ _ sp_Lis_safe := ⟨PySem.W.mg_of X G a_Lis_safe, k_Lis_safe, B_Lis_safe, ok_Lis_safe F_Lis_safe T vc_Lis_safe len_Lis_safe G_Lleads ⟩
  have G_Llayers : Does l.prog w K mg base 3 "_law_layers" ["_law_g"] _ _ sp_Llayers := ⟨PySem.W.mg_of X G a_Llayers, k_Llayers, B_Llayers, ok_Llayers F_Llayers T vc_Llayers len_Llayers G_Lrests G_Lis_safe ⟩
  have G_Lchosen : Does l.prog w K mg base 2 "_law_chosen" ["_law_box_here", "_law_g", "_law_held"] _ _ sp_Lchosen := ⟨PySem.W.mg_of X G a_Lchosen, k_Lchosen, B_Lchosen, ok_Lchosen F_Lchosen T vc_Lchosen len_Lchosen G_Ltake G_Lleads ⟩
  have G_Lis_paper : Does l.prog w K mg base 3 "_law_is_paper" ["_law_g", "_law_piece"] _ _ sp_Lis_paper := ⟨PySem.W.mg_of X G a_Lis_paper, k_Lis_paper, B_Lis_paper, ok_Lis_paper F_Lis_paper T vc_Lis_paper len_Lis_paper G_Lis_lost G_Lis_safe ⟩
  have G_Lotherwise : Does l.prog w K mg base 3 "_law_otherwise" ["_law_box_here", "_law_g", "_law_paper"] _ _ sp_Lotherwise := ⟨PySem.W.mg_of X G a_Lotherwise, k_Lotherwise, B_Lotherwise, ok_Lotherwise F_Lotherwise T vc_Lotherwise len_Lotherwise G_Ltake G_Lof ⟩
  have G_Lright : Does l.prog w K mg base 7 "_law_right" ["_law_box_here"] _ _ sp_Lright := ⟨PySem.W.mg_of X G a_Lright, k_Lright, B_Lright, ok_Lright F_Lright T vc_Lright len_Lright G_Ldrawn G_Ltake G_Lrules G_Llayers G_enough_paper G_Lsame G_Lchosen G_Lis_paper G_Lotherwise G_shows_enough kb_enough_paper_0 kb_shows_enough_0⟩
  have G_law : Does l.prog w K mg base 8 "law" ["_law_script"] _ _ sp_law := ⟨PySem.W.mg_of X G a_law, k_law, B_law, ok_law F_law T vc_law len_law G_Lright G_Lbox ⟩
  exact G_law.ok.imp law_up
end K35
open PySem PySem.W PyProof.Rows
set_option maxHeartbeats 0 in
theorem PySem.Challenge.cw_firstfigures_k35_papers_that_a_lag_is_en_holds : PySem.Challenge.rw_firstfigures_k35_papers_that_a_lag_is_en.Holds := by
  w_on; o_law
  refine HandSHeadRun.head_any (r := HDR.hdR) (q := HDR.hdV) (H := HDR.hdK) (ob := HDR.hdO) (M := 20000) (loose := HDR.hdN) (d := HandSHeadRun.topDef HDR.hdR.prog 29) (kwd := []) HDR.hdO_eq (by kernel_rfl) (fun s => by kernel_rfl) HDR.hdE (by kernel_rfl) (by kernel_rfl) (by kernel_rfl) (by rfl) (by first | assumption | decide +kernel) (by decide +kernel) ⟨rfl, rfl, rfl, rfl, rfl, by decide +kernel⟩ ?hw ?hc
  case hw => w_witness2
  case hc =>
    refine HD.walk_of (l := PySem.Challenge.rw_firstfigures_k35_papers_that_a_lag_is_en) (n := 63) (k := 8) (x := "_law_script") (CX := fun _ => L2.CX0) (sp := fun _ K => DL.spLaw K) rfl (by decide) (by kernel_rfl) ⟨⟨rfl, by decide, by decide⟩, rfl⟩ ?F (fun _ _ _ a ns hl _ hS => ⟨a, ns, rfl, hS, hl, fun _ => rfl⟩) (fun _ _ _ _ _ h => h)
    intro w mg fa h Y G hmg0
    obtain ⟨K, KX, c⟩ := Y
    have hmg : mg "law" = some (.ref fa) := by
      have e : (HandSHeadRun.topDef HDR.hdR.prog 29).name = ("law" : PySem.Str) := by kernel_rfl
      rw [← e]
      exact hmg0
    exact ⟨K, KX, K35.all_mk KX G hmg c⟩
