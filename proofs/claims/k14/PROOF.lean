import PyProof.Rows.All
import Wide.All
import OpenK.AllK
import Wide.FinOn
import HandS.ForMost
import HandS.Wide
import HandS.Zip
import HandS.TupAny
import HandS.IsInst
import HandS.Style
import HandS.Defaults
import HandS.EndTab
import HandS.Head0
import HandS.Head1
import HandS.Head2
import HandS.HeadHook1
import HandS.HeadHook2
import HandS.HeadHook3
import HandS.NoneIn
import OpenK.KMore
import KE.GoesMore
import KE.GoesEnumKw
import PyProof.Rows.NestShow
import PyProof.ReprLen
import HandS.Conv
import HandS.TupMul
import HandS.Deep
import HandS.More
import HandS.MakeKwOnly
import KE.DataMinKey
import KE.KMinKey
import HandS.SortKw
import PyProof.SeqI3
import KE.DatumOrd
import KE.KDictZip
import KE.KUnpackStar
import HandS.DictComp
import HandS.SortInts
import HandS.Set
import HandS.SetFor
import HandS.DictTup
import KE.KSortTupG
import KE.KEqDict
import HandS.Nested
import KE.KNestM
import HandS.ExcInit
import HandS.ExcField
import HandS.TryOnly
import HandS.TryMany
import KE.KExcInit
import KE.KExcIs
import PyProof.ExcBaseAll.RuntimeError
import PyProof.ExcBaseAll.IndexError
import PyProof.ExcBaseAll.OverflowError
import PyProof.ExcBaseAll.ValueError
import PyProof.ExcBaseAll.LookupError
import HandS.ExcValue
import KE.KTryMore
import HandS.ExcOwn
import HandS.ExcIs
import KE.KExcLine
import HandS.SetBool
import HandS.SetKeys
import PyProof.InstNe
import KE.SortData
import HandS.ListItems
import HandS.Flow
import PyProof.DictCopy
import PyProof.DictUpdate
import HandS.Text
import HandS.TupLen
import PySem.Challenge.RW_firstfigures_k14_pairs_that_show_it_or_n
set_option Elab.async false
set_option linter.all false
set_option maxRecDepth 100000
set_option maxHeartbeats 4000000
/-! Promises of defs where nothing is shown (repr) further up the stack. -/
namespace DG
open PySem PySem.Spec PyProof.Rows L2
theorem _root_.El54 {A B C D E : Sort _} {p q r s : A → B → C → D → E → Prop} {G : Prop} (h : ∃ a b c d e, p a b c d e ∧ q a b c d e ∧ r a b c d e ∧ s a b c d e) (f : ∀ a b c d e, p a b c d e → q a b c d e → r a b c d e → s a b c d e → G) : G := by
  obtain ⟨a, b, c, d, e, h1, h2, h3, h4⟩ := h
  exact f a b c d e h1 h2 h3 h4
theorem _root_.El55 {A B C D E : Sort _} {p q r s t : A → B → C → D → E → Prop} {G : Prop} (h : ∃ a b c d e, p a b c d e ∧ q a b c d e ∧ r a b c d e ∧ s a b c d e ∧ t a b c d e) (f : ∀ a b c d e, p a b c d e → q a b c d e → r a b c d e → s a b c d e → t a b c d e → G) : G := by
  obtain ⟨a, b, c, d, e, h1, h2, h3, h4, h5⟩ := h
  exact f a b c d e h1 h2 h3 h4 h5
theorem _root_.Vs1 {α : Type _} {β γ : Sort _} {sp C : List α → β → γ → Prop} (len : ∀ ds S P, sp ds S P → ds.length = 1) (vc : ∀ x0 S P, sp [x0] S P → C [x0] S P) : ∀ ds S P, sp ds S P → C ds S P := fun ds S P h => by
  have l := len ds S P h
  match ds, l, h with
  | [x0], _, h => exact vc x0 S P h
theorem _root_.Vs2 {α : Type _} {β γ : Sort _} {sp C : List α → β → γ → Prop} (len : ∀ ds S P, sp ds S P → ds.length = 2) (vc : ∀ x0 x1 S P, sp [x0, x1] S P → C [x0, x1] S P) : ∀ ds S P, sp ds S P → C ds S P := fun ds S P h => by
  have l := len ds S P h
  match ds, l, h with
  | [x0, x1], _, h => exact vc x0 x1 S P h
theorem _root_.Vs3 {α : Type _} {β γ : Sort _} {sp C : List α → β → γ → Prop} (len : ∀ ds S P, sp ds S P → ds.length = 3) (vc : ∀ x0 x1 x2 S P, sp [x0, x1, x2] S P → C [x0, x1, x2] S P) : ∀ ds S P, sp ds S P → C ds S P := fun ds S P h => by
  have l := len ds S P h
  match ds, l, h with
  | [x0, x1, x2], _, h => exact vc x0 x1 x2 S P h
theorem _root_.Vs4 {α : Type _} {β γ : Sort _} {sp C : List α → β → γ → Prop} (len : ∀ ds S P, sp ds S P → ds.length = 4) (vc : ∀ x0 x1 x2 x3 S P, sp [x0, x1, x2, x3] S P → C [x0, x1, x2, x3] S P) : ∀ ds S P, sp ds S P → C ds S P := fun ds S P h => by
  have l := len ds S P h
  match ds, l, h with
  | [x0, x1, x2, x3], _, h => exact vc x0 x1 x2 x3 S P h
theorem _root_.Vs5 {α : Type _} {β γ : Sort _} {sp C : List α → β → γ → Prop} (len : ∀ ds S P, sp ds S P → ds.length = 5) (vc : ∀ x0 x1 x2 x3 x4 S P, sp [x0, x1, x2, x3, x4] S P → C [x0, x1, x2, x3, x4] S P) : ∀ ds S P, sp ds S P → C ds S P := fun ds S P h => by
  have l := len ds S P h
  match ds, l, h with
  | [x0, x1, x2, x3, x4], _, h => exact vc x0 x1 x2 x3 x4 S P h
theorem _root_.Vs6 {α : Type _} {β γ : Sort _} {sp C : List α → β → γ → Prop} (len : ∀ ds S P, sp ds S P → ds.length = 6) (vc : ∀ x0 x1 x2 x3 x4 x5 S P, sp [x0, x1, x2, x3, x4, x5] S P → C [x0, x1, x2, x3, x4, x5] S P) : ∀ ds S P, sp ds S P → C ds S P := fun ds S P h => by
  have l := len ds S P h
  match ds, l, h with
  | [x0, x1, x2, x3, x4, x5], _, h => exact vc x0 x1 x2 x3 x4 x5 S P h
theorem _root_.Vs7 {α : Type _} {β γ : Sort _} {sp C : List α → β → γ → Prop} (len : ∀ ds S P, sp ds S P → ds.length = 7) (vc : ∀ x0 x1 x2 x3 x4 x5 x6 S P, sp [x0, x1, x2, x3, x4, x5, x6] S P → C [x0, x1, x2, x3, x4, x5, x6] S P) : ∀ ds S P, sp ds S P → C ds S P := fun ds S P h => by
  have l := len ds S P h
  match ds, l, h with
  | [x0, x1, x2, x3, x4, x5, x6], _, h => exact vc x0 x1 x2 x3 x4 x5 x6 S P h
theorem _root_.Vs8 {α : Type _} {β γ : Sort _} {sp C : List α → β → γ → Prop} (len : ∀ ds S P, sp ds S P → ds.length = 8) (vc : ∀ x0 x1 x2 x3 x4 x5 x6 x7 S P, sp [x0, x1, x2, x3, x4, x5, x6, x7] S P → C [x0, x1, x2, x3, x4, x5, x6, x7] S P) : ∀ ds S P, sp ds S P → C ds S P := fun ds S P h => by
  have l := len ds S P h
  match ds, l, h with
  | [x0, x1, x2, x3, x4, x5, x6, x7], _, h => exact vc x0 x1 x2 x3 x4 x5 x6 x7 S P h
theorem _root_.Vs9 {α : Type _} {β γ : Sort _} {sp C : List α → β → γ → Prop} (len : ∀ ds S P, sp ds S P → ds.length = 9) (vc : ∀ x0 x1 x2 x3 x4 x5 x6 x7 x8 S P, sp [x0, x1, x2, x3, x4, x5, x6, x7, x8] S P → C [x0, x1, x2, x3, x4, x5, x6, x7, x8] S P) : ∀ ds S P, sp ds S P → C ds S P := fun ds S P h => by
  have l := len ds S P h
  match ds, l, h with
  | [x0, x1, x2, x3, x4, x5, x6, x7, x8], _, h => exact vc x0 x1 x2 x3 x4 x5 x6 x7 x8 S P h
theorem _root_.Vs10 {α : Type _} {β γ : Sort _} {sp C : List α → β → γ → Prop} (len : ∀ ds S P, sp ds S P → ds.length = 10) (vc : ∀ x0 x1 x2 x3 x4 x5 x6 x7 x8 x9 S P, sp [x0, x1, x2, x3, x4, x5, x6, x7, x8, x9] S P → C [x0, x1, x2, x3, x4, x5, x6, x7, x8, x9] S P) : ∀ ds S P, sp ds S P → C ds S P := fun ds S P h => by
  have l := len ds S P h
  match ds, l, h with
  | [x0, x1, x2, x3, x4, x5, x6, x7, x8, x9], _, h => exact vc x0 x1 x2 x3 x4 x5 x6 x7 x8 x9 S P h
theorem _root_.Vs11 {α : Type _} {β γ : Sort _} {sp C : List α → β → γ → Prop} (len : ∀ ds S P, sp ds S P → ds.length = 11) (vc : ∀ x0 x1 x2 x3 x4 x5 x6 x7 x8 x9 x10 S P, sp [x0, x1, x2, x3, x4, x5, x6, x7, x8, x9, x10] S P → C [x0, x1, x2, x3, x4, x5, x6, x7, x8, x9, x10] S P) : ∀ ds S P, sp ds S P → C ds S P := fun ds S P h => by
  have l := len ds S P h
  match ds, l, h with
  | [x0, x1, x2, x3, x4, x5, x6, x7, x8, x9, x10], _, h => exact vc x0 x1 x2 x3 x4 x5 x6 x7 x8 x9 x10 S P h
/-- room, and no repr further up -/
structure RoomG (k : Nat) (A : Around) : Prop where
  r : Room k A
  g : A.guards = some []
theorem RoomG.mono {j k : Nat} {A : Around} (h : RoomG k A) (l : j ≤ k) : RoomG j A := ⟨h.r.mono l, h.g⟩
theorem RoomG.deeper {k : Nat} {A : Around} (h : RoomG (k + 1) A) (env : Env) : RoomG k (A.deeper env) := ⟨h.r.deeper env, h.g⟩
structure FnG (P : Program) (w : World) (K : PySem.W.Frag) (mg : Str → Option Value) (base : Heap) (CX : CXT) (k : Nat) (f : Addr) (fd : FuncData) (ps : List Str) (sp : Sp) : Prop where
  len : ∀ vs H Q E, sp vs H Q E → vs.length = ps.length
  run : ∀ (A : Around) (outer : List Env) (s : Shared) (H : Hp) (args : Args) (us : List Value) (vs : List V) (Q : VK) (E : XK), RoomG k A → Env0 P w K mg base A outer s H → BindsTo s fd args (ps.zip us) → Vals vs us → sp vs H Q E →
    codeAny (model P w) A (.call (.ref f) args) (CR CX outer P w H s Q E) s
theorem FnG.imp {P : Program} {w : World} {K : PySem.W.Frag} {mg : Str → Option Value} {base : Heap} {CX : CXT} {k : Nat} {f : Addr} {fd : FuncData} {ps : List Str} {sp sp' : Sp} (F : FnG P w K mg base CX k f fd ps sp)
    (h : ∀ vs H Q E, sp' vs H Q E → sp vs H Q E) : FnG P w K mg base CX k f fd ps sp' :=
  ⟨fun vs H Q E q => F.len vs H Q E (h _ _ _ _ q), fun A outer s H args us vs Q E hr he hb hv hs => F.run A outer s H args us vs Q E hr he hb hv (h _ _ _ _ hs)⟩
section
variable {X : Cx} {CX : CXT} {k n : Nat} {f C : Addr} {fd : FuncData} {ps ks : List Str} {sp : Sp} {dvs : List V} {ds : List Value} {E : XK} {x m : Str} {p pos apos : Pos} {e o : Expr} {es : List Expr} {ta : TE} {t tk : TA} {kws : List Keyword} {g : List Value → List Value → List Value} {gV : List V → List V → List V}
theorem run_fn {pins : List (Addr × Obj)} {σ : L2.St} {H : Hp} {s : Shared} {Q : VK} {us : List Value} {vs : List V} (F : FnG X.prog X.w X.K X.mg X.base CX k f fd ps sp) (hr : RoomG k X.A) (hb : Binds X.K fd ps ds) (hd : Vals dvs ds) (hx : Passes CX X E)
    (I : Inv X pins σ H s) (r : Vals vs us) (h : sp (vs ++ dvs) H Q E) : wpAny (model X.prog X.w) X.A (call (.ref f) us) (EP X pins σ Q) X.xe s := by
  have r2 : Vals (vs ++ dvs) (us ++ ds) := r.append hd
  have hl : (us ++ ds).length = ps.length := by rw [← r2.length]; exact F.len _ _ _ _ h
  refine wpAny_call (codeAny_mono (F.run X.A X.stack s H ⟨us, []⟩ (us ++ ds) (vs ++ dvs) Q E hr I.env0 (hb s us I.kIn hl) r2 h) fun r s' hq => ?_)
  cases r with
  | error e => exact hx pins σ H s e s' I hq
  | ok fl =>
    cases fl with
    | ret u => exact I.after hq
    | next => exact False.elim hq
    | brk => exact False.elim hq
    | cont => exact False.elim hq

theorem pe_call (F : FnG X.prog X.w X.K X.mg X.base CX k f fd ps sp) (hr : RoomG k X.A) (hg : Gl X x) (hm : X.mg x = some (.ref f)) (hk : PySem.W.keepIn X.K (.ref f) = true) (hb : Binds X.K fd ps ds) (hd : Vals dvs ds) (hx : Passes CX X E)
    (ha : PA X (e :: es) t) (hdb : (x == ("__debug__" : Str)) = false := by decide) (he : starEach (e :: es) X.env = (false, eval e X.env) :: starEach es X.env := by rfl) (hpl : (backTo pos (starEach es X.env)).any (·.1) = false := by rfl) :
    PE X (.Call (.Name x p) (e :: es) [] pos) (tCall sp dvs E t) := by
  refine ⟨fun pins s σ H Q I h => ?_⟩
  refine wpAny_Call_Name_kw (ld_glob I hg hm ?_ hdb)
  refine PySem.W.callWith_K (h₀ := X.base) I.ok.mod.kin hk (thn (ha.run pos pins s σ H _ I h) fun us s1 ⟨vs, H1, I1, r, q⟩ => ⟨I1.kIn, ?_⟩) he hpl
  exact run_fn F hr hb hd hx I1 r q
theorem pe_call0 (F : FnG X.prog X.w X.K X.mg X.base CX k f fd ps sp) (hr : RoomG k X.A) (hg : Gl X x) (hm : X.mg x = some (.ref f)) (hk : PySem.W.keepIn X.K (.ref f) = true) (hb : Binds X.K fd ps ds) (hd : Vals dvs ds) (hx : Passes CX X E)
    (hdb : (x == ("__debug__" : Str)) = false := by decide) : PE X (.Call (.Name x p) [] [] pos) (tCall sp dvs E tNil) := by
  refine ⟨fun pins s σ H Q I h => ?_⟩
  refine wpAny_Call_Name_kw (ld_glob I hg hm ?_ hdb)
  exact PySem.W.callWith_K0 I.kIn hk (run_fn (us := []) F hr hb hd hx I .nil h)

end
theorem fn_of {CX : CXT} {P : Program} {w : World} {K : PySem.W.Frag} {mg : Str → Option Value} {base : Heap} {k : Nat} {f : Addr} {name qual : Str} {params : Arguments} {body : List Stmt} {scope : Scope} {dV kV doc pm cdv ct oc : Value} {an od : Option Addr}
    {osl : Array (Option Value)} {N ps : List Str} {sp : Sp} (lk : K.lookup f = some ⟨oc, od, .func (PySem.W.fnOf name qual params body scope dV kV doc pm an cdv ct), osl⟩) (hcd : PySem.W.codeIn K cdv qual = true) (S : FnScope N ps scope)
    (len : ∀ vs H Q E, sp vs H Q E → vs.length = ps.length)
    (hbody : ∀ (A : Around) (outer : List Env) (s : Shared) (H : Hp) (vs : List V) (Q : VK) (E : XK), RoomG k (A.deeper (envOfC qual scope s.heap.objs.size f cdv)) → sp vs H Q E →
      ∃ t, PSs (cxOf CX P w K mg base N qual scope f cdv A outer s H E) body t ∧ t { nx := fun _ H' => Q .non H', rt := Q } (start N vs) H) :
    FnG P w K mg base CX (k + 1) f (PySem.W.fnOf name qual params body scope dV kV doc pm an cdv ct) ps sp := by
  refine ⟨len, fun A outer s H args us vs Q E hr e0 hb r hsp => ?_⟩
  have hl := len _ _ _ _ hsp
  have KX : K.In s.heap := e0.mod.kin.keeps fun b o e => (e0.bs b o e).1
  have lim : s.heap.NoLimit := e0.mod.nolimit.keeps fun b o e => (e0.bs b o e).1
  have hkind : ∀ y ∈ ps.zip us, scope.names.lookup y.1 = some .local ∨ (scope.names.lookup y.1 = some .cell ∧ ((cellsFrom (s.heap.objs.size + 1) scope.names []).lookup y.1).isSome = true) := fun ⟨n, v⟩ hy => by
    rcases S.par n (List.of_mem_zip hy).1 with q | q
    · exact .inl q
    · exact .inr ⟨q, PySem.W.cellsFrom_some _ _ _ (.inl q)⟩
  refine codeAny_call_function hr.r.depth (KX _ _ lk) rfl S.co S.gen rfl (PySem.W.codeRec_of KX hcd) (hb _ _ _ _ ?_)
  refine wpAny_newFunctionEnv_cells S.kind hkind fun env he s1 x => ?_
  subst he
  refine ⟨lim.keeps x.toInCall.keep, codeAny_func ?_⟩
  obtain ⟨t, ht, hq⟩ := hbody A outer s H vs Q E (hr.deeper _) hsp
  have I : Inv (cxOf CX P w K mg base N qual scope f cdv A outer s H E) [] (start N vs) H s1 := inv_start S hr.r.hd e0 hl r x
  refine wpAny_mono (ht.run [] s1 (start N vs) H _ I hq) (fun fl s' hs => ?_) fun e s' hs => hs
  have fin : ∀ {σ' : L2.St} {H' : Hp} {v : V} {u : Value}, Inv (cxOf CX P w K mg base N qual scope f cdv A outer s H E) [] σ' H' s' → RelV v u → Q v H' → CE outer P w H s Q u s' :=
    fun {σ' H' v u} J rv q => ⟨v, H', J.os, J.bare, J.base, J.hok, rv, q⟩
  cases fl with
  | ret u =>
    obtain ⟨v, σ', H', J, rv, q⟩ := hs
    exact fin J rv q
  | next =>
    obtain ⟨σ', H', J, q⟩ := hs
    exact fin (v := V.non) (u := Value.none) J rfl q
  | brk =>
    obtain ⟨_, _, _, q⟩ := hs
    exact False.elim q
  | cont =>
    obtain ⟨_, _, _, q⟩ := hs
    exact False.elim q

section
variable {P : Program} {w : World} {K : PySem.W.Frag} {mg : Str → Option Value} {base : Heap}
theorem fun_ok {x qual : Str} {st : Stmt} {f : Addr} {fd : FuncData} {N ps : List Str} {k : Nat} {sp : Sp} (F : Fun K x qual st f fd) (S : FnScope N ps (defScope st)) (len : ∀ vs H Q E, sp vs H Q E → vs.length = ps.length)
    (hbody : ∀ (cdv : Value) (A : Around) (outer : List Env) (s : Shared) (H : Hp) (vs : List V) (Q : VK) (E : XK), RoomG k (A.deeper (envOfC qual (defScope st) s.heap.objs.size f cdv)) → sp vs H Q E →
      ∃ t, PSs (cxOf CX0 P w K mg base N qual (defScope st) f cdv A outer s H E).nox (defBody st) t ∧ t { nx := fun _ H' => Q .non H', rt := Q } (start N vs) H) : FnG P w K mg base CX0 (k + 1) f fd ps sp := by
  obtain ⟨oc, od, kV, doc, pm, an, cdv, ct, osl, rfl, lk, hcd⟩ := F.ex
  refine fn_of lk hcd S len fun A outer s H vs Q E hr hsp => ?_
  obtain ⟨t, h, q⟩ := hbody cdv A outer s H vs Q E hr hsp
  exact ⟨t, h.nox, q⟩
theorem funD_ok {x qual : Str} {params : Arguments} {body : List Stmt} {scope : Scope} {dvs : List V} {kws : List (Str × V)} {f : Addr} {fd : FuncData} {CX : CXT} {N ps : List Str} {k : Nat} {sp : Sp} (F : FunD K x qual params body scope dvs kws f fd) (S : FnScope N ps scope) (len : ∀ vs H Q E, sp vs H Q E → vs.length = ps.length)
    (hbody : ∀ (cdv : Value) (A : Around) (outer : List Env) (s : Shared) (H : Hp) (vs : List V) (Q : VK) (E : XK), RoomG k (A.deeper (envOfC qual scope s.heap.objs.size f cdv)) → sp vs H Q E →
      ∃ t, PSs (cxOf CX P w K mg base N qual scope f cdv A outer s H E) body t ∧ t { nx := fun _ H' => Q .non H', rt := Q } (start N vs) H) : FnG P w K mg base CX (k + 1) f fd ps sp := by
  obtain ⟨oc, od, dV, kV, doc, pm, an, cdv, ct, osl, rfl, lk, hcd, _, _⟩ := F.ex
  exact fn_of lk hcd S len fun A outer s H vs Q E hr hsp => hbody cdv A outer s H vs Q E hr hsp
end
/-! ### the end -/
theorem law_call {P : Program} {w : World} {K : PySem.W.Frag} {mg mb : Str → Option Value} {CX : CXT} {k : Nat} {fa a : Addr} {fd : FuncData} {x : Str} {sp : Sp} {s₁ : Shared} {vs : List Value} {ns : List Int}
    (KX : K.In s₁.heap) (hns : s₁.heap.Ns mainGlobals mg) (hb : s₁.heap.Ns builtinsNs mb) (hbb : ∀ x : Str, x ≠ "__name__" → mb x = bootBuiltins x) (hlim : s₁.heap.NoLimit) (hg : s₁.gens = #[])
    (ha : s₁.heap.get? a = some { cls := .type "list", data := .seq vs.toArray }) (hi : IntsAre vs ns) (hl : ns.length ≤ sizeLine) (hr : RoomG k callerA)
    (F : ∀ base : Heap, K.In base → base.Ns mainGlobals mg → FnG P w K mg base CX k fa fd [x] sp) (hbind : ∀ (s : Shared) (u : Value), BindsTo s fd ⟨[u], []⟩ [(x, u)])
    (hsp : ∀ H : Hp, Only H → SqL K H a (ns.map V.int) → sp [.ref a] H (fun v _ => v = .bl true) fun _ _ _ => False)
    (hCX : ∀ H e s', CX [] H s₁ (fun _ _ _ => False) e s' → False) :
    codeAny (model P w) callerA (.call (.ref fa) ⟨[.ref a], []⟩) (fun r s' => r = .ok (.ret (.bool true)) ∧ OldK s₁.heap s'.heap ∧ s'.os = s₁.os ∧ AllBare s'.gens) s₁ := by
  have rv := vals_ints hi
  have lenV := hi.length
  -- from an abstract heap in which nothing but the script may be tracked
  have core : ∀ H : Hp, Only H → SqL K H a (ns.map V.int) → HOk P w H s₁.heap → (∀ b, H b ≠ none → b = a) → (H a ≠ none → K.lookup a = none) →
      codeAny (model P w) callerA (.call (.ref fa) ⟨[.ref a], []⟩) (fun r s' => r = .ok (.ret (.bool true)) ∧ OldK s₁.heap s'.heap ∧ s'.os = s₁.os ∧ AllBare s'.gens) s₁ := by
    intro H hO hS hok hA hK
    have base_of : ∀ {b : Addr} {o : Obj}, s₁.heap.get? b = some o → H b = none → (hidT s₁.heap H).get? b = some o := fun e n => hidT_get e n
    have noA : ∀ {b : Addr} {o : Obj} {es : Array DictEntry} {ep : Nat}, s₁.heap.get? b = some o → o.data = .dict es ep → H b = none := fun {b o es ep} e d => by
      cases q : H b with
      | none => rfl
      | some u =>
        have e' : b = a := hA b (by rw [q]; simp)
        subst e'
        rw [ha] at e; cases e
        have d' : Data.seq vs.toArray _ = Data.dict es ep := d
        cases d'
    have nsK : ∀ {b : Addr} {m : Str → Option Value}, s₁.heap.Ns b m → (hidT s₁.heap H).Ns b m := fun {b m} ⟨o, es, ep, e, d, r⟩ => ⟨o, es, ep, base_of e (noA e d), d, r⟩
    have hKb : K.In (hidT s₁.heap H) := fun b o e => base_of (KX b o e) (by
      cases q : H b with
      | none => rfl
      | some u =>
        have e' : b = a := hA b (by rw [q]; simp)
        subst e'
        rw [hK (by rw [q]; simp)] at e; cases e)
    have hM : Mod K mg (hidT s₁.heap H) := ⟨hKb, nsK hns, ⟨mb, nsK hb, hbb⟩, let ⟨mc, h1, h2⟩ := hlim; ⟨mc, nsK h1, h2⟩⟩
    have e0 : Env0 P w K mg (hidT s₁.heap H) callerA [] s₁ H := ⟨rfl, hM, fun b o e => of_hidT e, Nat.le_of_eq (hidT_size _ _), trivial, fun b hb => absurd (show b ∈ ([] : List Addr) from hb) (by simp), hok, .of_eq hg⟩
    refine codeAny_mono ((F _ hKb (nsK hns)).run callerA [] s₁ H ⟨[.ref a], []⟩ [.ref a] [.ref a] _ _ hr e0 (hbind s₁ (.ref a)) (.cons rfl .nil) (hsp H hO hS)) fun r s' h => ?_
    cases r with
    | error e => exact (hCX H e s' h).elim
    | ok fl =>
      cases fl with
      | next => exact False.elim h
      | brk => exact False.elim h
      | cont => exact False.elim h
      | ret u =>
        obtain ⟨v, H', os, bare, un, hok', r', q⟩ := h
        have q' : v = .bl true := q
        subst q'
        obtain rfl : u = Value.bool true := r'
        refine ⟨rfl, OldK.of_keep fun b o e => ?_, os, bare⟩
        cases q : H b with
        | none => exact un.keep b o e q (by intro z; exact absurd (show b ∈ ([] : List Addr) from z) (by simp)) (by simp)
        | some u =>
          rcases hO b with z | ⟨ob, xs, z⟩
          · rw [q] at z; cases z
          · have z2 := un.frzs b ob _ z
            obtain ⟨e1, _⟩ := hok b _ z
            obtain ⟨e2, _⟩ := hok' b _ z2
            rw [e] at e1; cases e1
            exact e2
  cases hk : K.lookup a with
  | some o =>
    -- the script is one of the module's own objects
    have e := KX a o hk
    rw [ha] at e
    cases e
    refine core (fun _ => none) (fun _ => .inl rfl) (.inr ⟨_, vs.toArray, _, hk, rfl, rfl, rfl, by rw [List.size_toArray, lenV]; exact hl, by simpa using rv⟩) (fun b u z => by have z' : (none : Option HO) = some u := z; cases z') (fun b z => absurd rfl z) fun z => absurd rfl z
  | none =>
    refine core (fun b => if b = a then some (.frz { cls := .type "list", data := .seq vs.toArray } (.lst (ns.map V.int))) else none) (fun b => ?_) (.inl (.inr ⟨{ cls := .type "list", data := .seq vs.toArray }, if_pos rfl⟩)) (fun b u z => ?_) (fun b z => ?_) fun _ => hk
    · by_cases hb : b = a
      · exact .inr ⟨_, _, if_pos hb⟩
      · exact .inl (if_neg hb)
    · by_cases hb : b = a
      · have z' := (if_pos hb).symm.trans z
        cases z'
        subst hb
        exact ⟨ha, by rw [List.length_map]; exact hl, vs, _, rv, ha⟩
      · have z' := (if_neg hb).symm.trans z
        cases z'
    · by_cases hb : b = a
      · exact hb
      · exact absurd (if_neg hb) z
theorem walk_of {l : PySem.W.OpenLaw} {n k : Nat} {q : Program} {loose : List Str} {XP : (Str → Option Value) → Heap → Prop} {YP : World → Heap → Prop} {d : DefRec} {K : Params → PySem.W.Frag} {CX : World → CXT} {sp : World → Sp} {x : Str}
    (hn : l.most = some n) (hn2 : n ≤ sizeLine) (hdf : d.params.defaults = []) (hr : RoomG k callerA)
    (hY : ∀ (w : World) (h : Heap), YP w h → (K w.params).In h)
    (F : ∀ (w : World) (mg : Str → Option Value) (fa : Addr) (h : Heap), (K w.params).In h → h.Ns mainGlobals mg → mg d.name = some (.ref fa) →
      ∃ fd : FuncData, (∀ (s : Shared) (u : Value), BindsTo s fd ⟨[u], []⟩ [(x, u)]) ∧
        ∀ base : Heap, (K w.params).In base → base.Ns mainGlobals mg → FnG l.prog w (K w.params) mg base (CX w) k fa fd [x] (sp w))
    (hsp : ∀ (w : World) (H : Hp) (a : Addr) (ns : List Int), ns.length ≤ n → Only H → SqL (K w.params) H a (ns.map V.int) → sp w [.ref a] H (fun v _ => v = .bl true) fun _ _ _ => False)
    (hCX : ∀ (w : World) (H : Hp) (s : Shared) (e : Value) (s' : Shared), CX w [] H s (fun _ _ _ => False) e s' → False) :
    PySem.W.WalkO q loose XP YP l.row.toRowW d [] (fun f vs => PySem.call f vs) := by
  refine Att.attach_call hn hdf fun w s₀ s₁ mg mb fa o pm cd doc a vs ns G Y ho hd hcd hmg hobj hints hlen hg => ?_
  have KX := hY w _ Y
  obtain ⟨fd, hb, hF⟩ := F w mg fa _ KX G.T.g hmg
  exact law_call KX G.T.g G.T.b G.T.builtins G.T.nolimit hg hobj hints (Nat.le_trans hlen hn2) hr hF hb (fun H hO hS => hsp w H a ns hlen hO hS) fun H e s' => hCX w H s₁ e s'
end DG

/-! A head that writes nothing of the top out: one kernel run, its facts read by a Hook. -/
namespace HD
open PySem PySem.Spec PyProof.Rows L2 He
abbrev Pr : Type := PySem.W.Frag → Bool
def mkD (p : Str × Option Str) (x qual : Str) (st : Stmt) (dfl : List Dv := []) (kwd : List (Str × Dv) := []) : DefD := ⟨p, x, qual, defArgs st, defBody st, defScope st, dfl, kwd⟩
abbrev AlH : Type := Bool × List (List FnW) × List (Option (List (Option (Str × Int))))
/-! the same list walked by two functions: the kernel must not compare them under a binder -/
def oF1 (K : PySem.W.Frag) : List DefD → List FnW
  | [] => []
  | d :: r => fnW K d.at_ :: oF1 K r
def oF (K : PySem.W.Frag) : List (List DefD) → List (List FnW)
  | [] => []
  | q :: r => oF1 K q :: oF K r
def vF1 : List DefD → List FnW
  | [] => []
  | d :: r => d.val :: vF1 r
def vF : List (List DefD) → List (List FnW)
  | [] => []
  | q :: r => vF1 q :: vF r
def oT (K : PySem.W.Frag) : List Tab → List (Option (List (Option (Str × Int))))
  | [] => []
  | t :: r => dicW K (t.1 K) :: oT K r
def vT (w : World) : List Tab → List (Option (List (Option (Str × Int))))
  | [] => []
  | t :: r => some (keysIn w.params t.2) :: vT w r
theorem oF1_eq (K : PySem.W.Frag) : ∀ l : List DefD, oF1 K l = l.map fun d => fnW K d.at_
  | [] => rfl
  | d :: r => congrArg (fnW K d.at_ :: ·) (oF1_eq K r)
theorem oF_eq (K : PySem.W.Frag) : ∀ l : List (List DefD), oF K l = l.map fun q => q.map fun d => fnW K d.at_
  | [] => rfl
  | q :: r => by
    show oF1 K q :: oF K r = _
    rw [oF1_eq, oF_eq K r]
    rfl
theorem vF1_eq : ∀ l : List DefD, vF1 l = l.map DefD.val
  | [] => rfl
  | d :: r => congrArg (d.val :: ·) (vF1_eq r)
theorem vF_eq : ∀ l : List (List DefD), vF l = l.map fun q => q.map DefD.val
  | [] => rfl
  | q :: r => by
    show vF1 q :: vF r = _
    rw [vF1_eq, vF_eq r]
    rfl
theorem oT_eq (K : PySem.W.Frag) : ∀ l : List Tab, oT K l = l.map fun t => dicW K (t.1 K)
  | [] => rfl
  | t :: r => congrArg (dicW K (t.1 K) :: ·) (oT_eq K r)
theorem vT_eq (w : World) : ∀ l : List Tab, vT w l = l.map fun t => some (keysIn w.params t.2)
  | [] => rfl
  | t :: r => congrArg (some (keysIn w.params t.2) :: ·) (vT_eq w r)
def obsH (ps : List (List Pr)) (fn : List (List DefD)) (ts : List Tab) (K : PySem.W.Frag) : AlH := ((ps.all fun q => q.all fun p => p K) && fn.all fun q => q.all fun d => d.ok K, oF K fn, oT K ts)
def valH (fn : List (List DefD)) (ts : List Tab) (w : World) : AlH := (true, vF fn, vT w ts)
def Says (ps : List (List Pr)) (fn : List (List DefD)) (ts : List Tab) (w : World) (K : PySem.W.Frag) : Prop := obsH ps fn ts K = valH fn ts w
def obsHG (as : List Addr) (ps : List (List Pr)) (fn : List (List DefD)) (ts : List Tab) (g : Addr → Option Obj) : AlH := obsH ps fn ts (frG g as)
def hookH (n : List Addr) (ps : List (List Pr)) (fn : List (List DefD)) (ts : List Tab) : PySem.W.Hook where
  α := AlH
  obs := fun s => obsHG n ps fn ts s.heap.get?
  val := fun w => valH fn ts w
  says := fun w h => ∃ K : PySem.W.Frag, K.In h ∧ Says ps fn ts w K
  of := fun _ _ e => ⟨_, frG_in, e⟩
  keeps := fun _ _ _ ⟨K, hK, c⟩ k => ⟨K, PySem.W.Frag.In.keeps hK k, c⟩
theorem obsHG_eq {n : List Addr} {ps : List (List Pr)} {fn : List (List DefD)} {ts : List Tab} {g : Addr → Option Obj} {s : Shared} (h : ∀ a, g a = s.heap.get? a) : obsHG n ps fn ts g = (hookH n ps fn ts).obs s := by
  have e : g = s.heap.get? := funext h
  rw [e] <;> rfl
def fdo (K : PySem.W.Frag) (a : Addr) : FuncData := match K.lookup a with
  | some ⟨_, _, .func fd, _⟩ => fd
  | _ => PySem.W.fnOf "" "" ⟨[], [], none, [], [], none, []⟩ [] ⟨.function, [], false, false, []⟩ .none .none .none .none none .none .none
theorem funD_of {K : PySem.W.Frag} {d : DefD} (e : fnW K d.at_ = d.val) (c : d.ok K = true) : FunD K d.name d.qual d.params d.body d.scope (d.dvs K) (d.kws K) (fAd K d.at_) (fdo K (fAd K d.at_)) := by
  obtain ⟨fd, F⟩ := DefD.funD e c
  obtain ⟨oc, od, dV, kV, doc, pm, an, cdv, ct, osl, q, l, r⟩ := F.ex
  have e2 : fdo K (fAd K d.at_) = fd := by
    unfold fdo
    rw [l]
  rw [e2]
  exact F
theorem fun_of {K : PySem.W.Frag} {x qual : Str} {st : Stmt} {f : Addr} {fd : FuncData} (F : FunD K x qual (defArgs st) (defBody st) (defScope st) [] [] f fd) : Fun K x qual st f fd := by
  obtain ⟨oc, od, dV, kV, doc, pm, an, cdv, ct, osl, rfl, l, hc, hd, _⟩ := F.ex
  rcases hd with ⟨_, rfl⟩ | ⟨h, _⟩
  · exact ⟨⟨oc, od, kV, doc, pm, an, cdv, ct, osl, rfl, l, hc⟩, F.kp⟩
  · exact absurd rfl h
section
variable {ps : List (List Pr)} {fn : List (List DefD)} {ts : List Tab} {w : World} {K : PySem.W.Frag}
theorem Says.p (c : Says ps fn ts w K) (j i : Nat) {p : Pr} (h : (ps[j]?.bind fun q => q[i]?) = some p) : p K = true := by
  have c1 := (ba (show ((ps.all fun q => q.all fun p => p K) && fn.all fun q => q.all fun d => d.ok K) = true from congrArg (fun z : AlH => z.1) c)).1
  obtain ⟨q, hq, hp⟩ := Option.bind_eq_some_iff.mp h
  exact List.all_eq_true.mp (List.all_eq_true.mp c1 q (List.mem_of_getElem? hq)) p (List.mem_of_getElem? hp)
theorem Says.d (c : Says ps fn ts w K) (j i : Nat) {d : DefD} (h : (fn[j]?.bind fun q => q[i]?) = some d) : FunD K d.name d.qual d.params d.body d.scope (d.dvs K) (d.kws K) (fAd K d.at_) (fdo K (fAd K d.at_)) := by
  have c1 := (ba (show ((ps.all fun q => q.all fun p => p K) && fn.all fun q => q.all fun d => d.ok K) = true from congrArg (fun z : AlH => z.1) c)).2
  have c2 : (fn.map fun q => q.map fun d => fnW K d.at_) = fn.map fun q => q.map DefD.val := by
    rw [← oF_eq, ← vF_eq]
    exact congrArg (fun z : AlH => z.2.1) c
  obtain ⟨q, hq, hd⟩ := Option.bind_eq_some_iff.mp h
  have e : (fn.map fun q => q.map fun d => fnW K d.at_)[j]? = (fn.map fun q => q.map DefD.val)[j]? := by rw [c2]
  rw [List.getElem?_map, List.getElem?_map, hq] at e
  have e1 := Option.some.inj e
  have e2 : (q.map fun d => fnW K d.at_)[i]? = (q.map DefD.val)[i]? := by rw [show (q.map fun d => fnW K d.at_) = q.map DefD.val from e1]
  rw [List.getElem?_map, List.getElem?_map, hd] at e2
  exact funD_of (Option.some.inj e2) (List.all_eq_true.mp (List.all_eq_true.mp c1 q (List.mem_of_getElem? hq)) d (List.mem_of_getElem? hd))
theorem Says.f1 (c : Says ps fn ts w K) (j i : Nat) {p : Str × Option Str} {x qual : Str} {st : Stmt} {dfl : List Dv} {kwd : List (Str × Dv)} (h : (fn[j]?.bind fun q => q[i]?) = some (mkD p x qual st dfl kwd)) :
    FunD K x qual (defArgs st) (defBody st) (defScope st) (dfl.map (Dv.v K)) (kwd.map fun q => (q.1, q.2.v K)) (fAd K p) (fdo K (fAd K p)) := c.d j i h
theorem Says.f0 (c : Says ps fn ts w K) (j i : Nat) {p : Str × Option Str} {x qual : Str} {st : Stmt} (h : (fn[j]?.bind fun q => q[i]?) = some (mkD p x qual st [] [])) :
    Fun K x qual st (fAd K p) (fdo K (fAd K p)) := fun_of (c.d j i h)
theorem Says.t (c : Says ps fn ts w K) (i : Nat) {t : Tab} (h : ts[i]? = some t) : ∃ es n, KDict K w (t.1 K) es n := by
  have e : ts.map (fun t => dicW K (t.1 K)) = ts.map fun t => some (keysIn w.params t.2) := by
    rw [← oT_eq, ← vT_eq]
    exact congrArg (fun z : AlH => z.2.2) c
  have e2 : (ts.map fun t => dicW K (t.1 K))[i]? = (ts.map fun t => some (keysIn w.params t.2))[i]? := by rw [e]
  rw [List.getElem?_map, List.getElem?_map, h] at e2
  exact dicW_ok (Option.some.inj e2)
end
section
variable {K : PySem.W.Frag}
/-- x of the table at a is this literal -/
def litB (a : PySem.W.Frag → Addr) (x : Str) (v : V) : Pr := fun K => match PySem.W.nsIn K (a K) x with
  | some (some u) => relB v u
  | _ => false
theorem lit_ok {a : PySem.W.Frag → Addr} {x : Str} {v : V} (h : litB a x v K = true) : ∃ u, PySem.W.nsIn K (a K) x = some (some u) ∧ RelV v u := by
  unfold litB at h
  cases e : PySem.W.nsIn K (a K) x with
  | none =>
    rw [e] at h
    cases h
  | some r =>
    rw [e] at h
    cases r with
    | none => cases h
    | some u => exact ⟨u, rfl, relB_ok h⟩
theorem lit_int {a : PySem.W.Frag → Addr} {x : Str} {i : Int} (h : litB a x (.int i) K = true) : ∃ q : Tok, PySem.W.nsIn K (a K) x = some (some (.int i q)) := by
  obtain ⟨u, e, t, rfl⟩ := lit_ok h
  exact ⟨t, e⟩
/-- the module's name x is a tuple of these -/
def gtB (x : Str) (vs : List V) : Pr := fun K => eqO (PySem.W.nsIn K mainGlobals x) (some (some (.ref (ga K x)))) && (match K.lookup (ga K x) with
  | some ⟨.type c, _, .seq its _, _⟩ => decide (c = "tuple") && (decide (its.size ≤ sizeLine) && relAll vs its.toList)
  | _ => false)
theorem gt_ok {x : Str} {vs : List V} (h : gtB x vs K = true) : ∃ (A : Addr) (o : Obj) (its : Array Value) (m : Nat), PySem.W.nsIn K mainGlobals x = some (some (.ref A)) ∧ K.lookup A = some o ∧ o.cls = .type "tuple" ∧ o.data = .seq its m ∧ its.size ≤ sizeLine ∧ Vals vs its.toList := by
  obtain ⟨h0, h⟩ := ba h
  cases q : K.lookup (ga K x) with
  | none =>
    rw [q] at h
    cases h
  | some o =>
    obtain ⟨oc, od, dt, osl⟩ := o
    rw [q] at h
    cases oc with
    | type c =>
      cases dt with
      | seq its n =>
        obtain ⟨h1, h2⟩ := ba (show (decide (c = "tuple") && (decide (its.size ≤ sizeLine) && relAll vs its.toList)) = true from h)
        obtain ⟨h3, h4⟩ := ba h2
        exact ⟨_, _, its, n, eqO_ok h0, q, congrArg Value.type (of_decide_eq_true h1), rfl, of_decide_eq_true h3, relAll_ok h4⟩
      | _ => cases h
    | _ => cases dt <;> cases h
end
theorem law_binds {K : PySem.W.Frag} {x qual y : Str} {st : Stmt} {f : Addr} {fd : FuncData} (F : Fun K x qual st f fd)
    (h : ∀ (kV doc pm : Value) (an : Option Addr) (cdv ct : Value) (s : Shared) (v : Value), BindsTo s (PySem.W.fnOf x qual (defArgs st) (defBody st) (defScope st) .none kV doc pm an cdv ct) ⟨[v], []⟩ [(y, v)]) (s : Shared) (v : Value) : BindsTo s fd ⟨[v], []⟩ [(y, v)] := by
  obtain ⟨oc, od, kV, doc, pm, an, cdv, ct, osl, rfl, lk, hcd⟩ := F.ex
  exact h kV doc pm an cdv ct s v
theorem walk_of {l : PySem.W.OpenLaw} {n k : Nat} {q : Program} {loose : List Str} {XP : (Str → Option Value) → Heap → Prop} {YP : World → Heap → Prop} {d : DefRec} {CX : World → CXT} {sp : World → PySem.W.Frag → Sp} {x : Str}
    (hn : l.most = some n) (hn2 : n ≤ sizeLine) (hdf : d.params.defaults = []) (hr : DG.RoomG k callerA)
    (F : ∀ (w : World) (mg : Str → Option Value) (fa : Addr) (h : Heap), YP w h → h.Ns mainGlobals mg → mg d.name = some (.ref fa) →
      ∃ K : PySem.W.Frag, K.In h ∧ ∃ fd : FuncData, (∀ (s : Shared) (u : Value), BindsTo s fd ⟨[u], []⟩ [(x, u)]) ∧
        ∀ base : Heap, K.In base → base.Ns mainGlobals mg → DG.FnG l.prog w K mg base (CX w) k fa fd [x] (sp w K))
    (hsp : ∀ (w : World) (K : PySem.W.Frag) (H : Hp) (a : Addr) (ns : List Int), ns.length ≤ n → Only H → SqL K H a (ns.map V.int) → sp w K [.ref a] H (fun v _ => v = .bl true) fun _ _ _ => False)
    (hCX : ∀ (w : World) (H : Hp) (s : Shared) (e : Value) (s' : Shared), CX w [] H s (fun _ _ _ => False) e s' → False) :
    PySem.W.WalkO q loose XP YP l.row.toRowW d [] (fun f vs => PySem.call f vs) := by
  refine Att.attach_call hn hdf fun w s₀ s₁ mg mb fa o pm cd doc a vs ns G Y ho hd hcd hmg hobj hints hlen hg => ?_
  obtain ⟨K, KX, fd, hb, hF⟩ := F w mg fa _ Y G.T.g hmg
  exact DG.law_call KX G.T.g G.T.b G.T.builtins G.T.nolimit hg hobj hints (Nat.le_trans hlen hn2) hr hF hb (fun H hO hS => hsp w K H a ns hlen hO hS) fun H e s' => hCX w H s₁ e s'
end HD

namespace HDR
open PySem PySem.Spec PyProof.Rows L2
def topS (i : Nat) : Stmt := PySem.Challenge.pw_firstfigures_k14_pairs_that_show_it_or_n.main.body.getD i (.Pass ⟨0, 0, 0, 0⟩)
abbrev s_common : Stmt := topS 2
abbrev s_frac : Stmt := topS 3
abbrev s_plus : Stmt := topS 4
abbrev s_minus : Stmt := topS 5
abbrev s_times : Stmt := topS 6
abbrev s_over : Stmt := topS 7
abbrev s_is_below : Stmt := topS 8
abbrev s_lesser : Stmt := topS 9
abbrev s_greater : Stmt := topS 10
abbrev s_power : Stmt := topS 11
abbrev s_known_to : Stmt := topS 13
abbrev s_whole_of : Stmt := topS 14
abbrev s_worth_of : Stmt := topS 15
abbrev s_tail_of : Stmt := topS 16
abbrev s_span_of : Stmt := topS 17
abbrev s_many_of : Stmt := topS 20
abbrev s_weighed : Stmt := topS 21
abbrev s_applied : Stmt := topS 22
abbrev s_corners_of : Stmt := topS 23
abbrev s_numbers_at : Stmt := topS 24
abbrev s_reach_of : Stmt := topS 25
abbrev s_raised : Stmt := topS 27
abbrev s_figures_between : Stmt := topS 28
abbrev s_right_figures : Stmt := topS 29
abbrev s_number_at : Stmt := topS 30
abbrev s_ends_of : Stmt := topS 31
abbrev s_held_by : Stmt := topS 32
abbrev s_are_ends : Stmt := topS 33
abbrev s_shows_held : Stmt := topS 34
abbrev s_Lcell_at : Stmt := topS 36
abbrev s_Lbox : Stmt := topS 37
abbrev s_Ltake : Stmt := topS 38
abbrev s_Lof : Stmt := topS 39
abbrev s_Lsame : Stmt := topS 40
abbrev s_Lbase : Stmt := topS 41
abbrev s_Lmost : Stmt := topS 42
abbrev s_Lfigures : Stmt := topS 43
abbrev s_Lrow : Stmt := topS 44
abbrev s_Lfrac : Stmt := topS 45
abbrev s_Lplus : Stmt := topS 46
abbrev s_Lless : Stmt := topS 47
abbrev s_Ltimes : Stmt := topS 48
abbrev s_Lbelow : Stmt := topS 49
abbrev s_Lpower : Stmt := topS 50
abbrev s_Lworth : Stmt := topS 51
abbrev s_Lspan : Stmt := topS 52
abbrev s_Lover : Stmt := topS 53
abbrev s_Lkind : Stmt := topS 54
abbrev s_Lmany : Stmt := topS 55
abbrev s_Lcame : Stmt := topS 56
abbrev s_Lsources : Stmt := topS 57
abbrev s_Lchoosing : Stmt := topS 58
abbrev s_Lholds : Stmt := topS 59
abbrev s_Lfigures_right : Stmt := topS 60
abbrev s_Lcorners : Stmt := topS 61
abbrev s_Lby_corners : Stmt := topS 62
abbrev s_Lodd : Stmt := topS 63
abbrev s_Lright : Stmt := topS 64
abbrev s_law : Stmt := topS 65
def hdP0 : List HD.Pr := [
  fun K => decide (PySem.W.nsIn K mainGlobals "common" = some (some (.ref (He.fAd K ("common", none))))),
  fun K => decide (PySem.W.nsIn K mainGlobals "frac" = some (some (.ref (He.fAd K ("frac", none))))),
  fun K => decide (PySem.W.nsIn K mainGlobals "plus" = some (some (.ref (He.fAd K ("plus", none))))),
  fun K => decide (PySem.W.nsIn K mainGlobals "minus" = some (some (.ref (He.fAd K ("minus", none))))),
  fun K => decide (PySem.W.nsIn K mainGlobals "times" = some (some (.ref (He.fAd K ("times", none))))),
  fun K => decide (PySem.W.nsIn K mainGlobals "over" = some (some (.ref (He.fAd K ("over", none))))),
  fun K => decide (PySem.W.nsIn K mainGlobals "is_below" = some (some (.ref (He.fAd K ("is_below", none))))),
  fun K => decide (PySem.W.nsIn K mainGlobals "lesser" = some (some (.ref (He.fAd K ("lesser", none))))),
  fun K => decide (PySem.W.nsIn K mainGlobals "greater" = some (some (.ref (He.fAd K ("greater", none))))),
  fun K => decide (PySem.W.nsIn K mainGlobals "power" = some (some (.ref (He.fAd K ("power", none))))),
  fun K => decide (PySem.W.nsIn K mainGlobals "known_to" = some (some (.ref (He.fAd K ("known_to", none))))),
  fun K => decide (PySem.W.nsIn K mainGlobals "whole_of" = some (some (.ref (He.fAd K ("whole_of", none))))),
  fun K => decide (PySem.W.nsIn K mainGlobals "worth_of" = some (some (.ref (He.fAd K ("worth_of", none))))),
  fun K => decide (PySem.W.nsIn K mainGlobals "tail_of" = some (some (.ref (He.fAd K ("tail_of", none))))),
  fun K => decide (PySem.W.nsIn K mainGlobals "span_of" = some (some (.ref (He.fAd K ("span_of", none))))),
  fun K => decide (PySem.W.nsIn K mainGlobals "many_of" = some (some (.ref (He.fAd K ("many_of", none))))),
  fun K => decide (PySem.W.nsIn K mainGlobals "weighed" = some (some (.ref (He.fAd K ("weighed", none))))),
  fun K => decide (PySem.W.nsIn K mainGlobals "applied" = some (some (.ref (He.fAd K ("applied", none))))),
  fun K => decide (PySem.W.nsIn K mainGlobals "corners_of" = some (some (.ref (He.fAd K ("corners_of", none))))),
  fun K => decide (PySem.W.nsIn K mainGlobals "numbers_at" = some (some (.ref (He.fAd K ("numbers_at", none))))),
  fun K => decide (PySem.W.nsIn K mainGlobals "reach_of" = some (some (.ref (He.fAd K ("reach_of", none))))),
  fun K => decide (PySem.W.nsIn K mainGlobals "raised" = some (some (.ref (He.fAd K ("raised", none))))),
  fun K => decide (PySem.W.nsIn K mainGlobals "figures_between" = some (some (.ref (He.fAd K ("figures_between", none))))),
  fun K => decide (PySem.W.nsIn K mainGlobals "right_figures" = some (some (.ref (He.fAd K ("right_figures", none))))),
  fun K => decide (PySem.W.nsIn K mainGlobals "number_at" = some (some (.ref (He.fAd K ("number_at", none)))))]
def hdP1 : List HD.Pr := [
  fun K => decide (PySem.W.nsIn K mainGlobals "ends_of" = some (some (.ref (He.fAd K ("ends_of", none))))),
  fun K => decide (PySem.W.nsIn K mainGlobals "held_by" = some (some (.ref (He.fAd K ("held_by", none))))),
  fun K => decide (PySem.W.nsIn K mainGlobals "are_ends" = some (some (.ref (He.fAd K ("are_ends", none))))),
  fun K => decide (PySem.W.nsIn K mainGlobals "shows_held" = some (some (.ref (He.fAd K ("shows_held", none))))),
  fun K => decide (PySem.W.nsIn K mainGlobals "_law_cell_at" = some (some (.ref (He.fAd K ("_law_cell_at", none))))),
  fun K => decide (PySem.W.nsIn K mainGlobals "_law_box" = some (some (.ref (He.fAd K ("_law_box", none))))),
  fun K => decide (PySem.W.nsIn K mainGlobals "_law_take" = some (some (.ref (He.fAd K ("_law_take", none))))),
  fun K => decide (PySem.W.nsIn K mainGlobals "_law_of" = some (some (.ref (He.fAd K ("_law_of", none))))),
  fun K => decide (PySem.W.nsIn K mainGlobals "_law_same" = some (some (.ref (He.fAd K ("_law_same", none))))),
  fun K => decide (PySem.W.nsIn K mainGlobals "_law_base" = some (some (.ref (He.fAd K ("_law_base", none))))),
  fun K => decide (PySem.W.nsIn K mainGlobals "_law_most" = some (some (.ref (He.fAd K ("_law_most", none))))),
  fun K => decide (PySem.W.nsIn K mainGlobals "_law_figures" = some (some (.ref (He.fAd K ("_law_figures", none))))),
  fun K => decide (PySem.W.nsIn K mainGlobals "_law_row" = some (some (.ref (He.fAd K ("_law_row", none))))),
  fun K => decide (PySem.W.nsIn K mainGlobals "_law_frac" = some (some (.ref (He.fAd K ("_law_frac", none))))),
  fun K => decide (PySem.W.nsIn K mainGlobals "_law_plus" = some (some (.ref (He.fAd K ("_law_plus", none))))),
  fun K => decide (PySem.W.nsIn K mainGlobals "_law_less" = some (some (.ref (He.fAd K ("_law_less", none))))),
  fun K => decide (PySem.W.nsIn K mainGlobals "_law_times" = some (some (.ref (He.fAd K ("_law_times", none))))),
  fun K => decide (PySem.W.nsIn K mainGlobals "_law_below" = some (some (.ref (He.fAd K ("_law_below", none))))),
  fun K => decide (PySem.W.nsIn K mainGlobals "_law_power" = some (some (.ref (He.fAd K ("_law_power", none))))),
  fun K => decide (PySem.W.nsIn K mainGlobals "_law_worth" = some (some (.ref (He.fAd K ("_law_worth", none))))),
  fun K => decide (PySem.W.nsIn K mainGlobals "_law_span" = some (some (.ref (He.fAd K ("_law_span", none))))),
  fun K => decide (PySem.W.nsIn K mainGlobals "_law_over" = some (some (.ref (He.fAd K ("_law_over", none))))),
  fun K => decide (PySem.W.nsIn K mainGlobals "_law_kind" = some (some (.ref (He.fAd K ("_law_kind", none))))),
  fun K => decide (PySem.W.nsIn K mainGlobals "_law_many" = some (some (.ref (He.fAd K ("_law_many", none))))),
  fun K => decide (PySem.W.nsIn K mainGlobals "_law_came" = some (some (.ref (He.fAd K ("_law_came", none)))))]
def hdP2 : List HD.Pr := [
  fun K => decide (PySem.W.nsIn K mainGlobals "_law_sources" = some (some (.ref (He.fAd K ("_law_sources", none))))),
  fun K => decide (PySem.W.nsIn K mainGlobals "_law_choosing" = some (some (.ref (He.fAd K ("_law_choosing", none))))),
  fun K => decide (PySem.W.nsIn K mainGlobals "_law_holds" = some (some (.ref (He.fAd K ("_law_holds", none))))),
  fun K => decide (PySem.W.nsIn K mainGlobals "_law_figures_right" = some (some (.ref (He.fAd K ("_law_figures_right", none))))),
  fun K => decide (PySem.W.nsIn K mainGlobals "_law_corners" = some (some (.ref (He.fAd K ("_law_corners", none))))),
  fun K => decide (PySem.W.nsIn K mainGlobals "_law_by_corners" = some (some (.ref (He.fAd K ("_law_by_corners", none))))),
  fun K => decide (PySem.W.nsIn K mainGlobals "_law_odd" = some (some (.ref (He.fAd K ("_law_odd", none))))),
  fun K => decide (PySem.W.nsIn K mainGlobals "_law_right" = some (some (.ref (He.fAd K ("_law_right", none))))),
  fun K => decide (PySem.W.nsIn K mainGlobals "law" = some (some (.ref (He.fAd K ("law", none))))),
  fun K => decide (PySem.W.nsIn K mainGlobals "abs" = some none),
  fun K => decide (PySem.W.nsIn K mainGlobals "all" = some none),
  fun K => decide (PySem.W.nsIn K mainGlobals "any" = some none),
  fun K => decide (PySem.W.nsIn K mainGlobals "bool" = some none),
  fun K => decide (PySem.W.nsIn K mainGlobals "dict" = some none),
  fun K => decide (PySem.W.nsIn K mainGlobals "enumerate" = some none),
  fun K => decide (PySem.W.nsIn K mainGlobals "int" = some none),
  fun K => decide (PySem.W.nsIn K mainGlobals "isinstance" = some none),
  fun K => decide (PySem.W.nsIn K mainGlobals "len" = some none),
  fun K => decide (PySem.W.nsIn K mainGlobals "list" = some none),
  fun K => decide (PySem.W.nsIn K mainGlobals "max" = some none),
  fun K => decide (PySem.W.nsIn K mainGlobals "min" = some none),
  fun K => decide (PySem.W.nsIn K mainGlobals "range" = some none),
  fun K => decide (PySem.W.nsIn K mainGlobals "repr" = some none),
  fun K => decide (PySem.W.nsIn K mainGlobals "str" = some none),
  fun K => decide (PySem.W.nsIn K mainGlobals "tuple" = some none)]
def hdP3 : List HD.Pr := [
  fun K => decide (PySem.W.nsIn K mainGlobals "zip" = some none),
  fun K => decide (PySem.W.nsIn K mainGlobals "BARE_KINDS" = some (some (.ref (He.ga K "BARE_KINDS")))),
  fun K => decide (PySem.W.nsIn K (He.ga K "BARE_KINDS") "sum" = some none),
  fun K => decide (PySem.W.nsIn K (He.ga K "BARE_KINDS") "loose" = some none),
  fun K => decide (PySem.W.nsIn K (He.ga K "BARE_KINDS") "moved" = some none),
  fun K => decide (PySem.W.nsIn K (He.ga K "BARE_KINDS") "told" = some none),
  HD.litB (fun K => He.ga K "BARE_KINDS") "times" (.int 2),
  fun K => decide (PySem.W.nsIn K (He.ga K "BARE_KINDS") "over" = some none),
  HD.litB (fun K => He.ga K "BARE_KINDS") "least" (.int 2),
  HD.litB (fun K => He.ga K "BARE_KINDS") "most" (.int 2),
  HD.litB (fun K => He.ga K "BARE_KINDS") "choose" (.int 3),
  HD.gtB "NOUGHT" [.int 0, .int 1]]
def hdP : List (List HD.Pr) := [hdP0, hdP1, hdP2, hdP3]
def hdF0 : List He.DefD := [
  HD.mkD ("common", none) "common" "common" s_common [] [],
  HD.mkD ("frac", none) "frac" "frac" s_frac [.int 1] [],
  HD.mkD ("plus", none) "plus" "plus" s_plus [] [],
  HD.mkD ("minus", none) "minus" "minus" s_minus [] [],
  HD.mkD ("times", none) "times" "times" s_times [] [],
  HD.mkD ("over", none) "over" "over" s_over [] [],
  HD.mkD ("is_below", none) "is_below" "is_below" s_is_below [] [],
  HD.mkD ("lesser", none) "lesser" "lesser" s_lesser [] [],
  HD.mkD ("greater", none) "greater" "greater" s_greater [] [],
  HD.mkD ("power", none) "power" "power" s_power [] [],
  HD.mkD ("known_to", none) "known_to" "known_to" s_known_to [] [],
  HD.mkD ("whole_of", none) "whole_of" "whole_of" s_whole_of [] [],
  HD.mkD ("worth_of", none) "worth_of" "worth_of" s_worth_of [] [],
  HD.mkD ("tail_of", none) "tail_of" "tail_of" s_tail_of [] [],
  HD.mkD ("span_of", none) "span_of" "span_of" s_span_of [] [],
  HD.mkD ("many_of", none) "many_of" "many_of" s_many_of [] [],
  HD.mkD ("weighed", none) "weighed" "weighed" s_weighed [] [],
  HD.mkD ("applied", none) "applied" "applied" s_applied [] [],
  HD.mkD ("corners_of", none) "corners_of" "corners_of" s_corners_of [] [],
  HD.mkD ("numbers_at", none) "numbers_at" "numbers_at" s_numbers_at [] [],
  HD.mkD ("reach_of", none) "reach_of" "reach_of" s_reach_of [] [],
  HD.mkD ("raised", none) "raised" "raised" s_raised [] [],
  HD.mkD ("figures_between", none) "figures_between" "figures_between" s_figures_between [] [],
  HD.mkD ("right_figures", none) "right_figures" "right_figures" s_right_figures [] [],
  HD.mkD ("number_at", none) "number_at" "number_at" s_number_at [] []]
def hdF1 : List He.DefD := [
  HD.mkD ("ends_of", none) "ends_of" "ends_of" s_ends_of [] [],
  HD.mkD ("held_by", none) "held_by" "held_by" s_held_by [] [],
  HD.mkD ("are_ends", none) "are_ends" "are_ends" s_are_ends [] [],
  HD.mkD ("shows_held", none) "shows_held" "shows_held" s_shows_held [] [],
  HD.mkD ("_law_cell_at", none) "_law_cell_at" "_law_cell_at" s_Lcell_at [] [],
  HD.mkD ("_law_box", none) "_law_box" "_law_box" s_Lbox [] [],
  HD.mkD ("_law_take", none) "_law_take" "_law_take" s_Ltake [] [],
  HD.mkD ("_law_of", none) "_law_of" "_law_of" s_Lof [] [],
  HD.mkD ("_law_same", none) "_law_same" "_law_same" s_Lsame [] [],
  HD.mkD ("_law_base", none) "_law_base" "_law_base" s_Lbase [] [],
  HD.mkD ("_law_most", none) "_law_most" "_law_most" s_Lmost [] [],
  HD.mkD ("_law_figures", none) "_law_figures" "_law_figures" s_Lfigures [] [],
  HD.mkD ("_law_row", none) "_law_row" "_law_row" s_Lrow [] [],
  HD.mkD ("_law_frac", none) "_law_frac" "_law_frac" s_Lfrac [] [],
  HD.mkD ("_law_plus", none) "_law_plus" "_law_plus" s_Lplus [] [],
  HD.mkD ("_law_less", none) "_law_less" "_law_less" s_Lless [] [],
  HD.mkD ("_law_times", none) "_law_times" "_law_times" s_Ltimes [] [],
  HD.mkD ("_law_below", none) "_law_below" "_law_below" s_Lbelow [] [],
  HD.mkD ("_law_power", none) "_law_power" "_law_power" s_Lpower [] [],
  HD.mkD ("_law_worth", none) "_law_worth" "_law_worth" s_Lworth [] [],
  HD.mkD ("_law_span", none) "_law_span" "_law_span" s_Lspan [] [],
  HD.mkD ("_law_over", none) "_law_over" "_law_over" s_Lover [] [],
  HD.mkD ("_law_kind", none) "_law_kind" "_law_kind" s_Lkind [] [],
  HD.mkD ("_law_many", none) "_law_many" "_law_many" s_Lmany [] [],
  HD.mkD ("_law_came", none) "_law_came" "_law_came" s_Lcame [] []]
def hdF2 : List He.DefD := [
  HD.mkD ("_law_sources", none) "_law_sources" "_law_sources" s_Lsources [] [],
  HD.mkD ("_law_choosing", none) "_law_choosing" "_law_choosing" s_Lchoosing [] [],
  HD.mkD ("_law_holds", none) "_law_holds" "_law_holds" s_Lholds [] [],
  HD.mkD ("_law_figures_right", none) "_law_figures_right" "_law_figures_right" s_Lfigures_right [] [],
  HD.mkD ("_law_corners", none) "_law_corners" "_law_corners" s_Lcorners [] [],
  HD.mkD ("_law_by_corners", none) "_law_by_corners" "_law_by_corners" s_Lby_corners [] [],
  HD.mkD ("_law_odd", none) "_law_odd" "_law_odd" s_Lodd [] [],
  HD.mkD ("_law_right", none) "_law_right" "_law_right" s_Lright [] [],
  HD.mkD ("law", none) "law" "law" s_law [] []]
def hdF : List (List He.DefD) := [hdF0, hdF1, hdF2]
def hdT : List He.Tab := [(fun K => He.ga K "BARE_KINDS", ["times", "least", "most", "choose"])]
def hdN0 : List PySem.Str := ["NOUGHT", "common", "frac", "plus", "minus", "times", "over", "is_below", "lesser", "greater", "power", "known_to", "whole_of", "worth_of", "tail_of", "span_of", "BARE_KINDS", "many_of", "weighed", "applied", "corners_of", "numbers_at", "reach_of", "raised", "figures_between"]
def hdN1 : List PySem.Str := ["right_figures", "number_at", "ends_of", "held_by", "are_ends", "shows_held", "_law_cell_at", "_law_box", "_law_take", "_law_of", "_law_same", "_law_base", "_law_most", "_law_figures", "_law_row", "_law_frac", "_law_plus", "_law_less", "_law_times", "_law_below", "_law_power", "_law_worth", "_law_span", "_law_over", "_law_kind"]
def hdN2 : List PySem.Str := ["_law_many", "_law_came", "_law_sources", "_law_choosing", "_law_holds", "_law_figures_right", "_law_corners", "_law_by_corners", "_law_odd", "_law_right"]
def hdN : List PySem.Str := hdN0 ++ (hdN1 ++ (hdN2))
abbrev hdR : PySem.W.OpenRow := PySem.W.OpenLaw.row PySem.Challenge.rw_firstfigures_k14_pairs_that_show_it_or_n
abbrev hdV : Program := PySem.W.view hdR.prog [65]
def hdA : List Addr := [3, 6, 4, 15, 22, 30, 37, 44, 51, 58, 65, 72, 79, 86, 93, 100, 107, 114, 121, 122, 129, 136, 143, 148, 153, 158, 165, 172, 179, 184, 191, 198, 203, 208, 215, 222, 229, 236, 241, 248, 255, 262, 269, 276, 283, 290, 297, 304, 311, 318, 325, 332, 337, 344, 351, 356, 363, 370, 375, 380, 385, 390, 395, 400, 21, 29, 23, 36, 43, 50, 57, 64, 71, 78, 85, 92, 99, 106, 113, 120, 128, 135, 142, 147, 152, 157, 164, 171, 178, 183, 190, 197, 202, 207, 214, 221, 228, 235, 240, 247, 254, 261, 268, 275, 282, 289, 296, 303, 310, 317, 324, 331, 336, 343, 350, 355, 362, 369, 374, 379, 384, 389, 394, 399]
abbrev hdK : PySem.W.Hook := HD.hookH hdA hdP hdF hdT
def hdO (s : PySem.W.SharedT) : HD.AlH := HD.obsHG hdA hdP hdF hdT (HandSHeadRun.getT s)
theorem hdO_eq (s : PySem.W.SharedT) : hdO s = hdK.obs s.abs := HD.obsHG_eq (HandSHeadRun.getT_eq s)
theorem hdEf (w : PySem.World) : HandSHeadRun.RunEq hdR hdV hdK hdO 20000 hdN (w.withFollow "special-get-raises" false) := by
  intro os
  kernel_rfl
theorem hdEt (w : PySem.World) : HandSHeadRun.RunEq hdR hdV hdK hdO 20000 hdN (w.withFollow "special-get-raises" true) := by
  intro os
  kernel_rfl
theorem hdE (w : PySem.World) : HandSHeadRun.RunEq hdR hdV hdK hdO 20000 hdN w := PySem.W.byRow2 "special-get-raises" (P := fun w => HandSHeadRun.RunEq hdR hdV hdK hdO 20000 hdN w) hdEf hdEt w
end HDR
/-! A layer over the hand layer: values as data (no addresses but of what changes), readings as predicates over data. -/
namespace DL
open PySem PySem.Spec PyProof.Rows L2

/-- data: what a value is, all through; obj: a thing that may change, by its place -/
inductive D where
  | non | bl (b : Bool) | int (i : Int) | str (s : Str) | ty (n : String) | lst (xs : List D) | ext (xs : List D) | tup (xs : List D) | obj (a : Addr)
  /-- a tuple made in the run -/
  | tq (xs : List D)

/-- a tuple as data: made in the run, or standing in the written part -/
def TupAt (K : PySem.W.Frag) (I : Hp) (a : Addr) (xs : List V) : Prop := I a = some (.tup xs) ∨
    ∃ (o : Obj) (its : Array Value) (n : Nat), K.lookup a = some o ∧ o.cls = .type "tuple" ∧ o.data = .seq its n ∧ its.size ≤ sizeLine ∧ Vals xs its.toList
mutual
def Rep (K : PySem.W.Frag) (I : Hp) : D → V → Prop
  | .non, v => v = .non
  | .bl b, v => v = .bl b
  | .int i, v => v = .int i
  | .str s, v => v = .str s
  | .ty n, v => v = .ty n
  | .lst ds, v => ∃ a xs, v = .ref a ∧ I a = some (.lst xs) ∧ RepL K I ds xs
  | .ext ds, v => ∃ a xs, v = .ref a ∧ SqL K I a xs ∧ RepL K I ds xs
  | .tup ds, v => ∃ a xs, v = .ref a ∧ TupAt K I a xs ∧ RepL K I ds xs
  | .obj a, v => v = .ref a
  | .tq ds, v => ∃ a xs, v = .ref a ∧ I a = some (.tup xs) ∧ RepL K I ds xs
def RepL (K : PySem.W.Frag) (I : Hp) : List D → List V → Prop
  | [], vs => vs = []
  | d :: ds, vs => ∃ v r, vs = v :: r ∧ Rep K I d v ∧ RepL K I ds r
end

/-- what a changing thing holds -/
inductive MO where
  | lst (xs : List D)
  | ins (C : Addr) (fs : List (Str × D))
  | dK (kvs : List (Key × D))
  | dZ (o : Obj) (vs : List (Key × V)) (kvs : List (Key × D))
  | dT (kvs : List (List Key × D))
  | dU (o : Obj) (vs : List (List Key × V)) (kvs : List (List Key × D))
  | exc (C : Addr) (d : Option Addr)
  | xdD (fs : List (Str × D))
  /-- a table of code objects: each that it tells bears the name q -/
  | tab (q : Str)
abbrev Store := Addr → Option MO
abbrev DSt := List (Option D)
def supd (S : Store) (a : Addr) (m : MO) : Store := fun b => if b = a then some m else S b
def RepF {κ : Type} (K : PySem.W.Frag) (I : Hp) : List (κ × D) → List (κ × V) → Prop
  | [], vs => vs = []
  | d :: ds, vs => ∃ v r, vs = (d.1, v) :: r ∧ Rep K I d.2 v ∧ RepF K I ds r
/-- at a: an exception of the class at C, d its dict -/
def exv (a C : Addr) (d : Option Addr) : HO := .ext fun h => ∃ (oe : Obj) (xs : Array Value), h.get? a = some oe ∧ (oe.cls = .ref C ∧ oe.dict = d) ∧ oe.data = .fields xs
def RepM (K : PySem.W.Frag) (I H : Hp) (a : Addr) : MO → Prop
  | .lst ds => ∃ xs, H a = some (.lst xs) ∧ RepL K I ds xs
  | .ins C fs => ∃ dx vs, H a = some (.ins C dx vs) ∧ H dx = some (.own a) ∧ RepF K I fs vs
  | .dK kvs => ∃ vs, H a = some (.dK vs) ∧ RepF K I kvs vs
  | .dZ o vs kvs => H a = some (.frz o (.dK vs)) ∧ RepF K I kvs vs
  | .dT kvs => ∃ vs, H a = some (.dT vs) ∧ RepF K I kvs vs
  | .dU o vs kvs => H a = some (.frz o (.dT vs)) ∧ RepF K I kvs vs
  | .exc C d => H a = some (exv a C d)
  | .xdD fs => ∃ vs, H a = some (.xd vs) ∧ RepF K I fs vs
  | .tab q => ∃ ps : Array Value, H a = some (.tbl ps) ∧ TriplesOk ps.toList ∧ ∀ (pos : Pos) (cv : Value), codeAmong pos ps.toList = some cv → ∃ c, cv = .ref c ∧ I c = some (LamX.CodeO c q)
/-- what is hidden is no instance's own dict, no tuple -/
def NoHid (o : HO) : Prop := (∀ y, o ≠ .own y) ∧ ∀ ys, o ≠ .tup ys

section
variable {K : PySem.W.Frag} {I I' I'' H H' F : Hp} {S S' : Store}
theorem tupAt_same {H H' : Hp} {a : Addr} {xs : List V} (e : Same H H') (h : TupAt K H a xs) : TupAt K H' a xs := by
  rcases h with h | h
  · exact .inl (e _ _ h)
  · exact .inr h
theorem sqT_same {H H' : Hp} {a : Addr} {xs : List V} (e : Same H H') (h : TupAt K H a xs) : SqT K H' a xs := by
  rcases h with h | h
  · exact .inl (.inl (e _ _ h))
  · exact .inr h
mutual
theorem Rep.mono (e : Same I I') : ∀ (d : D) (v : V), Rep K I d v → Rep K I' d v
  | .non, _, h => by simpa only [Rep] using h
  | .bl _, _, h => by simpa only [Rep] using h
  | .int _, _, h => by simpa only [Rep] using h
  | .str _, _, h => by simpa only [Rep] using h
  | .ty _, _, h => by simpa only [Rep] using h
  | .obj _, _, h => by simpa only [Rep] using h
  | .lst ds, v, h => by
    simp only [Rep] at h ⊢
    obtain ⟨a, xs, rfl, hs, hr⟩ := h
    exact ⟨a, xs, rfl, e _ _ hs, RepL.mono e ds xs hr⟩
  | .ext ds, v, h => by
    simp only [Rep] at h ⊢
    obtain ⟨a, xs, rfl, hs, hr⟩ := h
    exact ⟨a, xs, rfl, e.seq hs, RepL.mono e ds xs hr⟩
  | .tup ds, v, h => by
    simp only [Rep] at h ⊢
    obtain ⟨a, xs, rfl, hs, hr⟩ := h
    exact ⟨a, xs, rfl, tupAt_same e hs, RepL.mono e ds xs hr⟩
  | .tq ds, v, h => by
    simp only [Rep] at h ⊢
    obtain ⟨a, xs, rfl, hs, hr⟩ := h
    exact ⟨a, xs, rfl, e _ _ hs, RepL.mono e ds xs hr⟩
theorem RepL.mono (e : Same I I') : ∀ (ds : List D) (vs : List V), RepL K I ds vs → RepL K I' ds vs
  | [], _, h => by simpa only [RepL] using h
  | d :: ds, vs, h => by
    simp only [RepL] at h ⊢
    obtain ⟨v, r, rfl, h1, h2⟩ := h
    exact ⟨v, r, rfl, Rep.mono e d v h1, RepL.mono e ds r h2⟩
end
theorem RepF.mono {κ : Type} (e : Same I I') : ∀ (ds : List (κ × D)) (vs : List (κ × V)), RepF K I ds vs → RepF K I' ds vs
  | [], _, h => by simpa only [RepF] using h
  | d :: ds, vs, h => by
    simp only [RepF] at h ⊢
    obtain ⟨v, r, rfl, h1, h2⟩ := h
    exact ⟨v, r, rfl, Rep.mono e d.2 v h1, RepF.mono e ds r h2⟩
theorem RepL.len : ∀ {ds : List D} {vs : List V}, RepL K I ds vs → vs.length = ds.length
  | [], _, h => by
    simp only [RepL] at h
    subst h; rfl
  | d :: ds, vs, h => by
    simp only [RepL] at h
    obtain ⟨v, r, rfl, h1, h2⟩ := h
    simp [RepL.len h2]
theorem RepL.get : ∀ {ds : List D} {vs : List V} {i : Nat} {d : D}, RepL K I ds vs → ds[i]? = some d → ∃ v, vs[i]? = some v ∧ Rep K I d v
  | [], _, _, _, _, e => by simp at e
  | d :: ds, vs, 0, x, h, e => by
    simp only [RepL] at h
    obtain ⟨v, r, rfl, h1, h2⟩ := h
    simp at e; subst e
    exact ⟨v, rfl, h1⟩
  | d :: ds, vs, i + 1, x, h, e => by
    simp only [RepL] at h
    obtain ⟨v, r, rfl, h1, h2⟩ := h
    obtain ⟨w, e1, e2⟩ := RepL.get (i := i) h2 (by simpa using e)
    exact ⟨w, by simpa using e1, e2⟩
theorem RepL.app : ∀ {ds es : List D} {vs ws : List V}, RepL K I ds vs → RepL K I es ws → RepL K I (ds ++ es) (vs ++ ws)
  | [], _, _, _, h, h' => by
    simp only [RepL] at h
    subst h; simpa using h'
  | d :: ds, es, vs, ws, h, h' => by
    simp only [RepL] at h
    obtain ⟨v, r, rfl, h1, h2⟩ := h
    simp only [List.cons_append, RepL]
    exact ⟨v, r ++ ws, rfl, h1, h2.app h'⟩
theorem RepL.nil : RepL K I [] [] := by simp only [RepL]
theorem RepL.cons {d : D} {v : V} {ds : List D} {vs : List V} (h : Rep K I d v) (h' : RepL K I ds vs) : RepL K I (d :: ds) (v :: vs) := by
  simp only [RepL]
  exact ⟨v, vs, rfl, h, h'⟩
theorem RepL.one {d : D} {v : V} (h : Rep K I d v) : RepL K I [d] [v] := RepL.cons h RepL.nil
theorem RepL.set : ∀ {ds : List D} {vs : List V} {d : D} {v : V} (i : Nat), RepL K I ds vs → Rep K I d v → RepL K I (ds.set i d) (vs.set i v)
  | [], _, _, _, _, h, _ => by
    simp only [RepL] at h
    subst h; simp only [List.set_nil]; exact RepL.nil
  | d :: ds, vs, x, y, 0, h, h' => by
    simp only [RepL] at h
    obtain ⟨v, r, rfl, h1, h2⟩ := h
    exact RepL.cons h' h2
  | d :: ds, vs, x, y, i + 1, h, h' => by
    simp only [RepL] at h
    obtain ⟨v, r, rfl, h1, h2⟩ := h
    exact RepL.cons h1 (h2.set i h')
theorem RepL.drop : ∀ {ds : List D} {vs : List V} (n : Nat), RepL K I ds vs → RepL K I (ds.drop n) (vs.drop n)
  | _, _, 0, h => by simpa using h
  | [], _, n + 1, h => by
    simp only [RepL] at h
    subst h; simp only [List.drop_nil]; exact RepL.nil
  | d :: ds, vs, n + 1, h => by
    simp only [RepL] at h
    obtain ⟨v, r, rfl, h1, h2⟩ := h
    simpa using h2.drop n
theorem RepL.take : ∀ {ds : List D} {vs : List V} (n : Nat), RepL K I ds vs → RepL K I (ds.take n) (vs.take n)
  | _, _, 0, h => by simp only [List.take_zero]; exact RepL.nil
  | [], _, n + 1, h => by
    simp only [RepL] at h
    subst h; simp only [List.take_nil]; exact RepL.nil
  | d :: ds, vs, n + 1, h => by
    simp only [RepL] at h
    obtain ⟨v, r, rfl, h1, h2⟩ := h
    simp only [List.take_succ_cons]
    exact RepL.cons h1 (h2.take n)
theorem RepL.inv1 {d : D} {vs : List V} (h : RepL K I [d] vs) : ∃ v, vs = [v] ∧ Rep K I d v := by
  simp only [RepL] at h
  obtain ⟨v, r, rfl, h1, rfl⟩ := h
  exact ⟨v, rfl, h1⟩
theorem RepL.inv2 {d e : D} {vs : List V} (h : RepL K I [d, e] vs) : ∃ v w, vs = [v, w] ∧ Rep K I d v ∧ Rep K I e w := by
  simp only [RepL] at h
  obtain ⟨v, r, rfl, h1, w, r', rfl, h2, rfl⟩ := h
  exact ⟨v, w, rfl, h1, h2⟩
theorem rep_int {i : Int} : Rep K I (.int i) (.int i) := by simp only [Rep]
theorem rep_bl {b : Bool} : Rep K I (.bl b) (.bl b) := by simp only [Rep]
theorem rep_str {s : Str} : Rep K I (.str s) (.str s) := by simp only [Rep]
theorem rep_non : Rep K I .non .non := by simp only [Rep]
theorem Rep.int_of {i : Int} {v : V} (h : Rep K I (.int i) v) : v = .int i := by simpa only [Rep] using h
theorem Rep.bl_of {i : Bool} {v : V} (h : Rep K I (.bl i) v) : v = .bl i := by simpa only [Rep] using h
theorem Rep.str_of {i : Str} {v : V} (h : Rep K I (.str i) v) : v = .str i := by simpa only [Rep] using h
theorem Rep.non_of {v : V} (h : Rep K I .non v) : v = .non := by simpa only [Rep] using h
theorem Rep.obj_of {a : Addr} {v : V} (h : Rep K I (.obj a) v) : v = .ref a := by simpa only [Rep] using h
theorem Rep.lst_of {ds : List D} {v : V} (h : Rep K I (.lst ds) v) : ∃ a xs, v = .ref a ∧ I a = some (.lst xs) ∧ RepL K I ds xs := by simpa only [Rep] using h
theorem Rep.ext_of {ds : List D} {v : V} (h : Rep K I (.ext ds) v) : ∃ a xs, v = .ref a ∧ SqL K I a xs ∧ RepL K I ds xs := by simpa only [Rep] using h
theorem Rep.tup_of {ds : List D} {v : V} (h : Rep K I (.tup ds) v) : ∃ a xs, v = .ref a ∧ TupAt K I a xs ∧ RepL K I ds xs := by simpa only [Rep] using h
theorem Rep.tq_of {ds : List D} {v : V} (h : Rep K I (.tq ds) v) : ∃ a xs, v = .ref a ∧ I a = some (.tup xs) ∧ RepL K I ds xs := by simpa only [Rep] using h

/-! ### the heap behind the data -/
structure Ok (K : PySem.W.Frag) (I : Hp) (S : Store) (F H : Hp) : Prop where
  i : ∀ a o, I a = some o → H a = some o
  s : ∀ a m, S a = some m → I a = none ∧ RepM K I H a m
  f : ∀ a o, F a = some o → H a = some o ∧ I a = none ∧ S a = none ∧ NoHid o

theorem RepM.there {a : Addr} {m : MO} (h : RepM K I H a m) : ∃ o, H a = some o ∧ ∀ y, o ≠ .own y := by
  cases m with
  | lst ds => obtain ⟨xs, e, _⟩ := h; exact ⟨_, e, fun y z => by cases z⟩
  | ins C fs => obtain ⟨dx, vs, e, _⟩ := h; exact ⟨_, e, fun y z => by cases z⟩
  | dK kvs => obtain ⟨vs, e, _⟩ := h; exact ⟨_, e, fun y z => by cases z⟩
  | dZ o vs kvs => exact ⟨_, h.1, fun y z => by cases z⟩
  | dT kvs => obtain ⟨vs, e, _⟩ := h; exact ⟨_, e, fun y z => by cases z⟩
  | dU o vs kvs => exact ⟨_, h.1, fun y z => by cases z⟩
  | exc C d => exact ⟨_, h, fun y z => by unfold exv at z; cases z⟩
  | xdD fs => obtain ⟨vs, e, _⟩ := h; exact ⟨_, e, fun y z => by cases z⟩
  | tab q => obtain ⟨ps, e, _⟩ := h; exact ⟨_, e, fun y z => by cases z⟩
theorem RepM.mono {a : Addr} {m : MO} (h : RepM K I H a m) (e : Same I I') (ha : H' a = H a) (hd : ∀ dx, H dx = some (.own a) → H' dx = some (.own a)) : RepM K I' H' a m := by
  cases m with
  | lst ds => obtain ⟨xs, q, r⟩ := h; exact ⟨xs, ha.trans q, r.mono e⟩
  | ins C fs => obtain ⟨dx, vs, q, q2, r⟩ := h; exact ⟨dx, vs, ha.trans q, hd dx q2, r.mono e⟩
  | dK kvs => obtain ⟨vs, q, r⟩ := h; exact ⟨vs, ha.trans q, r.mono e⟩
  | dZ o vs kvs => exact ⟨ha.trans h.1, h.2.mono e⟩
  | dT kvs => obtain ⟨vs, q, r⟩ := h; exact ⟨vs, ha.trans q, r.mono e⟩
  | dU o vs kvs => exact ⟨ha.trans h.1, h.2.mono e⟩
  | exc C d => exact ha.trans h
  | xdD fs => obtain ⟨vs, q, r⟩ := h; exact ⟨vs, ha.trans q, r.mono e⟩
  | tab q => obtain ⟨ps, q, t, r⟩ := h; exact ⟨ps, ha.trans q, t, fun pos cv hc => let ⟨c, e1, e2⟩ := r pos cv hc; ⟨c, e1, e _ _ e2⟩⟩
theorem Ok.same (h : Ok K I S F H) : Same I H := h.i
theorem Ok.freshI (h : Ok K I S F H) {p : Addr} (n : H p = none) : I p = none := by
  cases e : I p with
  | none => rfl
  | some o => rw [h.i p o e] at n; cases n
theorem Ok.freshS (h : Ok K I S F H) {p : Addr} (n : H p = none) : S p = none := by
  cases e : S p with
  | none => rfl
  | some o =>
    obtain ⟨_, q, _⟩ := (h.s p o e).2.there
    rw [q] at n; cases n
theorem Ok.freshF (h : Ok K I S F H) {p : Addr} (n : H p = none) : F p = none := by
  cases e : F p with
  | none => rfl
  | some o => rw [(h.f p o e).1] at n; cases n
theorem same_new {p : Addr} {o : HO} (n : I p = none) : Same I (upd I p o) := fun b x e => by
  rw [upd_ne (ne_of_none e n)]
  exact e
/-- a new thing that never changes -/
theorem Ok.newI (h : Ok K I S F H) {p : Addr} {o : HO} (n : H p = none) : Ok K (upd I p o) S F (upd H p o) := by
  refine ⟨fun a x e => ?_, fun a m e => ?_, fun a x e => ?_⟩
  · by_cases q : a = p
    · subst q; rw [upd_same] at e ⊢; exact e
    · rw [upd_ne q] at e ⊢; exact h.i a x e
  · obtain ⟨h1, h2⟩ := h.s a m e
    obtain ⟨x, h3, _⟩ := h2.there
    have ne : a ≠ p := ne_of_none h3 n
    refine ⟨by rw [upd_ne ne]; exact h1, h2.mono (same_new (h.freshI n)) (upd_ne ne) fun dx q => ?_⟩
    rw [upd_ne (ne_of_none q n)]; exact q
  · obtain ⟨h1, h2, h3, h4⟩ := h.f a x e
    have ne : a ≠ p := ne_of_none h1 n
    exact ⟨by rw [upd_ne ne]; exact h1, by rw [upd_ne ne]; exact h2, h3, h4⟩
/-- a new list that may change -/
theorem Ok.newM (h : Ok K I S F H) {p : Addr} {xs : List V} {ds : List D} (n : H p = none) (r : RepL K I ds xs) : Ok K I (supd S p (.lst ds)) F (upd H p (.lst xs)) := by
  refine ⟨fun a x e => ?_, fun a m e => ?_, fun a x e => ?_⟩
  · rw [upd_ne (ne_of_none (h.i a x e) n)]; exact h.i a x e
  · unfold supd at e
    by_cases q : a = p
    · subst q
      rw [if_pos rfl] at e; cases e
      exact ⟨h.freshI n, xs, upd_same, r⟩
    · rw [if_neg q] at e
      obtain ⟨h1, h2⟩ := h.s a m e
      refine ⟨h1, h2.mono (Same.refl I) (upd_ne q) fun dx q => ?_⟩
      rw [upd_ne (ne_of_none q n)]; exact q
  · obtain ⟨h1, h2, h3, h4⟩ := h.f a x e
    have ne : a ≠ p := ne_of_none h1 n
    exact ⟨by rw [upd_ne ne]; exact h1, h2, by unfold supd; rw [if_neg ne]; exact h3, h4⟩
/-- a new thing that is hidden -/
theorem Ok.newF (h : Ok K I S F H) {p : Addr} {o : HO} (n : H p = none) (no : NoHid o) : Ok K I S (upd F p o) (upd H p o) := by
  refine ⟨fun a x e => ?_, fun a m e => ?_, fun a x e => ?_⟩
  · rw [upd_ne (ne_of_none (h.i a x e) n)]; exact h.i a x e
  · obtain ⟨h1, h2⟩ := h.s a m e
    obtain ⟨x, h3, _⟩ := h2.there
    have ne : a ≠ p := ne_of_none h3 n
    refine ⟨h1, h2.mono (Same.refl I) (upd_ne ne) fun dx q => ?_⟩
    rw [upd_ne (ne_of_none q n)]; exact q
  · by_cases q : a = p
    · subst q
      rw [upd_same] at e ⊢; cases e
      exact ⟨rfl, h.freshI n, h.freshS n, no⟩
    · rw [upd_ne q] at e
      obtain ⟨h1, h2, h3, h4⟩ := h.f a x e
      exact ⟨by rw [upd_ne q]; exact h1, h2, h3, h4⟩
/-- a changing list changes -/
theorem Ok.write (h : Ok K I S F H) {p : Addr} {m : MO} {o : HO} {m' : MO} (e : S p = some m) (no : ∀ y, H p ≠ some (.own y)) (r : RepM K I (upd H p o) p m') : Ok K I (supd S p m') F (upd H p o) := by
  obtain ⟨i0, m0⟩ := h.s p m e
  refine ⟨fun a x q => ?_, fun a m q => ?_, fun a x q => ?_⟩
  · rw [upd_ne (ne_of_none q i0)]; exact h.i a x q
  · unfold supd at q
    by_cases z : a = p
    · subst z
      rw [if_pos rfl] at q; cases q
      exact ⟨i0, r⟩
    · rw [if_neg z] at q
      obtain ⟨h1, h2⟩ := h.s a m q
      refine ⟨h1, h2.mono (Same.refl I) (upd_ne z) fun dx q => ?_⟩
      by_cases zz : dx = p
      · subst zz; exact absurd q (no _)
      · rw [upd_ne zz]; exact q
  · obtain ⟨h1, h2, h3, h4⟩ := h.f a x q
    have ne : a ≠ p := fun z => by subst z; rw [h3] at e; cases e
    exact ⟨by rw [upd_ne ne]; exact h1, h2, by unfold supd; rw [if_neg ne]; exact h3, h4⟩
theorem Ok.writeL (h : Ok K I S F H) {p : Addr} {m : MO} {xs : List V} {ds : List D} (e : S p = some m) (r : RepL K I ds xs) : Ok K I (supd S p (.lst ds)) F (upd H p (.lst xs)) := by
  refine h.write e (fun y z => ?_) ⟨xs, upd_same, r⟩
  obtain ⟨o, q, no⟩ := (h.s p m e).2.there
  rw [q] at z
  exact no y (Option.some.inj z)
/-- a hidden thing changes -/
theorem Ok.writeF (h : Ok K I S F H) {p : Addr} {o o' : HO} (e : F p = some o) (no : NoHid o') : Ok K I S (upd F p o') (upd H p o') := by
  obtain ⟨f1, f2, f3, f4⟩ := h.f p o e
  refine ⟨fun a x q => ?_, fun a m q => ?_, fun a x q => ?_⟩
  · rw [upd_ne (ne_of_none q f2)]; exact h.i a x q
  · obtain ⟨h1, h2⟩ := h.s a m q
    have ne : a ≠ p := fun z => by subst z; rw [f3] at q; cases q
    refine ⟨h1, h2.mono (Same.refl I) (upd_ne ne) fun dx q => ?_⟩
    by_cases zz : dx = p
    · subst zz
      rw [f1] at q
      exact absurd (Option.some.inj q) (f4.1 _)
    · rw [upd_ne zz]; exact q
  · by_cases z : a = p
    · subst z
      rw [upd_same] at q ⊢; cases q
      exact ⟨rfl, f2, f3, no⟩
    · rw [upd_ne z] at q
      obtain ⟨h1, h2, h3, h4⟩ := h.f a x q
      exact ⟨by rw [upd_ne z]; exact h1, h2, h3, h4⟩
/-- a hidden thing is laid with what never changes -/
theorem Ok.showF (h : Ok K I S F H) {p : Addr} {o : HO} (e : F p = some o) : Ok K (upd I p o) S (fun b => if b = p then none else F b) H := by
  obtain ⟨f1, f2, f3, f4⟩ := h.f p o e
  refine ⟨fun a x q => ?_, fun a m q => ?_, fun a x q => ?_⟩
  · by_cases z : a = p
    · subst z; rw [upd_same] at q; cases q; exact f1
    · rw [upd_ne z] at q; exact h.i a x q
  · obtain ⟨h1, h2⟩ := h.s a m q
    have ne : a ≠ p := fun z => by subst z; rw [f3] at q; cases q
    exact ⟨by rw [upd_ne ne]; exact h1, h2.mono (same_new f2) rfl fun _ q => q⟩
  · by_cases z : a = p
    · rw [if_pos z] at q; cases q
    · rw [if_neg z] at q
      obtain ⟨h1, h2, h3, h4⟩ := h.f a x q
      exact ⟨h1, by rw [upd_ne z]; exact h2, h3, h4⟩
theorem rep_new_lst {p : Addr} {xs : List V} {ds : List D} (n : I p = none) (r : RepL K I ds xs) : Rep K (upd I p (.lst xs)) (.lst ds) (.ref p) := by
  simp only [Rep]
  exact ⟨p, xs, rfl, upd_same, r.mono (same_new n)⟩
theorem rep_new_tup {p : Addr} {xs : List V} {ds : List D} (n : I p = none) (r : RepL K I ds xs) : Rep K (upd I p (.tup xs)) (.tup ds) (.ref p) := by
  simp only [Rep]
  exact ⟨p, xs, rfl, .inl upd_same, r.mono (same_new n)⟩
end

/-! ### slots -/
def RepS (K : PySem.W.Frag) (I : Hp) (ρ : DSt) (σ : L2.St) : Prop := ρ.length = σ.length ∧ ∀ (i : Nat) (d : D), ρ[i]? = some (some d) → ∃ v, σ[i]? = some (some v) ∧ Rep K I d v
section
variable {K : PySem.W.Frag} {I I' : Hp} {ρ : DSt} {σ : L2.St}
theorem RepS.mono (h : RepS K I ρ σ) (e : Same I I') : RepS K I' ρ σ := ⟨h.1, fun i d q => let ⟨v, a, b⟩ := h.2 i d q; ⟨v, a, b.mono e⟩⟩
theorem RepS.set (h : RepS K I ρ σ) {d : D} {v : V} (i : Nat) (r : Rep K I d v) : RepS K I (ρ.set i (some d)) (σ.set i (some v)) := by
  refine ⟨by simp [h.1], fun j x q => ?_⟩
  by_cases hj : i = j
  · subst hj
    by_cases hi : i < ρ.length
    · rw [List.getElem?_set_self hi] at q
      cases q
      exact ⟨v, by rw [List.getElem?_set_self (by rw [← h.1]; exact hi)], r⟩
    · rw [List.getElem?_eq_none (by simpa using hi)] at q; cases q
  · rw [List.getElem?_set_ne hj] at q
    obtain ⟨w, a, b⟩ := h.2 j x q
    exact ⟨w, by rw [List.getElem?_set_ne hj]; exact a, b⟩
theorem RepS.unset (h : RepS K I ρ σ) (i : Nat) : RepS K I (ρ.set i none) (σ.set i none) := by
  refine ⟨by simp [h.1], fun j x q => ?_⟩
  by_cases hj : i = j
  · subst hj
    by_cases hi : i < ρ.length
    · rw [List.getElem?_set_self hi] at q; cases q
    · rw [List.getElem?_eq_none (by simpa using hi)] at q; cases q
  · rw [List.getElem?_set_ne hj] at q
    obtain ⟨w, a, b⟩ := h.2 j x q
    exact ⟨w, by rw [List.getElem?_set_ne hj]; exact a, b⟩
def dwipe (ρ : DSt) : List Nat → DSt
  | [] => ρ
  | v :: vs => (dwipe ρ vs).set v none
theorem RepS.wipe (h : RepS K I ρ σ) : ∀ vs : List Nat, RepS K I (dwipe ρ vs) (L2.wipe σ vs)
  | [] => h
  | v :: vs => (h.wipe vs).unset v
theorem repS_start {N : List Str} {ds : List D} {vs : List V} (r : RepL K I ds vs) : RepS K I (ds.map some ++ List.replicate (N.length - ds.length) none) (L2.start N vs) := by
  have l := r.len
  refine ⟨by simp [L2.start, l], fun i d q => ?_⟩
  by_cases hi : i < ds.length
  · rw [List.getElem?_append_left (by simpa using hi)] at q
    rw [List.getElem?_map] at q
    cases e : ds[i]? with
    | none => rw [e] at q; cases q
    | some x =>
      rw [e] at q
      cases q
      obtain ⟨v, e1, e2⟩ := r.get e
      refine ⟨v, ?_, e2⟩
      unfold L2.start
      rw [List.getElem?_append_left (by simpa [l] using hi), List.getElem?_map, e1]
      rfl
  · rw [List.getElem?_append_right (by simpa using hi)] at q
    rw [List.getElem?_replicate] at q
    split at q <;> cases q
end
end DL

namespace DL
open PySem PySem.Spec PyProof.Rows L2

/-! ### readings over data -/
abbrev DE := DSt → Store → (D → Store → Prop) → Prop
abbrev DT := DSt → Store → (Bool → Store → Prop) → Prop
abbrev DA := DSt → Store → (List D → Store → Prop) → Prop
/-- what is walked: its data, what must stay as it is meanwhile -/
abbrev DI := DSt → Store → (List D → Option (Store → Prop) → Store → Prop) → Prop
structure DEnds where
  nx : DSt → Store → Prop
  rt : D → Store → Prop
  bk : DSt → Store → Prop := fun _ _ => False
  ct : DSt → Store → Prop := fun _ _ => False
  /-- an exception: its class's number, the place of its dict -/
  xc : Nat → Option Addr → DSt → Store → Prop := fun _ _ _ _ => False
abbrev DS := DEnds → DSt → Store → Prop
abbrev DSp := List D → Store → (D → Store → Prop) → Prop

section
variable (K : PySem.W.Frag)
def Sees (I F : Hp) (P : D → Store → Prop) (Q : VK) : Prop := ∀ x S' v I' H', P x S' → Same I I' → Ok K I' S' F H' → Rep K I' x v → Q v H'
def SeesT (I F : Hp) (P : Bool → Store → Prop) (Q : Bool → Hp → Prop) : Prop := ∀ b S' I' H', P b S' → Same I I' → Ok K I' S' F H' → Q b H'
def SeesA (I F : Hp) (P : List D → Store → Prop) (Q : List V → Hp → Prop) : Prop := ∀ xs S' vs I' H', P xs S' → Same I I' → Ok K I' S' F H' → RepL K I' xs vs → Q vs H'
def SeesS (I F : Hp) (P : DSt → Store → Prop) (Q : L2.St → Hp → Prop) : Prop := ∀ ρ S' σ I' H', P ρ S' → Same I I' → Ok K I' S' F H' → RepS K I' ρ σ → Q σ H'
def upE (d : DE) : TE := fun σ H Q => ∃ ρ I S F P, RepS K I ρ σ ∧ Ok K I S F H ∧ d ρ S P ∧ Sees K I F P Q
def upT (d : DT) : TT := fun σ H Q => ∃ ρ I S F P, RepS K I ρ σ ∧ Ok K I S F H ∧ d ρ S P ∧ SeesT K I F P Q
def upA (d : DA) : TA := fun σ H Q => ∃ ρ I S F P, RepS K I ρ σ ∧ Ok K I S F H ∧ d ρ S P ∧ SeesA K I F P Q
structure SeesD (I F : Hp) (DD : DEnds) (E : Ends) : Prop where
  nx : SeesS K I F DD.nx E.nx
  rt : Sees K I F DD.rt E.rt
  bk : SeesS K I F DD.bk E.bk
  ct : SeesS K I F DD.ct E.ct
def upS (d : DS) : TS := fun E σ H => ∃ ρ I S F DD, RepS K I ρ σ ∧ Ok K I S F H ∧ d DD ρ S ∧ SeesD K I F DD E
/-- a def's promise -/
def upSp (d : DSp) : Sp := fun vs H Q _ => ∃ ds I S F P, RepL K I ds vs ∧ Ok K I S F H ∧ d ds S P ∧ Sees K I F P Q
end
section
variable {K : PySem.W.Frag} {I I' F : Hp}
theorem Sees.mono {P : D → Store → Prop} {Q : VK} (h : Sees K I F P Q) (e : Same I I') : Sees K I' F P Q := fun x S' v I2 H' p e2 ok r => h x S' v I2 H' p (e.trans e2) ok r
theorem SeesT.mono {P : Bool → Store → Prop} {Q : Bool → Hp → Prop} (h : SeesT K I F P Q) (e : Same I I') : SeesT K I' F P Q := fun x S' I2 H' p e2 ok => h x S' I2 H' p (e.trans e2) ok
theorem SeesA.mono {P : List D → Store → Prop} {Q : List V → Hp → Prop} (h : SeesA K I F P Q) (e : Same I I') : SeesA K I' F P Q := fun x S' v I2 H' p e2 ok r => h x S' v I2 H' p (e.trans e2) ok r
theorem SeesS.mono {P : DSt → Store → Prop} {Q : L2.St → Hp → Prop} (h : SeesS K I F P Q) (e : Same I I') : SeesS K I' F P Q := fun x S' v I2 H' p e2 ok r => h x S' v I2 H' p (e.trans e2) ok r
theorem SeesD.mono {DD : DEnds} {E : Ends} (h : SeesD K I F DD E) (e : Same I I') : SeesD K I' F DD E := ⟨h.nx.mono e, h.rt.mono e, h.bk.mono e, h.ct.mono e⟩
end

abbrev JE (X : Cx) (e : Expr) (d : DE) : Prop := PE X e (upE X.K d)
abbrev JT (X : Cx) (e : Expr) (d : DT) : Prop := PT X e (upT X.K d)
abbrev JW (X : Cx) (e : Expr) (d : DT) : Prop := PW X e (upT X.K d)
abbrev JA (X : Cx) (es : List Expr) (d : DA) : Prop := PA X es (upA X.K d)
abbrev JS (X : Cx) (st : Stmt) (d : DS) : Prop := PS X st (upS X.K d)
abbrev JSs (X : Cx) (st : List Stmt) (d : DS) : Prop := PSs X st (upS X.K d)

theorem je_of {X : Cx} {e : Expr} {t u : TE} (h : PE X e t) (i : ∀ σ H Q, u σ H Q → t σ H Q) : PE X e u := ⟨fun pins s σ H Q I q => h.run pins s σ H Q I (i _ _ _ q)⟩
theorem jt_of {X : Cx} {e : Expr} {t u : TT} (h : PT X e t) (i : ∀ σ H Q, u σ H Q → t σ H Q) : PT X e u := ⟨fun pins s σ H Q I q => h.run pins s σ H Q I (i _ _ _ q)⟩
theorem jw_of {X : Cx} {e : Expr} {t u : TT} (h : PW X e t) (i : ∀ σ H Q, u σ H Q → t σ H Q) : PW X e u := ⟨fun wh pins s σ H Q I q => h.run wh pins s σ H Q I (i _ _ _ q)⟩
theorem ja_of {X : Cx} {e : List Expr} {t u : TA} (h : PA X e t) (i : ∀ σ H Q, u σ H Q → t σ H Q) : PA X e u := ⟨fun pos pins s σ H Q I q => h.run pos pins s σ H Q I (i _ _ _ q)⟩
theorem js_of {X : Cx} {e : Stmt} {t u : TS} (h : PS X e t) (i : ∀ D σ H, u D σ H → t D σ H) : PS X e u := ⟨fun pins s σ H Q I q => h.run pins s σ H Q I (i _ _ _ q)⟩
theorem jss_of {X : Cx} {e : List Stmt} {t u : TS} (h : PSs X e t) (i : ∀ D σ H, u D σ H → t D σ H) : PSs X e u := ⟨fun pins s σ H Q I q => h.run pins s σ H Q I (i _ _ _ q)⟩

/-! ### names, constants -/
def dVar (i : Nat) : DE := fun ρ S P => match ρ[i]? with
  | some (some x) => P x S
  | _ => False
def dC (x : D) : DE := fun _ S P => P x S
section
variable {X : Cx} {pos : Pos}
theorem je_var (i : Nat) {x : Str} (hN : X.N[i]? = some x := by rfl) (hv : Vis X.env.scope x := by first | exact Or.inl rfl | exact Or.inr (Or.inl rfl) | exact Or.inr (Or.inr rfl)) (hd : (x == ("__debug__" : Str)) = false := by decide)
    (hcd : (x == ("__classdict__" : Str)) = false := by decide) : JE X (.Name x pos) (dVar i) :=
  je_of (pe_var hN hv hd hcd) fun σ H Q h0_ => El54 h0_ fun ρ I S F P rs ok h q => by
    unfold dVar at h
    split at h
    · rename_i x e
      obtain ⟨v, e1, r⟩ := rs.2 i x e
      exact ⟨v, e1, q _ _ _ _ _ h (Same.refl I) ok r⟩
    · exact h.elim
theorem je_c {e : Expr} {x : D} {v : V} (h : PE X e (tC v)) (r : ∀ I, Rep X.K I x v) : JE X e (dC x) :=
  je_of h fun σ H Q h0_ => El54 h0_ fun ρ I S F P rs ok h q => q _ _ _ _ _ h (Same.refl I) ok (r I)
theorem je_int {i : Int} {j} : JE X (.Constant (.int i) j pos) (dC (.int i)) := je_c pe_int fun _ => rep_int
theorem je_bl {b : Bool} {j} : JE X (.Constant (.bool b) j pos) (dC (.bl b)) := je_c pe_bl fun _ => rep_bl
theorem je_non {j} : JE X (.Constant .none j pos) (dC .non) := je_c pe_non fun _ => rep_non
theorem je_str {x : Str} {j} : JE X (.Constant (.str x) j pos) (dC (.str x)) := je_c pe_str fun _ => rep_str
/-- a built-in class as a value -/
theorem je_ty {x : Str} {n : String} (hg : Gl X x) (hm : X.mg x = none) (hv : bootBuiltins x = some (.type n)) (hn : x ≠ "__name__" := by decide) (hd : (x == ("__debug__" : Str)) = false := by decide) : JE X (.Name x pos) (dC (.ty n)) :=
  je_c (pe_bltn (v := .ty n) hg hm hv rfl hn hd) fun _ => by simp only [Rep]

/-! ### operators -/
abbrev D2 := D → D → Store → (D → Store → Prop) → Prop
abbrev D1 := D → Store → (D → Store → Prop) → Prop
def dOp (o : D2) (a b : DE) : DE := fun ρ S P => a ρ S fun x S1 => b ρ S1 fun y S2 => o x y S2 P
def dUn (o : D1) (a : DE) : DE := fun ρ S P => a ρ S fun x S1 => o x S1 P
def Imp2 (K : PySem.W.Frag) (r : R2) (o : D2) : Prop := ∀ x y v w I S F H P Q, Ok K I S F H → Rep K I x v → Rep K I y w → o x y S P → Sees K I F P Q → r v w H Q
def Imp1 (K : PySem.W.Frag) (r : V → Hp → VK → Prop) (o : D1) : Prop := ∀ x v I S F H P Q, Ok K I S F H → Rep K I x v → o x S P → Sees K I F P Q → r v H Q
variable {a b : Expr} {da db : DE}
theorem up_op {K : PySem.W.Frag} {r : R2} {o : D2} (i : Imp2 K r o) : ∀ σ H Q, upE K (dOp o da db) σ H Q → tOp r (upE K da) (upE K db) σ H Q := fun σ H Q h0_ => El54 h0_ fun ρ I S F P rs ok h q =>
  ⟨ρ, I, S, F, _, rs, ok, h, fun x S1 v I1 H1 h1 e1 ok1 r1 => ⟨ρ, I1, S1, F, _, rs.mono e1, ok1, h1, fun y S2 w I2 H2 h2 e2 ok2 r2 =>
    i x y v w I2 S2 F H2 P Q ok2 (r1.mono e2) r2 h2 (q.mono (e1.trans e2))⟩⟩
theorem je_op {op : Operator} {r : R2} {o : D2} (h : OpR X (binaryOp op) r) (i : Imp2 X.K r o) (ha : JE X a da) (hb : JE X b db) : JE X (.BinOp a op b pos) (dOp o da db) := je_of (pe_op h ha hb) (up_op i)
theorem je_un {op : UnaryOp} {r : V → Hp → VK → Prop} {o : D1} (h : UnR X (unaryOp op) r) (i : Imp1 X.K r o) (ha : JE X a da) : JE X (.UnaryOp op a pos) (dUn o da) :=
  je_of (pe_un h ha) fun σ H Q h0_ => El54 h0_ fun ρ I S F P rs ok h q => ⟨ρ, I, S, F, _, rs, ok, h, fun x S1 v I1 H1 h1 e1 ok1 r1 => i x v I1 S1 F H1 P Q ok1 r1 h1 (q.mono e1)⟩
theorem je_cmp {op : CmpOp} {r : R2} {o : D2} (h : OpR X (compareOp op) r) (i : Imp2 X.K r o) (ha : JE X a da) (hb : JE X b db) (hm : behindInMarks op b = false) : JE X (.Compare a [op] [b] pos) (dOp o da db) := je_of (pe_cmpR h ha hb hm) (up_op i)
def dTest (d : DE) : DT := fun ρ S P => d ρ S fun x S1 => match x with
  | .bl k => P k S1
  | _ => False
theorem up_test {K : PySem.W.Frag} {t : TE} {d : DE} (h : ∀ σ H Q, upE K d σ H Q → t σ H Q) : ∀ σ H Q, upT K (dTest d) σ H Q → tTest t σ H Q := fun σ H Q h0_ => El54 h0_ fun ρ I S F P rs ok hh q =>
  h _ _ _ ⟨ρ, I, S, F, _, rs, ok, hh, fun x S1 v I1 H1 h1 e1 ok1 r1 => by
    cases x with
    | bl k => exact ⟨k, r1.bl_of, q k S1 I1 H1 h1 e1 ok1⟩
    | _ => exact h1.elim⟩
theorem jt_cmp {op : CmpOp} {r : R2} {o : D2} (h : OpR X (compareOp op) r) (i : Imp2 X.K r o) (ha : JE X a da) (hb : JE X b db) (hm : behindInMarks op b = false) : JT X (.Compare a [op] [b] pos) (dTest (dOp o da db)) := jt_of (pt_cmpR h ha hb hm) (up_test (up_op i))

/-! ### and, or, not, if -/
def dAnd (t u : DT) : DT := fun ρ S P => t ρ S fun c S1 => if c = true then u ρ S1 P else P false S1
def dOr (t u : DT) : DT := fun ρ S P => t ρ S fun c S1 => if c = true then P true S1 else u ρ S1 P
def dNot (t : DT) : DT := fun ρ S P => t ρ S fun c S1 => P (!c) S1
/-- and, or as values, truths all but the last -/
def dAndV (a b : DE) : DE := fun ρ S P => a ρ S fun x S1 => match x with
  | .bl c => if c = true then b ρ S1 P else P (.bl false) S1
  | _ => False
def dOrV (a b : DE) : DE := fun ρ S P => a ρ S fun x S1 => match x with
  | .bl c => if c = true then P (.bl true) S1 else b ρ S1 P
  | _ => False
def dNotV (a : DE) : DE := fun ρ S P => a ρ S fun x S1 => match x with
  | .bl c => P (.bl (!c)) S1
  | _ => False
def dIf (c : DT) (a b : DE) : DE := fun ρ S P => c ρ S fun k S1 => if k = true then a ρ S1 P else b ρ S1 P
variable {dt du : DT} {rest : List Expr}
theorem jw_or1 (ha : JT X a dt) : JW X (.BoolOp .Or [a] pos) dt := pw_or1 ha
theorem jw_or (ha : JT X a dt) (hb : JW X (.BoolOp .Or (b :: rest) pos) du) : JW X (.BoolOp .Or (a :: b :: rest) pos) (dOr dt du) :=
  jw_of (pw_or ha hb) fun σ H Q h0_ => El54 h0_ fun ρ I S F P rs ok h q => ⟨ρ, I, S, F, _, rs, ok, h, fun c S1 I1 H1 h1 e1 ok1 => by
    cases c with
    | false => exact ⟨ρ, I1, S1, F, P, rs.mono e1, ok1, h1, q.mono e1⟩
    | true => exact q _ _ _ _ h1 e1 ok1⟩
theorem jt_w (h : JW X a dt) : JT X a dt := h.pt
theorem jt_not (ha : JT X a dt) : JT X (.UnaryOp .Not a pos) (dNot dt) :=
  jt_of (pt_not ha) fun σ H Q h0_ => El54 h0_ fun ρ I S F P rs ok h q => ⟨ρ, I, S, F, _, rs, ok, h, fun c S1 I1 H1 h1 e1 ok1 => q _ _ _ _ h1 e1 ok1⟩
/-- an expression that gives a truth, as a test -/
theorem jt_val (h : JE X a da) (he : ∀ whole, isTrue a X.env whole = (do let v ← whole; standAt a.pos; holding [v] (truthy v)) := by intro _; rfl) : JT X a (dTest da) :=
  jt_of (pt_val h he) fun σ H Q h0_ => El54 h0_ fun ρ I S F P rs ok hh q => ⟨ρ, I, S, F, _, rs, ok, hh, fun x S1 v I1 H1 h1 e1 ok1 r1 => by
    cases x with
    | bl k => exact ⟨k, r1.bl_of, q k S1 I1 H1 h1 e1 ok1⟩
    | _ => exact h1.elim⟩
theorem je_one {op} (h : JE X a da) : JE X (.BoolOp op [a] pos) da := pe_one h
theorem je_and (ha : JE X a da) (hb : JE X (.BoolOp .And (b :: rest) pos) db) : JE X (.BoolOp .And (a :: b :: rest) pos) (dAndV da db) :=
  je_of (pe_and ha hb) fun σ H Q h0_ => El54 h0_ fun ρ I S F P rs ok h q => ⟨ρ, I, S, F, _, rs, ok, h, fun x S1 v I1 H1 h1 e1 ok1 r1 => by
    cases x with
    | bl c =>
      refine ⟨c, r1.bl_of, ?_⟩
      cases c with
      | true => exact ⟨ρ, I1, S1, F, P, rs.mono e1, ok1, h1, q.mono e1⟩
      | false => exact q _ _ _ _ _ h1 e1 ok1 rep_bl
    | _ => exact h1.elim⟩
theorem je_not (ha : JE X a da) : JE X (.UnaryOp .Not a pos) (dNotV da) :=
  je_of (pe_not ha) fun σ H Q h0_ => El54 h0_ fun ρ I S F P rs ok h q => ⟨ρ, I, S, F, _, rs, ok, h, fun x S1 v I1 H1 h1 e1 ok1 r1 => by
    cases x with
    | bl c => exact ⟨c, r1.bl_of, q _ _ _ _ _ h1 e1 ok1 rep_bl⟩
    | _ => exact h1.elim⟩
theorem je_ifE {c : Expr} (hc : JT X c dt) (ha : JE X a da) (hb : JE X b db) : JE X (.IfExp c a b pos) (dIf dt da db) :=
  je_of (pe_ifExp hc ha hb) fun σ H Q h0_ => El54 h0_ fun ρ I S F P rs ok h q => ⟨ρ, I, S, F, _, rs, ok, h, fun c S1 I1 H1 h1 e1 ok1 => by
    cases c with
    | true => exact ⟨ρ, I1, S1, F, P, rs.mono e1, ok1, h1, q.mono e1⟩
    | false => exact ⟨ρ, I1, S1, F, P, rs.mono e1, ok1, h1, q.mono e1⟩⟩

/-! ### arguments, displays -/
def dNil : DA := fun _ S P => P [] S
def dCons (a : DE) (r : DA) : DA := fun ρ S P => a ρ S fun x S1 => r ρ S1 fun xs S2 => P (x :: xs) S2
variable {es : List Expr} {ds : DA}
theorem ja_nil : JA X [] dNil := ja_of pa_nil fun σ H Q h0_ => El54 h0_ fun ρ I S F P rs ok h q => q _ _ _ _ _ h (Same.refl I) ok RepL.nil
theorem ja_cons (ha : JE X a da) (hr : JA X es ds) (hs : starEach (a :: es) X.env = (false, eval a X.env) :: starEach es X.env := by rfl) : JA X (a :: es) (dCons da ds) :=
  ja_of (pa_cons ha hr hs) fun σ H Q h0_ => El54 h0_ fun ρ I S F P rs ok h q => ⟨ρ, I, S, F, _, rs, ok, h, fun x S1 v I1 H1 h1 e1 ok1 r1 => ⟨ρ, I1, S1, F, _, rs.mono e1, ok1, h1, fun xs S2 vs I2 H2 h2 e2 ok2 r2 =>
    q _ _ _ _ _ h2 (e1.trans e2) ok2 (RepL.cons (r1.mono e2) r2)⟩⟩
def dTup (a : DA) : DE := fun ρ S P => a ρ S fun xs S1 => xs.length ≤ 100000 ∧ P (.tup xs) S1
def dLst (a : DA) : DE := fun ρ S P => a ρ S fun xs S1 => xs.length ≤ 100000 ∧ P (.lst xs) S1
/-- a list that is to change -/
def dLstM (a : DA) : DE := fun ρ S P => a ρ S fun xs S1 => xs.length ≤ 100000 ∧ ∀ p, S1 p = none → P (.obj p) (supd S1 p (.lst xs))
theorem line5 {n : Nat} (h : n ≤ 100000) : n ≤ sizeLine := Nat.le_trans h (by decide)
theorem je_tup {x1} (h : JA X es ds) : JE X (.Tuple es x1 pos) (dTup ds) :=
  je_of (pe_tup h) fun σ H Q h0_ => El54 h0_ fun ρ I S F P rs ok hh q => ⟨ρ, I, S, F, _, rs, ok, hh, fun xs S1 vs I1 H1 ⟨hl, h1⟩ e1 ok1 r1 =>
    ⟨line5 (by rw [r1.len]; exact hl), fun p hp => q _ _ _ _ _ h1 (e1.trans (same_new (ok1.freshI hp))) (ok1.newI hp) (rep_new_tup (ok1.freshI hp) r1)⟩⟩
theorem je_lst (h : JA X es ds) : JE X (.List es pos) (dLst ds) :=
  je_of (pe_lst h) fun σ H Q h0_ => El54 h0_ fun ρ I S F P rs ok hh q => ⟨ρ, I, S, F, _, rs, ok, hh, fun xs S1 vs I1 H1 ⟨hl, h1⟩ e1 ok1 r1 =>
    ⟨line5 (by rw [r1.len]; exact hl), fun p hp => q _ _ _ _ _ h1 (e1.trans (same_new (ok1.freshI hp))) (ok1.newI hp) (rep_new_lst (ok1.freshI hp) r1)⟩⟩
theorem je_lstM (h : JA X es ds) : JE X (.List es pos) (dLstM ds) :=
  je_of (pe_lst h) fun σ H Q h0_ => El54 h0_ fun ρ I S F P rs ok hh q => ⟨ρ, I, S, F, _, rs, ok, hh, fun xs S1 vs I1 H1 ⟨hl, h1⟩ e1 ok1 r1 =>
    ⟨line5 (by rw [r1.len]; exact hl), fun p hp => q _ _ _ _ _ (h1 p (ok1.freshS hp)) e1 (ok1.newM hp r1) (by simp only [Rep])⟩⟩

/-! ### calls -/
def dCall (sp : DSp) (dv : List D) (a : DA) : DE := fun ρ S P => a ρ S fun xs S1 => sp (xs ++ dv) S1 P
abbrev FnD (P : Program) (w : World) (K : PySem.W.Frag) (mg : Str → Option Value) (base : Heap) (k : Nat) (f : Addr) (fd : FuncData) (ps : List Str) (sp : DSp) : Prop := DG.FnG P w K mg base CX0 k f fd ps (upSp K sp)
theorem je_call {k : Nat} {f : Addr} {fd : FuncData} {ps : List Str} {sp : DSp} {dv : List D} {dvs : List V} {dd : List Value} {x : Str} {p : Pos} (G : FnD X.prog X.w X.K X.mg X.base k f fd ps sp) (hr : DG.RoomG k X.A) (hg : Gl X x) (hm : X.mg x = some (.ref f)) (hk : PySem.W.keepIn X.K (.ref f) = true)
    (hb : Binds X.K fd ps dd) (hd : Vals dvs dd) (hdv : ∀ I, RepL X.K I dv dvs) (ha : JA X (a :: es) ds) (hdb : (x == ("__debug__" : Str)) = false := by decide) (he : starEach (a :: es) X.env = (false, eval a X.env) :: starEach es X.env := by rfl)
    (hpl : (backTo pos (starEach es X.env)).any (·.1) = false := by rfl) : JE X (.Call (.Name x p) (a :: es) [] pos) (dCall sp dv ds) :=
  je_of (DG.pe_call G hr hg hm hk hb hd pass0 ha hdb he hpl) fun σ H Q h0_ => El54 h0_ fun ρ I S F P rs ok h q => ⟨ρ, I, S, F, _, rs, ok, h, fun xs S1 vs I1 H1 h1 e1 ok1 r1 => ⟨_, I1, S1, F, P, r1.app (hdv I1), ok1, h1, q.mono e1⟩⟩
theorem je_call0 {k : Nat} {f : Addr} {fd : FuncData} {ps : List Str} {sp : DSp} {dv : List D} {dvs : List V} {dd : List Value} {x : Str} {p : Pos} (G : FnD X.prog X.w X.K X.mg X.base k f fd ps sp) (hr : DG.RoomG k X.A) (hg : Gl X x) (hm : X.mg x = some (.ref f)) (hk : PySem.W.keepIn X.K (.ref f) = true)
    (hb : Binds X.K fd ps dd) (hd : Vals dvs dd) (hdv : ∀ I, RepL X.K I dv dvs) (hdb : (x == ("__debug__" : Str)) = false := by decide) : JE X (.Call (.Name x p) [] [] pos) (dCall sp dv dNil) :=
  je_of (DG.pe_call0 G hr hg hm hk hb hd pass0 hdb) fun σ H Q h0_ => El54 h0_ fun ρ I S F P rs ok h q => ⟨_, I, S, F, P, RepL.nil.app (hdv I), ok, h, q⟩
/-- a built-in's call, by its rule -/
abbrev DC := List D → Store → (D → Store → Prop) → Prop
def ImpC (K : PySem.W.Frag) (r : List V → Hp → VK → Prop) (o : DC) : Prop := ∀ xs vs I S F H P Q, Ok K I S F H → RepL K I xs vs → o xs S P → Sees K I F P Q → r vs H Q
def dCB (o : DC) (a : DA) : DE := fun ρ S P => a ρ S fun xs S1 => o xs S1 P
theorem up_cb {K : PySem.W.Frag} {r : List V → Hp → VK → Prop} {o : DC} (i : ImpC K r o) : ∀ σ H Q, upE K (dCB o ds) σ H Q → tCB r (upA K ds) σ H Q := fun σ H Q h0_ => El54 h0_ fun ρ I S F P rs ok h q =>
  ⟨ρ, I, S, F, _, rs, ok, h, fun xs S1 vs I1 H1 h1 e1 ok1 r1 => i xs vs I1 S1 F H1 P Q ok1 r1 h1 (q.mono e1)⟩
theorem je_callB {r : List V → Hp → VK → Prop} {o : DC} {id : String} {x : Str} {p : Pos} (hc : CallR X (.builtin id) r) (i : ImpC X.K r o) (hg : Gl X x) (hm : X.mg x = none) (hv : bootBuiltins x = some (.builtin id)) (ha : JA X (a :: es) ds) (hn : x ≠ "__name__" := by decide) (hdb : (x == ("__debug__" : Str)) = false := by decide)
    (hs : starEach (a :: es) X.env = (false, eval a X.env) :: starEach es X.env := by rfl) (hpl : (backTo pos (starEach es X.env)).any (·.1) = false := by rfl) : JE X (.Call (.Name x p) (a :: es) [] pos) (dCB o ds) := je_of (pe_callB hc hg hm hv ha hn hdb hs hpl) (up_cb i)
theorem je_callTy {r : List V → Hp → VK → Prop} {o : DC} {T : String} {x : Str} {p : Pos} (hc : CallR X (.type T) r) (i : ImpC X.K r o) (hg : Gl X x) (hm : X.mg x = none) (hv : bootBuiltins x = some (.type T)) (ha : JA X (a :: es) ds) (hn : x ≠ "__name__" := by decide) (hdb : (x == ("__debug__" : Str)) = false := by decide)
    (hs : starEach (a :: es) X.env = (false, eval a X.env) :: starEach es X.env := by rfl) (hpl : (backTo pos (starEach es X.env)).any (·.1) = false := by rfl) : JE X (.Call (.Name x p) (a :: es) [] pos) (dCB o ds) := je_of (pe_callTy hc hg hm hv ha hn hdb hs hpl) (up_cb i)
end
end DL

namespace DL
open PySem PySem.Spec PyProof.Rows L2

/-! ### statements -/
def dNext : DS := fun DD ρ S => DD.nx ρ S
def dSeq (t u : DS) : DS := fun DD ρ S => t { DD with nx := u DD } ρ S
def dDrop (d : DE) : DS := fun DD ρ S => d ρ S fun _ S1 => DD.nx ρ S1
def dRet (d : DE) : DS := fun DD ρ S => d ρ S DD.rt
def dRetN : DS := fun DD _ S => DD.rt .non S
def dIfS (c : DT) (t u : DS) : DS := fun DD ρ S => c ρ S fun b S1 => if b = true then t DD ρ S1 else u DD ρ S1
def dNever : DS := fun _ _ _ => False
section
variable {X : Cx} {pos : Pos} {st : Stmt} {sts : List Stmt} {t u : DS} {e : Expr} {de : DE} {dc : DT}
theorem jss_nil : JSs X [] dNext := jss_of pss_nil fun D σ H h0_ => El54 h0_ fun ρ I S F DD rs ok h q => q.nx _ _ _ _ _ h (Same.refl I) ok rs
theorem jss_cons (h1 : JS X st t) (h2 : JSs X sts u) : JSs X (st :: sts) (dSeq t u) :=
  jss_of (pss_cons h1 h2) fun D σ H h0_ => El54 h0_ fun ρ I S F DD rs ok h q =>
    ⟨ρ, I, S, F, _, rs, ok, h, ⟨fun ρ1 S1 σ1 I1 H1 h1 e1 ok1 rs1 => ⟨ρ1, I1, S1, F, DD, rs1, ok1, h1, q.mono e1⟩, q.rt, q.bk, q.ct⟩⟩
theorem jss_one (h1 : JS X st t) : JSs X [st] t := pss_one h1
theorem js_expr (he : JE X e de) (hs : swapsWith e none pos.line X.env = pure false := by rfl) : JS X (.Expr e pos) (dDrop de) :=
  js_of (ps_expr he hs) fun D σ H h0_ => El54 h0_ fun ρ I S F DD rs ok h q => ⟨ρ, I, S, F, _, rs, ok, h, fun x S1 v I1 H1 h1 e1 ok1 r1 => q.nx _ _ _ _ _ h1 e1 ok1 (rs.mono e1)⟩
theorem js_ret (he : JE X e de) : JS X (.Return (some e) pos) (dRet de) :=
  js_of (ps_ret he) fun D σ H h0_ => El54 h0_ fun ρ I S F DD rs ok h q => ⟨ρ, I, S, F, _, rs, ok, h, q.rt⟩
theorem js_if {c : Expr} {a b : List Stmt} (hc : JT X c dc) (ha : JSs X a t) (hb : JSs X b u) : JS X (.If c a b pos) (dIfS dc t u) :=
  js_of (ps_if hc ha hb) fun D σ H h0_ => El54 h0_ fun ρ I S F DD rs ok h q => ⟨ρ, I, S, F, _, rs, ok, h, fun c S1 I1 H1 h1 e1 ok1 => by
    cases c with
    | true => exact ⟨ρ, I1, S1, F, DD, rs.mono e1, ok1, h1, q.mono e1⟩
    | false => exact ⟨ρ, I1, S1, F, DD, rs.mono e1, ok1, h1, q.mono e1⟩⟩
theorem jss_never : JSs X sts dNever := jss_of pss_never fun D σ H h0_ => El54 h0_ fun ρ I S F DD rs ok h q => h

/-! ### targets -/
/-- names, and tuples of such -/
inductive Tgt where
  | nm (i : Nat)
  | tp (ts : List Tgt)
mutual
def Tgt.slots : Tgt → List Nat
  | .nm i => [i]
  | .tp ts => Tgt.slotsL ts
def Tgt.slotsL : List Tgt → List Nat
  | [] => []
  | t :: ts => t.slots ++ Tgt.slotsL ts
end
mutual
def Tgt.put : Tgt → D → DSt → Option DSt
  | .nm i, x, ρ => some (ρ.set i (some x))
  | .tp ts, .tup xs, ρ => Tgt.putL ts xs ρ
  | .tp ts, .lst xs, ρ => Tgt.putL ts xs ρ
  | .tp _, _, _ => none
def Tgt.putL : List Tgt → List D → DSt → Option DSt
  | [], [], ρ => some ρ
  | t :: ts, x :: xs, ρ => (t.put x ρ).bind fun ρ' => Tgt.putL ts xs ρ'
  | _, _, _ => none
end
/-- σ' is σ but at the slots vs -/
def But (vs : List Nat) (σ σ' : L2.St) : Prop := σ'.length = σ.length ∧ ∀ i, i ∉ vs → σ'[i]? = σ[i]?
theorem wipe_get (σ : L2.St) (i : Nat) : ∀ vs : List Nat, (L2.wipe σ vs)[i]? = if i ∈ vs then (if i < σ.length then some none else none) else σ[i]?
  | [] => by simp [L2.wipe]
  | v :: vs => by
    have ih := wipe_get σ i vs
    unfold L2.wipe
    by_cases h : v = i
    · subst h
      by_cases hl : v < σ.length
      · rw [List.getElem?_set_self (by rw [L2.wipe_length]; exact hl), if_pos (by simp), if_pos hl]
      · rw [List.getElem?_eq_none (by rw [List.length_set, L2.wipe_length]; omega), if_pos (by simp), if_neg hl]
    · rw [List.getElem?_set_ne h, ih]
      have : (i ∈ v :: vs) ↔ i ∈ vs := by simp [Ne.symm h]
      simp only [this]
theorem But.wipe {vs : List Nat} {σ σ' : L2.St} (h : But vs σ σ') : L2.wipe σ' vs = L2.wipe σ vs := by
  apply List.ext_getElem?
  intro i
  rw [wipe_get, wipe_get, h.1]
  split
  · rfl
  · rename_i hi; exact h.2 i hi
def upG (K : PySem.W.Frag) (t : Tgt) : TG := fun v σ H Q => ∃ ρ ρ' I S F x, RepS K I ρ σ ∧ Ok K I S F H ∧ Rep K I x v ∧ t.put x ρ = some ρ' ∧ ∀ σ', RepS K I ρ' σ' → But t.slots σ σ' → Q σ' H
def upGs (K : PySem.W.Frag) (ts : List Tgt) : TGs := fun vs σ H Q => ∃ ρ ρ' I S F xs, RepS K I ρ σ ∧ Ok K I S F H ∧ RepL K I xs vs ∧ Tgt.putL ts xs ρ = some ρ' ∧ ∀ σ', RepS K I ρ' σ' → But (Tgt.slotsL ts) σ σ' → Q σ' H
abbrev JG (X : Cx) (e : Expr) (t : Tgt) : Prop := PG X e (upG X.K t)
abbrev JGs (X : Cx) (es : List Expr) (ts : List Tgt) : Prop := PGs X es (upGs X.K ts)
theorem jg_of {X : Cx} {e : Expr} {t u : TG} (h : PG X e t) (i : ∀ v σ H Q, u v σ H Q → t v σ H Q) : PG X e u := ⟨by
  intro pins s σ H v x Q I r q
  exact h.run pins s σ H v x Q I r (i _ _ _ _ q)⟩
theorem jgs_of {X : Cx} {e : List Expr} {t u : TGs} (h : PGs X e t) (i : ∀ v σ H Q, u v σ H Q → t v σ H Q) : PGs X e u := ⟨by
  intro pins s σ H v x Q I r q
  exact h.run pins s σ H v x Q I r (i _ _ _ _ q)⟩
theorem jg_name (i : Nat) {x : Str} (hN : X.N.Nodup) (hi : X.N[i]? = some x) (hx : Loc X.env.scope x) (hf : X.fn x = true ∨ X.env.scope.names.lookup x = some .local := by first | exact .inl rfl | exact .inr rfl | assumption) : JG X (.Name x pos) (.nm i) :=
  jg_of (pg_name hN hi hx hf) fun v σ H Q ⟨ρ, ρ', I, S, F, x, rs, ok, r, hp, q⟩ => by
    simp only [Tgt.put, Option.some.injEq] at hp
    subst hp
    refine q _ (rs.set i r) ⟨by simp, fun j hj => ?_⟩
    rw [List.getElem?_set_ne]
    intro e
    exact hj (by simp [Tgt.slots, e])
theorem jgs_nil : JGs X [] [] := jgs_of pgs_nil fun v σ H Q ⟨ρ, ρ', I, S, F, xs, rs, ok, r, hp, q⟩ => by
  cases xs with
  | nil =>
    simp only [Tgt.putL, Option.some.injEq] at hp
    subst hp
    simp only [RepL] at r
    exact ⟨r, q σ rs ⟨rfl, fun _ _ => rfl⟩⟩
  | cons x xs => simp [Tgt.putL] at hp
theorem jgs_cons {es : List Expr} {t : Tgt} {ts : List Tgt} (h1 : JG X e t) (h2 : JGs X es ts) (hs : (assignEach (e :: es) X.env).map (·.2) = assign e X.env :: (assignEach es X.env).map (·.2) := by rfl) : JGs X (e :: es) (t :: ts) :=
  jgs_of (pgs_cons h1 h2 hs) fun v σ H Q ⟨ρ, ρ', I, S, F, xs, rs, ok, r, hp, q⟩ => by
    cases xs with
    | nil => simp [Tgt.putL] at hp
    | cons x xs =>
      simp only [Tgt.putL] at hp
      cases e1 : t.put x ρ with
      | none => rw [e1] at hp; cases hp
      | some ρ1 =>
        rw [e1] at hp
        have hp : Tgt.putL ts xs ρ1 = some ρ' := hp
        simp only [RepL] at r
        obtain ⟨w, rr, rfl, r1, r2⟩ := r
        refine ⟨w, rr, rfl, ρ, ρ1, I, S, F, x, rs, ok, r1, e1, fun σ1 rs1 b1 => ⟨ρ1, ρ', I, S, F, xs, rs1, ok, r2, hp, fun σ2 rs2 b2 => q σ2 rs2 ⟨b2.1.trans b1.1, fun i hi => ?_⟩⟩⟩
        have hi2 : i ∉ t.slots ∧ i ∉ Tgt.slotsL ts := by
          simp only [Tgt.slotsL, List.mem_append, not_or] at hi
          exact hi
        rw [b2.2 i hi2.2, b1.2 i hi2.1]
theorem pg_or {X : Cx} {e : Expr} {t u : TG} (h : PG X e t) (h' : PG X e u) : PG X e (fun v σ H Q => t v σ H Q ∨ u v σ H Q) := ⟨by
  intro pins s σ H v w Q I r hw
  rcases hw with hw | hw
  · exact h.run pins s σ H v w Q I r hw
  · exact h'.run pins s σ H v w Q I r hw⟩
theorem jg_tup {es : List Expr} {k : Nat} {ts : List Tgt} {n : Nat} (hc : X.calm = true) (h : JGs X es ts) (hl : ts.length = n := by rfl)
    (hn : (assignEach es X.env).length = n := by rfl) (hst : (assignEach es X.env).findIdx? (·.1) = none := by rfl) : JG X (.Tuple es k pos) (.tp ts) :=
  jg_of (pg_or (pg_tup hc h hn hst) (pg_unl hc h hn hst)) fun v σ H Q ⟨ρ, ρ', I, S, F, x, rs, ok, r, hp, q⟩ => by
    have key : ∀ (ts : List Tgt) (xs : List D) (ρ : DSt), Tgt.putL ts xs ρ = some ρ' → xs.length = ts.length := by
      intro ts
      induction ts with
      | nil => intro xs ρ h; cases xs with
        | nil => rfl
        | cons _ _ => simp [Tgt.putL] at h
      | cons t ts ih => intro xs ρ h; cases xs with
        | nil => simp [Tgt.putL] at h
        | cons y ys =>
          simp only [Tgt.putL] at h
          cases e1 : t.put y ρ with
          | none => rw [e1] at h; cases h
          | some ρ1 => rw [e1] at h; simp [ih ys ρ1 h]
    cases x with
    | tup xs =>
      simp only [Tgt.put] at hp
      obtain ⟨a, vs, rfl, hs, rl⟩ := r.tup_of
      have hle := key ts xs ρ hp
      refine .inl ⟨a, vs, rfl, sqT_same ok.same hs, by rw [rl.len, hle, hl], ρ, ρ', I, S, F, xs, rs, ok, rl, hp, fun σ' rs' b => q σ' rs' b⟩
    | lst xs =>
      simp only [Tgt.put] at hp
      obtain ⟨a, vs, rfl, hs, rl⟩ := r.lst_of
      have hle := key ts xs ρ hp
      refine .inr ⟨a, vs, rfl, .of (ok.i _ _ hs), by rw [rl.len, hle, hl], ρ, ρ', I, S, F, xs, rs, ok, rl, hp, fun σ' rs' b => q σ' rs' b⟩
    | _ => simp [Tgt.put] at hp

/-! ### assignments -/
def dSet (i : Nat) (d : DE) : DS := fun DD ρ S => d ρ S fun x S1 => DD.nx (ρ.set i (some x)) S1
def dAsg (t : Tgt) (d : DE) : DS := fun DD ρ S => d ρ S fun x S1 => match t.put x ρ with
  | some ρ' => DD.nx ρ' S1
  | none => False
theorem js_set (i : Nat) {x : Str} {pos' : Pos} (hN : X.N.Nodup) (hi : X.N[i]? = some x) (hx : Loc X.env.scope x) (he : JE X e de) (hs : swapsWith e (some (.Name x pos')) pos.line X.env = pure false := by rfl) (hf : X.fn x = true ∨ X.env.scope.names.lookup x = some .local := by first | exact .inl rfl | exact .inr rfl | assumption) :
    JS X (.Assign [.Name x pos'] e pos) (dSet i de) :=
  js_of (ps_set (i := i) hN hi hx he hs hf) fun D σ H h0_ => El54 h0_ fun ρ I S F DD rs ok h q => ⟨ρ, I, S, F, _, rs, ok, h, fun x S1 v I1 H1 h1 e1 ok1 r1 => q.nx _ _ _ _ _ h1 e1 ok1 ((rs.mono e1).set i r1)⟩
theorem js_asg {tg : Expr} {t : Tgt} (he : JE X e de) (hg : JG X tg t) (hs : swapsWithSole [tg] e pos.line X.env = pure false := by rfl) (hw : swappedStores [tg] e X.env = pure none := by rfl)
    (h1 : (assignEach [tg] X.env).map (·.2) = [assign tg X.env] := by rfl) : JS X (.Assign [tg] e pos) (dAsg t de) :=
  js_of (ps_asg he hg hs hw h1) fun D σ H h0_ => El54 h0_ fun ρ I S F DD rs ok h q => ⟨ρ, I, S, F, _, rs, ok, h, fun x S1 v I1 H1 h1 e1 ok1 r1 => by
    cases e2 : t.put x ρ with
    | none => rw [e2] at h1; exact h1.elim
    | some ρ' =>
      rw [e2] at h1
      exact ⟨ρ, ρ', I1, S1, F, x, rs.mono e1, ok1, r1, e2, fun σ' rs' _ => q.nx _ _ _ _ _ h1 e1 ok1 rs'⟩⟩
def dPar (i j : Nat) (a : DA) : DS := fun DD ρ S => a ρ S fun xs S1 => match xs with
  | [x, y] => DD.nx ((ρ.set i (some x)).set j (some y)) S1
  | _ => False
theorem js_par (i j : Nat) {x y : Str} {a b : Expr} {da : DA} {px py pt : Pos} {kt k2 pt2} (hc : X.calm = true) (hN : X.N.Nodup) (hi : X.N[i]? = some x) (hj : X.N[j]? = some y) (hij : i ≠ j)
    (hx : X.env.scope.names.lookup x = some .local) (hy : X.env.scope.names.lookup y = some .local) (ha : JA X [a, b] da)
    (hw : swappedStores [.Tuple [.Name x px, .Name y py] kt pt] (.Tuple [a, b] k2 pt2) X.env = pure (some [x, y]))
    (hs : swapsWithSole [.Tuple [.Name x px, .Name y py] kt pt] (.Tuple [a, b] k2 pt2) pos.line X.env = pure false := by rfl) :
    JS X (.Assign [.Tuple [.Name x px, .Name y py] kt pt] (.Tuple [a, b] k2 pt2) pos) (dPar i j da) :=
  js_of (ps_par hc hN hi hj hij hx hy ha hw hs) fun D σ H h0_ => El54 h0_ fun ρ I S F DD rs ok h q => ⟨ρ, I, S, F, _, rs, ok, h, fun xs S1 vs I1 H1 h1 e1 ok1 r1 => by
    match xs, h1 with
    | [x, y], h1 =>
      obtain ⟨v, w, rfl, ra, rb⟩ := r1.inv2
      exact ⟨v, w, rfl, q.nx _ _ _ _ _ h1 e1 ok1 (((rs.mono e1).set i ra).set j rb)⟩⟩
/-- x op= e -/
def ImpIp (K : PySem.W.Frag) (r : TIp) (o : D2) : Prop := ∀ x y v w I S F H P Q, Ok K I S F H → Rep K I x v → Rep K I y w → o x y S P → Sees K I F P Q → r v w H Q
def dAug (i : Nat) (o : D2) (d : DE) : DS := fun DD ρ S => match ρ[i]? with
  | some (some x) => d ρ S fun y S1 => o x y S1 fun z S2 => DD.nx (ρ.set i (some z)) S2
  | _ => False
theorem js_aug (i : Nat) {x : Str} {op : Operator} {ti : TIp} {o : D2} {pos' : Pos} (hN : X.N.Nodup) (hi : X.N[i]? = some x) (hx : Loc X.env.scope x) (he : JE X e de) (ho : PIp X op ti) (im : ImpIp X.K ti o) (hf : X.fn x = true ∨ X.env.scope.names.lookup x = some .local := by first | exact .inl rfl | exact .inr rfl | assumption) :
    JS X (.AugAssign (.Name x pos') op e pos) (dAug i o de) :=
  js_of (ps_aug (i := i) hN hi hx he ho hf) fun D σ H h0_ => El54 h0_ fun ρ I S F DD rs ok h q => by
    unfold dAug at h
    split at h
    · rename_i x ex
      obtain ⟨v, e1, r⟩ := rs.2 i x ex
      refine ⟨v, e1, ρ, I, S, F, _, rs, ok, h, fun y S1 w I1 H1 h1 e1 ok1 r1 => ?_⟩
      exact im x y v w I1 S1 F H1 _ _ ok1 (r.mono e1) r1 h1 fun z S2 u I2 H2 h2 e2 ok2 r2 => q.nx _ _ _ _ _ h2 (e1.trans e2) ok2 ((rs.mono (e1.trans e2)).set i r2)
    · exact h.elim

/-! ### while -/
def dWhile (c : DT) (b : DS) : DS := fun DD ρ S => ∃ W : Nat → DSt → Store → Prop, (∃ m, W m ρ S) ∧ ∀ m ρ S, W m ρ S →
  c ρ S fun k S1 => if k = true then b { DD with nx := fun ρ' S' => ∃ m', m' < m ∧ W m' ρ' S', ct := fun ρ' S' => ∃ m', m' < m ∧ W m' ρ' S', bk := DD.nx } ρ S1 else DD.nx ρ S1
theorem js_while {c : Expr} {body : List Stmt} (hp : PassesOwn (model X.prog X.w) X.A X.env X.xe) (hc : JT X c dc) (hb : JSs X body t) : JS X (.While c body [] pos) (dWhile dc t) :=
  js_of (ps_while hp hc hb) fun D σ H ⟨ρ, I, S, F, DD, rs, ok, ⟨W, ⟨m0, w0⟩, turn⟩, q⟩ => by
    refine ⟨fun m σ H => ∃ ρ I' S, Same I I' ∧ RepS X.K I' ρ σ ∧ Ok X.K I' S F H ∧ W m ρ S, ⟨m0, ρ, I, S, Same.refl I, rs, ok, w0⟩, ?_⟩
    rintro m σ1 H1 ⟨ρ1, I1, S1, e1, rs1, ok1, w1⟩
    refine ⟨ρ1, I1, S1, F, _, rs1, ok1, turn m ρ1 S1 w1, fun k S2 I2 H2 h2 e2 ok2 => ?_⟩
    cases k with
    | true =>
      rw [if_pos rfl] at h2 ⊢
      refine ⟨fun σ' H' => ∃ m', m' < m ∧ ∃ ρ I' S, Same I I' ∧ RepS X.K I' ρ σ' ∧ Ok X.K I' S F H' ∧ W m' ρ S, fun σ' H' h => h, ρ1, I2, S2, F, _, rs1.mono e2, ok2, h2, ⟨?_, ?_, ?_, ?_⟩⟩
      · intro ρ3 S3 σ3 I3 H3 ⟨m', hm, w3⟩ e3 ok3 rs3
        exact ⟨m', hm, ρ3, I3, S3, (e1.trans e2).trans e3, rs3, ok3, w3⟩
      · exact q.rt.mono (e1.trans e2)
      · exact q.nx.mono (e1.trans e2)
      · intro ρ3 S3 σ3 I3 H3 ⟨m', hm, w3⟩ e3 ok3 rs3
        exact ⟨m', hm, ρ3, I3, S3, (e1.trans e2).trans e3, rs3, ok3, w3⟩
    | false =>
      rw [if_neg Bool.false_ne_true] at h2 ⊢
      exact q.nx _ _ _ _ _ h2 (e1.trans e2) ok2 (rs1.mono e2)

/-! ### what is walked -/
/-- a list that may change is walked: it stays meanwhile -/
def PinOk : Option (Store → Prop) → Store → Prop
  | none, _ => True
  | some p, S => p S
/-- J walks the data ds -/
structure ItOk (K : PySem.W.Frag) (I : Hp) (J : It) (ds : List D) (pin : Option (Store → Prop)) : Prop where
  go : ∀ I2 S F H, Same I I2 → Ok K I2 S F H → PinOk pin S → ∀ i d, ds[i]? = some d → J.go i H ∧ ∀ x H', J.yld i H x H' → ∃ I3, Same I2 I3 ∧ Ok K I3 S F H' ∧ Rep K I3 d x
  stop : ∀ I2 S F H, Same I I2 → Ok K I2 S F H → PinOk pin S → ∀ i, i = ds.length → J.stop i H
theorem ItOk.mono {K : PySem.W.Frag} {I I' : Hp} {J : It} {ds : List D} {pin : Option (Store → Prop)} (h : ItOk K I J ds pin) (e : Same I I') : ItOk K I' J ds pin :=
  ⟨fun I2 S F H e2 => h.go I2 S F H (e.trans e2), fun I2 S F H e2 => h.stop I2 S F H (e.trans e2)⟩
def SeesI (K : PySem.W.Frag) (I F : Hp) (P : List D → Option (Store → Prop) → Store → Prop) (R : It → Hp → Prop) : Prop := ∀ ds pin S' I' H' J, P ds pin S' → Same I I' → Ok K I' S' F H' → ItOk K I' J ds pin → R J H'
theorem SeesI.mono {K : PySem.W.Frag} {I I' F : Hp} {P : List D → Option (Store → Prop) → Store → Prop} {R : It → Hp → Prop} (h : SeesI K I F P R) (e : Same I I') : SeesI K I' F P R := fun ds pin S' I2 H' J p e2 => h ds pin S' I2 H' J p (e.trans e2)
def upI (K : PySem.W.Frag) (d : DI) : TI := fun σ H R => ∃ ρ I S F P, RepS K I ρ σ ∧ Ok K I S F H ∧ d ρ S P ∧ SeesI K I F P R
abbrev JI (X : Cx) (tg iter : Expr) (d : DI) : Prop := PI X tg iter (upI X.K d)
theorem ji_of {X : Cx} {tg e : Expr} {t u : TI} (h : PI X tg e t) (i : ∀ σ H R, u σ H R → t σ H R) : PI X tg e u := ⟨fun pins s σ H R I q => h.run pins s σ H R I (i _ _ _ q)⟩

/-! ### for -/
/-- a loop over the data ds: W by the turn -/
def ForB (t : Tgt) (b : DS) (DD : DEnds) (ds : List D) (ρ : DSt) (S1 : Store) : Prop := ∃ W : Nat → DSt → Store → Prop, W 0 ρ S1 ∧
  (∀ i d ρ S, ds[i]? = some d → W i ρ S → ∃ ρ', t.put d ρ = some ρ' ∧ b { DD with nx := W (i + 1), ct := W (i + 1), bk := DD.nx } ρ' S) ∧ ∀ ρ S, W ds.length ρ S → DD.nx ρ S
/-- the same, of a list that may change: p, that it stays -/
def ForP (t : Tgt) (b : DS) (DD : DEnds) (ds : List D) (p : Store → Prop) (ρ : DSt) (S1 : Store) : Prop := ∃ W : Nat → DSt → Store → Prop, W 0 ρ S1 ∧ (∀ i ρ S, W i ρ S → p S) ∧
  (∀ i d ρ S, ds[i]? = some d → W i ρ S → ∃ ρ', t.put d ρ = some ρ' ∧ b { DD with nx := W (i + 1), ct := W (i + 1), bk := DD.nx } ρ' S) ∧ ∀ ρ S, W ds.length ρ S → DD.nx ρ S
def ForN (t : Tgt) (b : DS) (DD : DEnds) (ds : List D) (pin : Option (Store → Prop)) (ρ : DSt) (S1 : Store) : Prop := match pin with
  | none => ForB t b DD ds ρ S1
  | some p => ForP t b DD ds p ρ S1
theorem ForN.all {t : Tgt} {b : DS} {DD : DEnds} {ds : List D} {pin : Option (Store → Prop)} {ρ : DSt} {S1 : Store} (h : ForN t b DD ds pin ρ S1) : ∃ W : Nat → DSt → Store → Prop, W 0 ρ S1 ∧ (∀ i ρ S, W i ρ S → PinOk pin S) ∧
    (∀ i d ρ S, ds[i]? = some d → W i ρ S → ∃ ρ', t.put d ρ = some ρ' ∧ b { DD with nx := W (i + 1), ct := W (i + 1), bk := DD.nx } ρ' S) ∧ ∀ ρ S, W ds.length ρ S → DD.nx ρ S := by
  cases pin with
  | none => obtain ⟨W, w0, w1, w2⟩ := h; exact ⟨W, w0, fun _ _ _ _ => trivial, w1, w2⟩
  | some p => exact h
def dFor (di : DI) (t : Tgt) (b : DS) : DS := fun DD ρ S => di ρ S fun ds pin S1 => ForN t b DD ds pin ρ S1
theorem js_for {tg iter : Expr} {body : List Stmt} {di : DI} {tt : Tgt} (hp : PassesOwn (model X.prog X.w) X.A X.env X.xe) (hc : X.calm = true) (hi : JI X tg iter di) (hg : JG X tg tt) (hb : JSs X body t)
    (hs : ∀ x, foldedSetIterable iter X.env x = pure x := by intro _; rfl) : JS X (.For tg iter body [] pos) (dFor di tt t) :=
  js_of (ps_for hp hc hi hg hb hs) fun D σ H h0_ => El54 h0_ fun ρ I S F DD rs ok h q => by
    refine ⟨ρ, I, S, F, _, rs, ok, h, fun ds pin S1 I1 H1 J hB e1 ok1 it => ?_⟩
    obtain ⟨W, w0, hpin, turn, fin⟩ := ForN.all hB
    refine ⟨fun i m σ H => m + i = ds.length ∧ ∃ ρ I' S, Same I1 I' ∧ RepS X.K I' ρ σ ∧ Ok X.K I' S F H ∧ W i ρ S, ⟨ds.length, by simp, ρ, I1, S1, Same.refl I1, rs.mono e1, ok1, w0⟩, ?_⟩
    rintro i m σ2 H2 ⟨em, ρ2, I2, S2, e2, rs2, ok2, w2⟩
    by_cases hi : i < ds.length
    · refine .inr ?_
      obtain ⟨g1, g2⟩ := it.go I2 S2 F H2 e2 ok2 (hpin _ _ _ w2) i ds[i] (List.getElem?_eq_getElem hi)
      obtain ⟨ρ3, hput, hbody⟩ := turn i ds[i] ρ2 S2 (List.getElem?_eq_getElem hi) w2
      refine ⟨g1, fun σ' H' => ∃ ρ I' S, Same I1 I' ∧ RepS X.K I' ρ σ' ∧ Ok X.K I' S F H' ∧ W (i + 1) ρ S, fun σ' H' h => ⟨m - 1, by omega, by omega, h⟩, fun x H3 hy => ?_⟩
      obtain ⟨I3, e3, ok3, r3⟩ := g2 x H3 hy
      refine ⟨ρ2, ρ3, I3, S2, F, ds[i], rs2.mono e3, ok3, r3, hput, fun σ3 rs3 _ => ?_⟩
      refine ⟨ρ3, I3, S2, F, _, rs3, ok3, hbody, ⟨?_, ?_, ?_, ?_⟩⟩
      · intro ρ4 S4 σ4 I4 H4 w4 e4 ok4 rs4
        exact ⟨ρ4, I4, S4, (e2.trans e3).trans e4, rs4, ok4, w4⟩
      · exact q.rt.mono (((e1.trans e2)).trans e3)
      · exact q.nx.mono (((e1.trans e2)).trans e3)
      · intro ρ4 S4 σ4 I4 H4 w4 e4 ok4 rs4
        exact ⟨ρ4, I4, S4, (e2.trans e3).trans e4, rs4, ok4, w4⟩
    · have e : i = ds.length := by omega
      subst e
      exact .inl ⟨it.stop I2 S2 F H2 e2 ok2 (hpin _ _ _ w2) _ rfl, q.nx _ _ _ _ _ (fin ρ2 S2 w2) (e1.trans e2) ok2 rs2⟩

/-! ### comprehensions -/
def dYes : DT := fun _ S P => P true S
abbrev JTs (X : Cx) (ifs : List Expr) (d : DT) : Prop := PTs X ifs (upT X.K d)
theorem jts_of {X : Cx} {e : List Expr} {t u : TT} (h : PTs X e t) (i : ∀ σ H Q, u σ H Q → t σ H Q) : PTs X e u := ⟨fun pins s σ H Q I q => h.run pins s σ H Q I (i _ _ _ q)⟩
theorem jts_nil : JTs X [] dYes := jts_of pts_nil fun σ H Q h0_ => El54 h0_ fun ρ I S F P rs ok h q => q _ _ _ _ h (Same.refl I) ok
theorem jts_one {c : Expr} (h : JT X c dc) : JTs X [c] dc := pts_one h
/-- the new list is one that changes no more -/
def LcB (t : Tgt) (tt : DT) (de : DE) (P : D → Store → Prop) (ds : List D) (ρ : DSt) (S1 : Store) : Prop := ds.length ≤ 100000 ∧ ∃ W : Nat → List D → Store → Prop, W 0 [] S1 ∧
  (∀ i d acc S, ds[i]? = some d → W i acc S → ∃ ρ', t.put d (dwipe ρ t.slots) = some ρ' ∧ tt ρ' S fun b S2 => if b = true then de ρ' S2 fun y S3 => W (i + 1) (acc ++ [y]) S3 else W (i + 1) acc S2) ∧ ∀ acc S, W ds.length acc S → P (.lst acc) S
def LcP (t : Tgt) (tt : DT) (de : DE) (P : D → Store → Prop) (ds : List D) (p : Store → Prop) (ρ : DSt) (S1 : Store) : Prop := ds.length ≤ 100000 ∧ ∃ W : Nat → List D → Store → Prop, W 0 [] S1 ∧ (∀ i acc S, W i acc S → p S) ∧
  (∀ i d acc S, ds[i]? = some d → W i acc S → ∃ ρ', t.put d (dwipe ρ t.slots) = some ρ' ∧ tt ρ' S fun b S2 => if b = true then de ρ' S2 fun y S3 => W (i + 1) (acc ++ [y]) S3 else W (i + 1) acc S2) ∧ ∀ acc S, W ds.length acc S → P (.lst acc) S
def LcN (t : Tgt) (tt : DT) (de : DE) (P : D → Store → Prop) (ds : List D) (pin : Option (Store → Prop)) (ρ : DSt) (S1 : Store) : Prop := match pin with
  | none => LcB t tt de P ds ρ S1
  | some p => LcP t tt de P ds p ρ S1
theorem LcN.all {t : Tgt} {tt : DT} {de : DE} {P : D → Store → Prop} {ds : List D} {pin : Option (Store → Prop)} {ρ : DSt} {S1 : Store} (h : LcN t tt de P ds pin ρ S1) : ds.length ≤ 100000 ∧ ∃ W : Nat → List D → Store → Prop, W 0 [] S1 ∧ (∀ i acc S, W i acc S → PinOk pin S) ∧
    (∀ i d acc S, ds[i]? = some d → W i acc S → ∃ ρ', t.put d (dwipe ρ t.slots) = some ρ' ∧ tt ρ' S fun b S2 => if b = true then de ρ' S2 fun y S3 => W (i + 1) (acc ++ [y]) S3 else W (i + 1) acc S2) ∧ ∀ acc S, W ds.length acc S → P (.lst acc) S := by
  cases pin with
  | none => obtain ⟨hl, W, w0, w1, w2⟩ := h; exact ⟨hl, W, w0, fun _ _ _ _ => trivial, w1, w2⟩
  | some p => exact h
def dLc (di : DI) (t : Tgt) (tt : DT) (de : DE) : DE := fun ρ S P => di ρ S fun ds pin S1 => LcN t tt de P ds pin ρ S1
theorem up_lc {X : Cx} {di : DI} {t : Tgt} {tt : DT} {de : DE} : ∀ σ H Q, upE X.K (dLc di t tt de) σ H Q → tLc (upI X.K di) (upG X.K t) (upT X.K tt) (upE X.K de) t.slots σ H Q := fun σ H Q h0_ => El54 h0_ fun ρ I S F P rs ok h q => by
  refine ⟨ρ, I, S, F, _, rs, ok, h, fun ds pin S1 I1 H1 J hB e1 ok1 it => fun Dd hD => ?_⟩
  obtain ⟨hlen, W, w0, hpin, turn, fin⟩ := LcN.all hB
  have fI : I1 Dd = none := ok1.freshI hD
  refine ⟨fun i m H => m + i = ds.length ∧ ∃ I' S' acc vs, Same I1 I' ∧ Ok X.K I' S' (upd F Dd (.lst vs)) H ∧ RepL X.K I' acc vs ∧ acc.length ≤ i ∧ W i acc S', ⟨ds.length, by simp, I1, S1, [], [], Same.refl I1, ok1.newF hD ⟨fun y z => (by cases z), fun y z => (by cases z)⟩, RepL.nil, Nat.le_refl _, w0⟩, ?_⟩
  rintro i m H2 ⟨em, I2, S2, acc, vs, e2, ok2, rl, hacc, w2⟩
  by_cases hi : i < ds.length
  · refine .inr ?_
    obtain ⟨g1, g2⟩ := it.go I2 S2 _ H2 e2 ok2 (hpin _ _ _ w2) i ds[i] (List.getElem?_eq_getElem hi)
    obtain ⟨ρ3, hput, hbody⟩ := turn i ds[i] acc S2 (List.getElem?_eq_getElem hi) w2
    refine ⟨g1, fun H' => ∃ I' S' acc vs, Same I1 I' ∧ Ok X.K I' S' (upd F Dd (.lst vs)) H' ∧ RepL X.K I' acc vs ∧ acc.length ≤ i + 1 ∧ W (i + 1) acc S', fun H' h => ⟨m - 1, by omega, by omega, h⟩, fun x H3 hy => ?_⟩
    obtain ⟨I3, e3, ok3, r3⟩ := g2 x H3 hy
    refine ⟨dwipe ρ t.slots, ρ3, I3, S2, _, ds[i], ((rs.mono e1).mono (e2.trans e3)).wipe _, ok3, r3, hput, fun σ3 rs3 b3 => ⟨by
      rw [b3.wipe]
      apply List.ext_getElem?
      intro j
      rw [wipe_get, wipe_get, L2.wipe_length]
      split <;> simp_all, ?_⟩⟩
    refine ⟨ρ3, I3, S2, _, _, rs3, ok3, hbody, fun b S4 I4 H4 h4 e4 ok4 => ?_⟩
    cases b with
    | true =>
      rw [if_pos rfl] at h4 ⊢
      refine ⟨ρ3, I4, S4, _, _, rs3.mono e4, ok4, h4, fun y S5 v I5 H5 h5 e5 ok5 r5 => ?_⟩
      have hF : (upd F Dd (.lst vs)) Dd = some (.lst vs) := upd_same
      refine ⟨vs, (ok5.f Dd _ hF).1, ?_, I5, S5, acc ++ [y], vs ++ [v], (((e2.trans e3).trans e4).trans e5), ?_, (rl.mono ((e3.trans e4).trans e5)).app (RepL.one r5), by simp; omega, h5⟩
      · rw [rl.len]
        have : (100000 : Nat) < sizeLine := by decide
        omega
      · have := ok5.writeF (o' := .lst (vs ++ [v])) hF ⟨fun y z => (by cases z), fun y z => (by cases z)⟩
        rwa [upd_upd] at this
    | false =>
      rw [if_neg Bool.false_ne_true] at h4 ⊢
      exact ⟨I4, S4, acc, vs, ((e2.trans e3).trans e4), ok4, rl.mono (e3.trans e4), by omega, h4⟩
  · have e : i = ds.length := by omega
    subst e
    refine .inl ⟨it.stop I2 S2 _ H2 e2 ok2 (hpin _ _ _ w2) _ rfl, ?_⟩
    have hF : (upd F Dd (.lst vs)) Dd = some (.lst vs) := upd_same
    have i2 : I2 Dd = none := (ok2.f Dd _ hF).2.1
    have ok3 := ok2.showF hF
    have ok4 : Ok X.K (upd I2 Dd (.lst vs)) S2 F H2 := by
      refine ⟨ok3.i, ok3.s, fun a x q => ?_⟩
      have ne : a ≠ Dd := fun z => by
        subst z
        rw [(ok1.freshF hD)] at q; cases q
      exact ok3.f a x (by show (if a = Dd then none else upd F Dd (.lst vs) a) = some x; rw [if_neg ne, upd_ne ne]; exact q)
    exact q _ _ _ _ _ (fin acc S2 w2) ((e1.trans e2).trans (same_new i2)) ok4 (rep_new_lst i2 rl)
theorem je_lc {elt tg iter : Expr} {ifs : List Expr} {scope : Scope} (own : List (Str × Nat)) {di : DI} {t : Tgt} {tt : DT} {de : DE} (hc : X.calm = true) (hN : X.N.Nodup) (hi : JI X tg iter di) (ok : BlkOk X.N X.env.scope scope own) (ho : own.map (·.2) = t.slots)
    (hg : ∀ (s : Shared) (H : Hp) (C : Addr) (cl : List (Str × Addr)) (fp : List Addr), JG (X.blk s H scope (compEnvC scope cl C X.env) fp) tg t) (ht : ∀ (s : Shared) (H : Hp) (C : Addr) (cl : List (Str × Addr)) (fp : List Addr), JTs (X.blk s H scope (compEnvC scope cl C X.env) fp) ifs tt)
    (he : ∀ (s : Shared) (H : Hp) (C : Addr) (cl : List (Str × Addr)) (fp : List Addr), JE (X.blk s H scope (compEnvC scope cl C X.env) fp) elt de) (hs : ∀ x, foldedSetIterable iter X.env x = pure x := by intro _; rfl) :
    JE X (.ListComp elt [⟨tg, iter, ifs, 0⟩] scope pos) (dLc di t tt de) :=
  je_of (pe_lc hc hN hi ok hg ht he hs) fun σ H Q h => by
    rw [ho]
    exact up_lc σ H Q h
theorem js_setLc (i : Nat) {y : Str} {py : Pos} {elt tg iter : Expr} {ifs : List Expr} {scope : Scope} (own : List (Str × Nat)) {spos : Pos} {di : DI} {t : Tgt} {tt : DT} {de : DE} (hc : X.calm = true) (hN : X.N.Nodup) (hy : X.N[i]? = some y) (hyl : X.env.scope.names.lookup y = some .local)
    (hsw : swapsWith (.ListComp elt [⟨tg, iter, ifs, 0⟩] scope pos) (some (.Name y py)) spos.line X.env = pure true) (hi : JI X tg iter di) (ok : BlkOk X.N X.env.scope scope own) (ho : own.map (·.2) = t.slots)
    (hg : ∀ (s : Shared) (H : Hp) (C : Addr) (cl : List (Str × Addr)) (fp : List Addr), JG (X.blk s H scope (compEnvC scope cl C X.env) fp) tg t) (ht : ∀ (s : Shared) (H : Hp) (C : Addr) (cl : List (Str × Addr)) (fp : List Addr), JTs (X.blk s H scope (compEnvC scope cl C X.env) fp) ifs tt)
    (he : ∀ (s : Shared) (H : Hp) (C : Addr) (cl : List (Str × Addr)) (fp : List Addr), JE (X.blk s H scope (compEnvC scope cl C X.env) fp) elt de) (hs : ∀ x, foldedSetIterable iter X.env x = pure x := by intro _; rfl) :
    JS X (.Assign [.Name y py] (.ListComp elt [⟨tg, iter, ifs, 0⟩] scope pos) spos) (dSet i (dLc di t tt de)) :=
  js_of (ps_setLc hc hN hy hyl hsw hi ok hg ht he hs) fun D σ H h0_ => El54 h0_ fun ρ I S F DD rs ok h q => by
    rw [ho]
    exact up_lc (X := X) σ H _ ⟨ρ, I, S, F, _, rs, ok, h, fun x S1 v I1 H1 h1 e1 ok1 r1 => q.nx _ _ _ _ _ h1 e1 ok1 ((rs.mono e1).set i r1)⟩
end

/-! ### a def keeps its promise -/
section
variable {P : Program} {w : World} {K : PySem.W.Frag} {mg : Str → Option Value} {base : Heap}
def dEnd (Q : D → Store → Prop) : DEnds := { nx := fun _ S => Q .non S, rt := Q }
theorem fn_d {x qual : Str} {st : Stmt} {f : Addr} {fd : FuncData} {N ps : List Str} {k : Nat} {sp : DSp} (F : Fun K x qual st f fd) (S : FnScope N ps (defScope st)) (len : ∀ ds S P, sp ds S P → ds.length = ps.length)
    (hbody : ∀ (cdv : Value) (A : Around) (outer : List Env) (s : Shared) (H : Hp) (E : XK), DG.RoomG k (A.deeper (envOfC qual (defScope st) s.heap.objs.size f cdv)) →
      ∃ d : DS, JSs (cxOf CX0 P w K mg base N qual (defScope st) f cdv A outer s H E).nox (defBody st) d ∧ ∀ ds S P, sp ds S P → d (dEnd P) (ds.map some ++ List.replicate (N.length - ds.length) none) S) : FnD P w K mg base (k + 1) f fd ps sp := by
  refine DG.fun_ok F S (fun vs H Q E h => ?_) (fun cdv A outer s H vs Q E hr h => ?_)
  · obtain ⟨ds, I, S, F, P, r, ok, h, q⟩ := h
    rw [r.len]
    exact len _ _ _ h
  · obtain ⟨ds, I, S', F', P', r, ok, h, q⟩ := h
    obtain ⟨d, h1, h2⟩ := hbody cdv A outer s H E hr
    refine ⟨_, h1, _, I, S', F', _, repS_start r, ok, h2 ds S' P' h, ⟨?_, q, ?_, ?_⟩⟩
    · intro ρ S2 σ I2 H2 p e2 ok2 _
      exact q _ _ _ _ _ p e2 ok2 rep_non
    · intro ρ S2 σ I2 H2 p e2 ok2 _
      exact p.elim
    · intro ρ S2 σ I2 H2 p e2 ok2 _
      exact p.elim
end
end DL

namespace DL
open PySem PySem.Spec PyProof.Rows L2

/-! ### lists and tuples as data -/
def lstOf (S : Store) : D → Option (List D)
  | .lst ds => some ds
  | .ext ds => some ds
  | .obj a => match S a with
    | some (.lst ds) => some ds
    | _ => none
  | _ => none
def seqOf (S : Store) : D → Option (List D)
  | .tup ds => some ds
  | x => lstOf S x
section
variable {K : PySem.W.Frag} {I F H : Hp} {S : Store}
theorem lst_sq (ok : Ok K I S F H) {x : D} {v : V} {ds : List D} (r : Rep K I x v) (h : lstOf S x = some ds) : ∃ a xs, v = .ref a ∧ SqL K H a xs ∧ RepL K I ds xs := by
  cases x with
  | lst es =>
    simp only [lstOf, Option.some.injEq] at h; subst h
    obtain ⟨a, xs, rfl, e, rl⟩ := r.lst_of
    exact ⟨a, xs, rfl, .of (ok.i _ _ e), rl⟩
  | ext es =>
    simp only [lstOf, Option.some.injEq] at h; subst h
    obtain ⟨a, xs, rfl, e, rl⟩ := r.ext_of
    exact ⟨a, xs, rfl, ok.same.seq e, rl⟩
  | obj a =>
    unfold lstOf at h
    cases e : S a with
    | none => simp [e] at h
    | some m =>
      cases m with
      | lst es =>
        simp [e] at h; subst h
        obtain ⟨_, xs, q, rl⟩ := ok.s a _ e
        exact ⟨a, xs, r.obj_of, .of q, rl⟩
      | _ => simp [e] at h
  | _ => simp [lstOf] at h
/-- one that can be added to, repeated: tracked by itself -/
theorem lst_hp (ok : Ok K I S F H) {x : D} {v : V} {ds : List D} (r : Rep K I x v) (h : lstOf S x = some ds) (ne : ∀ es, x ≠ .ext es) : ∃ a xs, v = .ref a ∧ H a = some (.lst xs) ∧ RepL K I ds xs := by
  cases x with
  | lst es =>
    simp only [lstOf, Option.some.injEq] at h; subst h
    obtain ⟨a, xs, rfl, e, rl⟩ := r.lst_of
    exact ⟨a, xs, rfl, ok.i _ _ e, rl⟩
  | ext es => exact absurd rfl (ne es)
  | obj a =>
    unfold lstOf at h
    cases e : S a with
    | none => simp [e] at h
    | some m =>
      cases m with
      | lst es =>
        simp [e] at h; subst h
        obtain ⟨_, xs, q, rl⟩ := ok.s a _ e
        exact ⟨a, xs, r.obj_of, q, rl⟩
      | _ => simp [e] at h
  | _ => simp [lstOf] at h
theorem tup_sq (ok : Ok K I S F H) {v : V} {ds : List D} (r : Rep K I (.tup ds) v) : ∃ a xs, v = .ref a ∧ SqT K H a xs ∧ RepL K I ds xs := by
  obtain ⟨a, xs, rfl, e, rl⟩ := r.tup_of
  exact ⟨a, xs, rfl, sqT_same ok.same e, rl⟩
end

/-! ### arithmetic -/
def MulB (i j : Int) : Prop := CMul i j ∨ CMulW i j
def DivB (j : Int) : Prop := j ≠ 0 ∧ j.natAbs.log2 < 9000
def dAdd : D2 := fun x y S P => match x, y with
  | .int i, .int j => P (.int (i + j)) S
  | .str a, .str b => a.length + b.length ≤ 100000 ∧ P (.str (a ++ b)) S
  | .tup xs, .tup ys => xs.length + ys.length ≤ 100000 ∧ P (.tup (xs ++ ys)) S
  | .ext _, _ => False
  | _, .ext _ => False
  | x, y => match lstOf S x, lstOf S y with
    | some xs, some ys => xs.length + ys.length ≤ 100000 ∧ P (.lst (xs ++ ys)) S
    | _, _ => False
def dSub : D2 := fun x y S P => match x, y with
  | .int i, .int j => P (.int (i - j)) S
  | _, _ => False
def dMul : D2 := fun x y S P => match x, y with
  | .int i, .int j => MulB i j ∧ P (.int (i * j)) S
  | .lst xs, .int k => -(2 ^ 63) ≤ k ∧ k < 2 ^ 63 ∧ xs.length * k.toNat ≤ 100000 ∧ P (.lst (List.replicate k.toNat xs).flatten) S
  | _, _ => False
def dFdiv : D2 := fun x y S P => match x, y with
  | .int i, .int j => DivB j ∧ P (.int (i.fdiv j)) S
  | _, _ => False
def dMod : D2 := fun x y S P => match x, y with
  | .int i, .int j => 0 < j ∧ P (.int (i % j)) S
  | _, _ => False
def dPow : D2 := fun x y S P => match x, y with
  | .int i, .int j => CPow i j ∧ P (.int (i ^ j.toNat)) S
  | _, _ => False
def dNeg : D1 := fun x S P => match x with
  | .int i => P (.int (-i)) S
  | _ => False
def dLt : D2 := fun x y S P => match x, y with
  | .int i, .int j => P (.bl (decide (i < j))) S
  | _, _ => False
def dLe : D2 := fun x y S P => match x, y with
  | .int i, .int j => P (.bl (decide (i ≤ j))) S
  | _, _ => False
def dGt : D2 := fun x y S P => match x, y with
  | .int i, .int j => P (.bl (decide (j < i))) S
  | _, _ => False
def dGe : D2 := fun x y S P => match x, y with
  | .int i, .int j => P (.bl (decide (j ≤ i))) S
  | _, _ => False
section
variable {X : Cx} {pos : Pos} {a b : Expr} {da db : DE}
theorem op_mulA : OpR X (binaryOp .Mult) (rI MulB fun i j => .int (i * j)) := opI fun i j _ _ _ _ _ hc q => by
  rcases hc with h | h
  · exact mul_int q h.ok
  · exact mul_int q h.ok
theorem op_fdivA : OpR X (binaryOp .FloorDiv) (rI (fun _ j => DivB j) fun i j => .int (i.fdiv j)) := opI fun i j _ _ _ _ _ hc q => floordiv_int hc.1 q (.inl (PyProof.noPylong_of_log2 hc.2))
theorem i_add {K : PySem.W.Frag} : Imp2 K (fun x y H Q => (rI0 fun i j => .int (i + j)) x y H Q ∨ (∃ i j, x = .str i ∧ y = .str j ∧ i.length + j.length ≤ sizeLine ∧ Q (.str (i ++ j)) H) ∨ rCatA K x y H Q ∨ rCat x y H Q) dAdd := by
  intro x y v w I S F H P Q ok rx ry h q
  have lists : ∀ xs ys, lstOf S x = some xs → lstOf S y = some ys → (∀ es, x ≠ .ext es) → (∀ es, y ≠ .ext es) → xs.length + ys.length ≤ 100000 → P (.lst (xs ++ ys)) S → rCat v w H Q := fun xs ys ex ey nx ny hl p => by
    obtain ⟨l, xs', rfl, h1, r1⟩ := lst_hp ok rx ex nx
    obtain ⟨l', ys', rfl, h2, r2⟩ := lst_hp ok ry ey ny
    exact ⟨l, l', xs', ys', rfl, rfl, h1, h2, line5 (by rw [r1.len, r2.len]; exact hl), fun p' hp => q _ _ _ _ _ p (same_new (ok.freshI hp)) (ok.newI hp) (rep_new_lst (ok.freshI hp) (r1.app r2))⟩
  unfold dAdd at h
  split at h
  · cases rx.int_of; cases ry.int_of
    exact .inl ⟨_, _, rfl, rfl, q _ _ _ _ _ h (Same.refl I) ok rep_int⟩
  · cases rx.str_of; cases ry.str_of
    exact .inr (.inl ⟨_, _, rfl, rfl, line5 h.1, q _ _ _ _ _ h.2 (Same.refl I) ok rep_str⟩)
  · rename_i xs ys
    obtain ⟨l, xs', rfl, h1, r1⟩ := tup_sq ok rx
    obtain ⟨l', ys', rfl, h2, r2⟩ := tup_sq ok ry
    refine .inr (.inr (.inl ⟨l, l', xs', ys', rfl, rfl, h1, h2, line5 (by rw [r1.len, r2.len]; exact h.1), fun e => ?_, fun _ e => ?_, fun _ _ p hp => ?_⟩))
    · have : xs = [] := by
        have := r1.len; rw [e] at this
        exact List.eq_nil_of_length_eq_zero this.symm
      subst this
      exact q _ _ _ _ _ h.2 (Same.refl I) ok (by simpa using ry)
    · have : ys = [] := by
        have := r2.len; rw [e] at this
        exact List.eq_nil_of_length_eq_zero this.symm
      subst this
      exact q _ _ _ _ _ h.2 (Same.refl I) ok (by simpa using rx)
    · exact q _ _ _ _ _ h.2 (same_new (ok.freshI hp)) (ok.newI hp) (rep_new_tup (ok.freshI hp) (r1.app r2))
  · exact h.elim
  · exact h.elim
  · split at h
    · rename_i xs ys e1 e2
      refine .inr (.inr (.inr (lists xs ys e1 e2 (fun es z => ?_) (fun es z => ?_) h.1 h.2)))
      · simp_all
      · simp_all
    · exact h.elim
theorem je_add (ha : JE X a da) (hb : JE X b db) : JE X (.BinOp a .Add b pos) (dOp dAdd da db) := je_op (op_add.or (op_add_str.or (op_catA.or op_cat))) i_add ha hb
theorem i_sub {K : PySem.W.Frag} : Imp2 K (rI0 fun i j => .int (i - j)) dSub := by
  intro x y v w I S F H P Q ok rx ry h q
  unfold dSub at h
  split at h
  · cases rx.int_of; cases ry.int_of
    exact ⟨_, _, rfl, rfl, q _ _ _ _ _ h (Same.refl I) ok rep_int⟩
  · exact h.elim
theorem je_sub (ha : JE X a da) (hb : JE X b db) : JE X (.BinOp a .Sub b pos) (dOp dSub da db) := je_op op_sub i_sub ha hb
theorem repL_rep {K : PySem.W.Frag} {I : Hp} {ds : List D} {vs : List V} (h : RepL K I ds vs) : ∀ k : Nat, RepL K I (List.replicate k ds).flatten (List.replicate k vs).flatten
  | 0 => by simpa using RepL.nil
  | k + 1 => by
    simp only [List.replicate_succ, List.flatten_cons]
    exact h.app (repL_rep h k)
theorem i_mul {K : PySem.W.Frag} : Imp2 K (fun x y H Q => (rI MulB fun i j => .int (i * j)) x y H Q ∨ rRep x y H Q) dMul := by
  intro x y v w I S F H P Q ok rx ry h q
  unfold dMul at h
  split at h
  · cases rx.int_of; cases ry.int_of
    exact .inl ⟨_, _, rfl, rfl, h.1, q _ _ _ _ _ h.2 (Same.refl I) ok rep_int⟩
  · rename_i xs k
    obtain ⟨l, xs', rfl, h1, r1⟩ := rx.lst_of
    cases ry.int_of
    exact .inr ⟨l, k, xs', rfl, rfl, ok.i _ _ h1, h.1, h.2.1, line5 (by rw [r1.len]; exact h.2.2.1), fun p hp => q _ _ _ _ _ h.2.2.2 (same_new (ok.freshI hp)) (ok.newI hp) (rep_new_lst (ok.freshI hp) (repL_rep r1 _))⟩
  · exact h.elim
theorem je_mul (ha : JE X a da) (hb : JE X b db) : JE X (.BinOp a .Mult b pos) (dOp dMul da db) := je_op (op_mulA.or op_rep) i_mul ha hb
theorem i_fdiv {K : PySem.W.Frag} : Imp2 K (rI (fun _ j => DivB j) fun i j => .int (i.fdiv j)) dFdiv := by
  intro x y v w I S F H P Q ok rx ry h q
  unfold dFdiv at h
  split at h
  · cases rx.int_of; cases ry.int_of
    exact ⟨_, _, rfl, rfl, h.1, q _ _ _ _ _ h.2 (Same.refl I) ok rep_int⟩
  · exact h.elim
theorem je_fdiv (ha : JE X a da) (hb : JE X b db) : JE X (.BinOp a .FloorDiv b pos) (dOp dFdiv da db) := je_op op_fdivA i_fdiv ha hb
theorem i_mod {K : PySem.W.Frag} : Imp2 K (rI (fun _ j => 0 < j) fun i j => .int (i % j)) dMod := by
  intro x y v w I S F H P Q ok rx ry h q
  unfold dMod at h
  split at h
  · cases rx.int_of; cases ry.int_of
    exact ⟨_, _, rfl, rfl, h.1, q _ _ _ _ _ h.2 (Same.refl I) ok rep_int⟩
  · exact h.elim
theorem je_mod (ha : JE X a da) (hb : JE X b db) : JE X (.BinOp a .Mod b pos) (dOp dMod da db) := je_op op_mod i_mod ha hb
theorem i_pow {K : PySem.W.Frag} : Imp2 K (rI CPow fun i j => .int (i ^ j.toNat)) dPow := by
  intro x y v w I S F H P Q ok rx ry h q
  unfold dPow at h
  split at h
  · cases rx.int_of; cases ry.int_of
    exact ⟨_, _, rfl, rfl, h.1, q _ _ _ _ _ h.2 (Same.refl I) ok rep_int⟩
  · exact h.elim
theorem je_pow (ha : JE X a da) (hb : JE X b db) : JE X (.BinOp a .Pow b pos) (dOp dPow da db) := je_op op_pow i_pow ha hb
theorem i_neg {K : PySem.W.Frag} : Imp1 K (rU fun i => .int (-i)) dNeg := by
  intro x v I S F H P Q ok rx h q
  unfold dNeg at h
  split at h
  · cases rx.int_of
    exact ⟨_, rfl, q _ _ _ _ _ h (Same.refl I) ok rep_int⟩
  · exact h.elim
theorem je_neg (ha : JE X a da) : JE X (.UnaryOp .USub a pos) (dUn dNeg da) := je_un un_neg i_neg ha
theorem i_lt {K : PySem.W.Frag} : Imp2 K (rI0 fun i j => .bl (decide (i < j))) dLt := by
  intro x y v w I S F H P Q ok rx ry h q
  unfold dLt at h
  split at h
  · cases rx.int_of; cases ry.int_of
    exact ⟨_, _, rfl, rfl, q _ _ _ _ _ h (Same.refl I) ok rep_bl⟩
  · exact h.elim
theorem i_gt {K : PySem.W.Frag} : Imp2 K (rI0 fun i j => .bl (decide (j < i))) dGt := by
  intro x y v w I S F H P Q ok rx ry h q
  unfold dGt at h
  split at h
  · cases rx.int_of; cases ry.int_of
    exact ⟨_, _, rfl, rfl, q _ _ _ _ _ h (Same.refl I) ok rep_bl⟩
  · exact h.elim
theorem i_ge {K : PySem.W.Frag} : Imp2 K (rI0 fun i j => .bl (decide (j ≤ i))) dGe := by
  intro x y v w I S F H P Q ok rx ry h q
  unfold dGe at h
  split at h
  · cases rx.int_of; cases ry.int_of
    exact ⟨_, _, rfl, rfl, q _ _ _ _ _ h (Same.refl I) ok rep_bl⟩
  · exact h.elim
theorem je_lt (ha : JE X a da) (hb : JE X b db) : JE X (.Compare a [.Lt] [b] pos) (dOp dLt da db) := je_cmp op_lt i_lt ha hb (nomark _)
theorem je_ge (ha : JE X a da) (hb : JE X b db) : JE X (.Compare a [.GtE] [b] pos) (dOp dGe da db) := je_cmp op_ge i_ge ha hb (nomark _)
theorem jt_lt (ha : JE X a da) (hb : JE X b db) : JT X (.Compare a [.Lt] [b] pos) (dTest (dOp dLt da db)) := jt_cmp op_lt i_lt ha hb (nomark _)
theorem jt_gt (ha : JE X a da) (hb : JE X b db) : JT X (.Compare a [.Gt] [b] pos) (dTest (dOp dGt da db)) := jt_cmp op_gt i_gt ha hb (nomark _)
theorem jt_ge (ha : JE X a da) (hb : JE X b db) : JT X (.Compare a [.GtE] [b] pos) (dTest (dOp dGe da db)) := jt_cmp op_ge i_ge ha hb (nomark _)

end

/-! ### == and != -/
mutual
def D.py : D → Option PyData
  | .non => some .none
  | .bl b => some (.bool b)
  | .int i => some (.int i)
  | .str s => some (.str s)
  | .lst ds => (D.pyL ds).map .list
  | .ext ds => (D.pyL ds).map .list
  | .tup ds => (D.pyL ds).map .tuple
  | .tq ds => (D.pyL ds).map .tuple
  | .ty _ => none
  | .obj _ => none
def D.pyL : List D → Option (List PyData)
  | [] => some []
  | d :: ds => match d.py, D.pyL ds with
    | some p, some ps => some (p :: ps)
    | _, _ => none
end
section
variable {K : PySem.W.Frag} {I H : Hp}
mutual
theorem rep_dp (e : Same I H) : ∀ (d : D) (v : V) (p : PyData), Rep K I d v → d.py = some p → Dp K H v p
  | .non, v, p, h, q => by cases h.non_of; simp only [D.py, Option.some.injEq] at q; subst q; exact .non
  | .bl b, v, p, h, q => by cases h.bl_of; simp only [D.py, Option.some.injEq] at q; subst q; exact .bl b
  | .int b, v, p, h, q => by cases h.int_of; simp only [D.py, Option.some.injEq] at q; subst q; exact .int b
  | .str b, v, p, h, q => by cases h.str_of; simp only [D.py, Option.some.injEq] at q; subst q; exact .str b
  | .lst ds, v, p, h, q => by
    obtain ⟨a, xs, rfl, h1, r⟩ := h.lst_of
    simp only [D.py] at q
    cases z : D.pyL ds with
    | none => rw [z] at q; cases q
    | some ps =>
      rw [z] at q; simp only [Option.map_some, Option.some.injEq] at q; subst q
      exact .lst (.of (e _ _ h1)) (rep_dpL e ds xs ps r z)
  | .ext ds, v, p, h, q => by
    obtain ⟨a, xs, rfl, h1, r⟩ := h.ext_of
    simp only [D.py] at q
    cases z : D.pyL ds with
    | none => rw [z] at q; cases q
    | some ps =>
      rw [z] at q; simp only [Option.map_some, Option.some.injEq] at q; subst q
      exact .lst (e.seq h1) (rep_dpL e ds xs ps r z)
  | .tup ds, v, p, h, q => by
    obtain ⟨a, xs, rfl, h1, r⟩ := h.tup_of
    simp only [D.py] at q
    cases z : D.pyL ds with
    | none => rw [z] at q; cases q
    | some ps =>
      rw [z] at q; simp only [Option.map_some, Option.some.injEq] at q; subst q
      exact .tup (sqT_same e h1) (rep_dpL e ds xs ps r z)
  | .tq ds, v, p, h, q => by
    obtain ⟨a, xs, rfl, h1, r⟩ := h.tq_of
    simp only [D.py] at q
    cases z : D.pyL ds with
    | none => rw [z] at q; cases q
    | some ps =>
      rw [z] at q; simp only [Option.map_some, Option.some.injEq] at q; subst q
      exact .tup (sqT_same e (.inl h1)) (rep_dpL e ds xs ps r z)
  | .ty _, v, p, h, q => by simp [D.py] at q
  | .obj _, v, p, h, q => by simp [D.py] at q
theorem rep_dpL (e : Same I H) : ∀ (ds : List D) (vs : List V) (ps : List PyData), RepL K I ds vs → D.pyL ds = some ps → DpAll K H vs ps
  | [], vs, ps, h, q => by
    simp only [RepL] at h
    simp only [D.pyL, Option.some.injEq] at q
    subst h q; exact .nil
  | d :: ds, vs, ps, h, q => by
    simp only [RepL] at h
    obtain ⟨v, r, rfl, h1, h2⟩ := h
    simp only [D.pyL] at q
    cases e1 : d.py with
    | none => rw [e1] at q; cases q
    | some p =>
      cases e2 : D.pyL ds with
      | none => rw [e1, e2] at q; cases q
      | some ps' =>
        rw [e1, e2] at q; simp only [Option.some.injEq] at q; subst q
        exact .cons (rep_dp e d v p h1 e1) (rep_dpL e ds r ps' h2 e2)
end
end
/-- what == gives of two data -/
def dEqB : D → D → Option Bool
  | .int i, .int j => some (decide (i = j))
  | .bl i, .bl j => some (decide (i = j))
  | .str i, .str j => some (decide (i = j))
  | .non, .non => some true
  | .non, .int _ => some false
  | .int _, .non => some false
  | .non, .str _ => some false
  | .str _, .non => some false
  | .non, .bl _ => some false
  | .bl _, .non => some false
  | .int _, .str _ => some false
  | .str _, .int _ => some false
  | .bl _, .str _ => some false
  | .str _, .bl _ => some false
  | x, y => match x.py, y.py with
    | some p, some q => if SeqAt.shaped p = true ∧ SeqAt.shaped q = true then some (PyData.eqv p q) else none
    | _, _ => none
def dEq : D2 := fun x y S P => match dEqB x y with
  | some k => P (.bl k) S
  | none => False
def dNe : D2 := fun x y S P => match dEqB x y with
  | some k => P (.bl (!k)) S
  | none => False
section
variable {K : PySem.W.Frag}
theorem eqB_of {I H : Hp} {x y : D} {v w : V} {k : Bool} (e : Same I H) (rx : Rep K I x v) (ry : Rep K I y w) (h : dEqB x y = some k) :
    (scal v w = true ∧ decide (v = w) = k) ∨ ∃ p q, Dp K H v p ∧ Dp K H w q ∧ SeqAt.shaped p = true ∧ SeqAt.shaped q = true ∧ PyData.eqv p q = k := by
  unfold dEqB at h
  split at h
  case h_1 => cases rx.int_of; cases ry.int_of; cases h; exact .inl ⟨rfl, by simp⟩
  case h_2 => cases rx.bl_of; cases ry.bl_of; cases h; exact .inl ⟨rfl, by simp⟩
  case h_3 => cases rx.str_of; cases ry.str_of; cases h; exact .inl ⟨rfl, by simp⟩
  case h_4 => cases rx.non_of; cases ry.non_of; cases h; exact .inl ⟨rfl, by simp⟩
  case h_5 => cases rx.non_of; cases ry.int_of; cases h; exact .inl ⟨rfl, by simp⟩
  case h_6 => cases rx.int_of; cases ry.non_of; cases h; exact .inl ⟨rfl, by simp⟩
  case h_7 => cases rx.non_of; cases ry.str_of; cases h; exact .inl ⟨rfl, by simp⟩
  case h_8 => cases rx.str_of; cases ry.non_of; cases h; exact .inl ⟨rfl, by simp⟩
  case h_9 => cases rx.non_of; cases ry.bl_of; cases h; exact .inl ⟨rfl, by simp⟩
  case h_10 => cases rx.bl_of; cases ry.non_of; cases h; exact .inl ⟨rfl, by simp⟩
  case h_11 => cases rx.int_of; cases ry.str_of; cases h; exact .inl ⟨rfl, by simp⟩
  case h_12 => cases rx.str_of; cases ry.int_of; cases h; exact .inl ⟨rfl, by simp⟩
  case h_13 => cases rx.bl_of; cases ry.str_of; cases h; exact .inl ⟨rfl, by simp⟩
  case h_14 => cases rx.str_of; cases ry.bl_of; cases h; exact .inl ⟨rfl, by simp⟩
  case h_15 =>
    split at h
    · rename_i p q e1 e2
      split at h
      · rename_i hs
        cases h
        exact .inr ⟨p, q, rep_dp e _ _ _ rx e1, rep_dp e _ _ _ ry e2, hs.1, hs.2, rfl⟩
      · cases h
    · cases h
theorem i_eq : Imp2 K (fun x y H Q => rEq x y H Q ∨ rEqD K x y H Q) dEq := by
  intro x y v w I S F H P Q ok rx ry h q
  unfold dEq at h
  split at h
  · rename_i k e
    rcases eqB_of ok.same rx ry e with ⟨h1, h2⟩ | ⟨p, p', h1, h2, h3, h4, h5⟩
    · exact .inl ⟨h1, by rw [h2]; exact q _ _ _ _ _ h (Same.refl I) ok rep_bl⟩
    · exact .inr ⟨p, p', h1, h2, h3, h4, by rw [h5]; exact q _ _ _ _ _ h (Same.refl I) ok rep_bl⟩
  · exact h.elim
theorem i_ne : Imp2 K (fun x y H Q => rNe x y H Q ∨ rNeD K x y H Q) dNe := by
  intro x y v w I S F H P Q ok rx ry h q
  unfold dNe at h
  split at h
  · rename_i k e
    rcases eqB_of ok.same rx ry e with ⟨h1, h2⟩ | ⟨p, p', h1, h2, h3, h4, h5⟩
    · exact .inl ⟨h1, by rw [h2]; exact q _ _ _ _ _ h (Same.refl I) ok rep_bl⟩
    · exact .inr ⟨p, p', h1, h2, h3, h4, by rw [h5]; exact q _ _ _ _ _ h (Same.refl I) ok rep_bl⟩
  · exact h.elim
variable {X : Cx} {pos : Pos} {a b : Expr} {da db : DE}
theorem je_eq {k : Nat} (hr : DG.RoomG k X.A) (ha : JE X a da) (hb : JE X b db) : JE X (.Compare a [.Eq] [b] pos) (dOp dEq da db) := je_cmp (op_eq.or (op_eqD hr.r.units)) i_eq ha hb (nomark _)
theorem jt_eq {k : Nat} (hr : DG.RoomG k X.A) (ha : JE X a da) (hb : JE X b db) : JT X (.Compare a [.Eq] [b] pos) (dTest (dOp dEq da db)) := jt_cmp (op_eq.or (op_eqD hr.r.units)) i_eq ha hb (nomark _)
theorem jt_ne {k : Nat} (hr : DG.RoomG k X.A) (ha : JE X a da) (hb : JE X b db) : JT X (.Compare a [.NotEq] [b] pos) (dTest (dOp dNe da db)) := jt_cmp (op_ne.or (op_neD hr.r.units)) i_ne ha hb (nomark _)
end

/-! ### is None, in -/
def isNon : D → Bool
  | .non => true
  | _ => false
def dIsN : D2 := fun x y S P => match y with
  | .non => P (.bl (isNon x)) S
  | _ => False
def dNotN : D2 := fun x y S P => match y with
  | .non => P (.bl (!isNon x)) S
  | _ => False
def isFlat : D → Bool
  | .non | .bl _ | .int _ | .str _ => true
  | _ => false
/-- y is in the list, as == has it, of flat things -/
def eqFlat : D → D → Bool
  | .non, .non => true
  | .bl a, .bl b => a == b
  | .bl a, .int j => (if a then 1 else 0) == j
  | .int i, .bl b => i == (if b then 1 else 0)
  | .int i, .int j => decide (i = j)
  | .str x, .str y => decide (x = y)
  | _, _ => false
def dIn (neg : Bool) : D2 := fun x y S P => match seqOf S y with
  | some ys => isFlat x = true ∧ ys.all isFlat = true ∧ P (.bl (if neg then !(ys.any fun z => eqFlat z x) else ys.any fun z => eqFlat z x)) S
  | none => False
section
variable {K : PySem.W.Frag} {I F H : Hp}
theorem flat_rep {x : D} {v : V} (r : Rep K I x v) (h : isFlat x = true) : flatV v = true := by
  cases x with
  | non => cases r.non_of; rfl
  | bl b => cases r.bl_of; rfl
  | int i => cases r.int_of; rfl
  | str s => cases r.str_of; rfl
  | _ => simp [isFlat] at h
theorem eqFlat_rep {x y : D} {v w : V} (rx : Rep K I x v) (ry : Rep K I y w) (hx : isFlat x = true) (hy : isFlat y = true) : eqV v w = eqFlat x y := by
  cases x <;> simp only [isFlat, Bool.false_eq_true] at hx <;> cases y <;> simp only [isFlat, Bool.false_eq_true] at hy <;>
    simp only [Rep] at rx ry <;> subst rx <;> subst ry <;> first | rfl | simp [eqV, eqFlat] | (simp [eqV, eqFlat]; done)
theorem flats_rep : ∀ {xs : List D} {vs : List V}, RepL K I xs vs → xs.all isFlat = true → vs.all flatV = true
  | [], vs, r, _ => by
    simp only [RepL] at r
    subst r; rfl
  | x :: xs, vs, r, h => by
    simp only [RepL] at r
    obtain ⟨v, r', rfl, h1, h2⟩ := r
    simp only [List.all_cons, Bool.and_eq_true] at h ⊢
    exact ⟨flat_rep h1 h.1, flats_rep h2 h.2⟩
theorem anys_rep {x : D} {v : V} (rx : Rep K I x v) (fx : isFlat x = true) : ∀ {xs : List D} {vs : List V}, RepL K I xs vs → xs.all isFlat = true → inV v vs = xs.any fun z => eqFlat z x
  | [], vs, r, _ => by
    simp only [RepL] at r
    subst r; rfl
  | y :: xs, vs, r, h => by
    simp only [RepL] at r
    obtain ⟨w, r', rfl, h1, h2⟩ := r
    simp only [List.all_cons, Bool.and_eq_true] at h
    show (eqV w v || inV v r') = _
    rw [eqFlat_rep h1 rx h.1 fx, anys_rep rx fx h2 h.2]
    rfl
theorem seq_sq (ok : Ok K I S F H) {x : D} {v : V} {ds : List D} (r : Rep K I x v) (h : seqOf S x = some ds) : ∃ a xs, v = .ref a ∧ (SqL K H a xs ∨ SqT K H a xs) ∧ RepL K I ds xs := by
  cases x with
  | tup es =>
    simp only [seqOf, Option.some.injEq] at h; subst h
    obtain ⟨a, xs, e, q, rl⟩ := tup_sq ok r
    exact ⟨a, xs, e, .inr q, rl⟩
  | _ =>
    simp only [seqOf] at h
    obtain ⟨a, xs, e, q, rl⟩ := lst_sq ok r h
    exact ⟨a, xs, e, .inl q, rl⟩
theorem i_in (neg : Bool) : Imp2 K (rIn K neg) (dIn neg) := by
  intro x y v w I S F H P Q ok rx ry h q
  unfold dIn at h
  split at h
  · rename_i ys e
    obtain ⟨a, vs, rfl, hs, rl⟩ := seq_sq ok ry e
    refine ⟨a, vs, rfl, hs, flat_rep rx h.1, flats_rep rl h.2.1, ?_⟩
    rw [anys_rep rx h.1 rl h.2.1]
    exact q _ _ _ _ _ h.2.2 (Same.refl I) ok rep_bl
  · exact h.elim
theorem isNon_rep {I : Hp} {x : D} {v : V} (r : Rep K I x v) : decide (v = .non) = isNon x := by
  cases x with
  | non => cases r.non_of; rfl
  | bl b => cases r.bl_of; rfl
  | int i => cases r.int_of; rfl
  | str s => cases r.str_of; rfl
  | ty n => simp only [Rep] at r; subst r; rfl
  | obj a => cases r.obj_of; rfl
  | lst ds => obtain ⟨a, xs, rfl, _⟩ := r.lst_of; rfl
  | ext ds => obtain ⟨a, xs, rfl, _⟩ := r.ext_of; rfl
  | tup ds => obtain ⟨a, xs, rfl, _⟩ := r.tup_of; rfl
  | tq ds => obtain ⟨a, xs, rfl, _⟩ := r.tq_of; rfl
theorem i_isN : Imp2 K (fun x y H Q => y = .non ∧ Q (.bl (decide (x = .non))) H) dIsN := by
  intro x y v w I S F H P Q ok rx ry h q
  unfold dIsN at h
  split at h
  · refine ⟨ry.non_of, ?_⟩
    rw [isNon_rep rx]
    exact q _ _ _ _ _ h (Same.refl I) ok rep_bl
  · exact h.elim
theorem i_notN : Imp2 K (fun x y H Q => y = .non ∧ Q (.bl (!decide (x = .non))) H) dNotN := by
  intro x y v w I S F H P Q ok rx ry h q
  unfold dNotN at h
  split at h
  · refine ⟨ry.non_of, ?_⟩
    rw [isNon_rep rx]
    exact q _ _ _ _ _ h (Same.refl I) ok rep_bl
  · exact h.elim
variable {X : Cx} {pos : Pos} {a b : Expr} {da db : DE}
theorem je_in (ha : JE X a da) (hb : JE X b db) (hm : behindInMarks .In b = false := by rfl) : JE X (.Compare a [.In] [b] pos) (dOp (dIn false) da db) := je_cmp op_in_seq (i_in false) ha hb hm
theorem jt_in (ha : JE X a da) (hb : JE X b db) (hm : behindInMarks .In b = false := by rfl) : JT X (.Compare a [.In] [b] pos) (dTest (dOp (dIn false) da db)) := jt_cmp op_in_seq (i_in false) ha hb hm
theorem je_isN (ha : JE X a da) (hb : JE X b db) : JE X (.Compare a [.Is] [b] pos) (dOp dIsN da db) := je_cmp op_isN i_isN ha hb (nomark _)
theorem je_notN (ha : JE X a da) (hb : JE X b db) : JE X (.Compare a [.IsNot] [b] pos) (dOp dNotN da db) := je_cmp op_notN i_notN ha hb (nomark _)
theorem jt_isN (ha : JE X a da) (hb : JE X b db) : JT X (.Compare a [.Is] [b] pos) (dTest (dOp dIsN da db)) := jt_cmp op_isN i_isN ha hb (nomark _)
end

/-! ### subscripts -/
def dIx : D2 := fun x y S P => match y with
  | .int i => match x with
    | .str z => z.length ≤ 100000 ∧ (match atI z.cps.toList i with
      | some c => P (.str ⟨#[c]⟩) S
      | none => False)
    | x => match seqOf S x with
      | some ds => match atI ds i with
        | some d => P d S
        | none => False
      | none => False
  | _ => False
def dcut (xs : List D) (lo hi : Option Int) : List D := (xs.drop (HT.sIx xs.length 0 lo)).take (HT.sIx xs.length xs.length hi - HT.sIx xs.length 0 lo)
abbrev DO := DSt → Store → (Option Int → Store → Prop) → Prop
def dNoPart : DO := fun _ S P => P none S
def dPart (d : DE) : DO := fun ρ S P => d ρ S fun x S1 => match x with
  | .int i => P (some i) S1
  | _ => False
def dSl (d : DE) (lo hi : DO) : DE := fun ρ S P => d ρ S fun x S1 => lo ρ S1 fun l S2 => hi ρ S2 fun u S3 => match x with
  | .tup ds => P (.tup (dcut ds l u)) S3
  | x => match lstOf S3 x with
    | some ds => P (.lst (dcut ds l u)) S3
    | none => False
section
variable {K : PySem.W.Frag} {I F H : Hp} {S : Store}
theorem atI_rep {ds : List D} {vs : List V} {i : Int} {d : D} (r : RepL K I ds vs) (h : atI ds i = some d) : ∃ v, atI vs i = some v ∧ Rep K I d v := by
  unfold atI at h ⊢
  rw [r.len]
  cases e : ixN ds.length i with
  | none => rw [e] at h; cases h
  | some j =>
    rw [e] at h
    exact r.get (i := j) h
theorem i_ix : Imp2 K (rIx K) dIx := by
  intro x y v w I S F H P Q ok rx ry h q
  unfold dIx at h
  split at h
  · rename_i i
    cases ry.int_of
    split at h
    · rename_i z
      cases rx.str_of
      obtain ⟨hl, h⟩ := h
      split at h
      · rename_i c e
        exact .inr (.inr ⟨_, _, c, rfl, rfl, line5 hl, e, q _ _ _ _ _ h (Same.refl I) ok rep_str⟩)
      · exact h.elim
    · split at h
      · rename_i ds e
        split at h
        · rename_i d e2
          obtain ⟨a, xs, rfl, hs, rl⟩ := seq_sq ok rx e
          obtain ⟨u, e3, r3⟩ := atI_rep rl e2
          rcases hs with hs | hs
          · exact .inl ⟨a, xs, i, u, rfl, rfl, hs, e3, q _ _ _ _ _ h (Same.refl I) ok r3⟩
          · exact .inr (.inl ⟨a, xs, i, u, rfl, rfl, hs, e3, q _ _ _ _ _ h (Same.refl I) ok r3⟩)
        · exact h.elim
      · exact h.elim
  · exact h.elim
theorem cut_rep {ds : List D} {vs : List V} (lo hi : Option Int) (r : RepL K I ds vs) : RepL K I (dcut ds lo hi) (cutV vs lo hi) := by
  unfold dcut cutV
  rw [r.len]
  exact (r.drop _).take _
variable {X : Cx} {pos : Pos} {a b : Expr} {da db : DE}
theorem je_ix (ha : JE X a da) (hb : JE X b db) (hs : PlainIx b := by exact fun _ _ => rfl) : JE X (.Subscript a b pos) (dOp dIx da db) := je_of (pe_ix ix_seq ha hb hs) (up_op i_ix)
def upO (K : PySem.W.Frag) (d : DO) : TO := fun σ H Q => ∃ ρ I S F P, RepS K I ρ σ ∧ Ok K I S F H ∧ d ρ S P ∧ ∀ o S' I' H', P o S' → Same I I' → Ok K I' S' F H' → Q o H'
abbrev JO (X : Cx) (e : Option Expr) (d : DO) : Prop := PO X e (upO X.K d)
theorem jo_of {X : Cx} {e : Option Expr} {t u : TO} (h : PO X e t) (i : ∀ σ H Q, u σ H Q → t σ H Q) : PO X e u := ⟨by
  intro pins s σ H Q I q
  exact h.run pins s σ H Q I (i _ _ _ q)⟩
theorem jo_none : JO X none dNoPart := jo_of po_none fun σ H Q h0_ => El54 h0_ fun ρ I S F P rs ok h q => q _ _ _ _ h (Same.refl I) ok
theorem jo_some (h : JE X a da) : JO X (some a) (dPart da) := jo_of (po_some h) fun σ H Q h0_ => El54 h0_ fun ρ I S F P rs ok hh q => ⟨ρ, I, S, F, _, rs, ok, hh, fun x S1 v I1 H1 h1 e1 ok1 r1 => by
  cases x with
  | int i => exact ⟨i, r1.int_of, q _ _ _ _ h1 e1 ok1⟩
  | _ => exact h1.elim⟩
theorem je_sl {lo hi : Option Expr} {dl dh : DO} {p2 : Pos} (he : JE X a da) (hl : JO X lo dl) (hu : JO X hi dh) : JE X (.Subscript a (.Slice lo hi none p2) pos) (dSl da dl dh) :=
  je_of (pe_slice (sl_list.or sl_tupA) he hl hu) fun σ H Q h0_ => El54 h0_ fun ρ I S F P rs ok h q =>
    ⟨ρ, I, S, F, _, rs, ok, h, fun x S1 v I1 H1 h1 e1 ok1 r1 => ⟨ρ, I1, S1, F, _, rs.mono e1, ok1, h1, fun l S2 I2 H2 h2 e2 ok2 => ⟨ρ, I2, S2, F, _, rs.mono (e1.trans e2), ok2, h2, fun u S3 I3 H3 h3 e3 ok3 => by
      have r3 : Rep X.K I3 x v := r1.mono (e2.trans e3)
      have e13 := (e1.trans e2).trans e3
      split at h3
      · rename_i ds
        obtain ⟨a, xs, rfl, hs, rl⟩ := tup_sq ok3 r3
        refine .inr ⟨a, xs, rfl, hs, fun ew => ?_, fun _ p hp => q _ _ _ _ _ h3 (e13.trans (same_new (ok3.freshI hp))) (ok3.newI hp) (rep_new_tup (ok3.freshI hp) (cut_rep _ _ rl))⟩
        have hw : dcut ds l u = ds := by
          unfold dcut
          rw [← rl.len, ew.1, ew.2, rl.len]
          simp
        rw [hw] at h3
        exact q _ _ _ _ _ h3 e13 ok3 r3
      · split at h3
        · rename_i ds e
          obtain ⟨a, xs, rfl, hs, rl⟩ := lst_sq ok3 r3 e
          exact .inl ⟨a, xs, rfl, hs, fun p hp => q _ _ _ _ _ h3 (e13.trans (same_new (ok3.freshI hp))) (ok3.newI hp) (rep_new_lst (ok3.freshI hp) (cut_rep _ _ rl))⟩
        · exact h3.elim⟩⟩⟩
/-- xs[::-1] -/
def dRevL (d : DE) : DE := fun ρ S P => d ρ S fun x S1 => match lstOf S1 x with
  | some ds => P (.lst ds.reverse) S1
  | none => False
end
end DL

namespace DL
open PySem PySem.Spec PyProof.Rows L2

/-! ### keywords -/
def pick {α : Type} (perm : List Nat) (us ws : List α) : List α := perm.filterMap fun i => (us ++ ws)[i]?
def dCallK (sp : DSp) (n m : Nat) (perm : List Nat) (a kw : DA) : DE := fun ρ S P => a ρ S fun xs S1 => kw ρ S1 fun ys S2 => xs.length = n ∧ ys.length = m ∧ sp (pick perm xs ys) S2 P
section
variable {X : Cx} {pos kpos : Pos} {a b : Expr} {da db : DE} {es : List Expr} {ds dk : DA} {kws : List Keyword} {nm : Option Str}
variable {k n : Nat} {f : Addr} {fd : FuncData} {ps ks : List Str} {sp : DSp} {x : Str} {p : Pos} {perm : List Nat}
end

/-! ### built-ins -/
def dInts : List D → Option (List Int)
  | [] => some []
  | .int i :: r => (dInts r).map (i :: ·)
  | _ => none
def dBools : List D → Option (List Bool)
  | [] => some []
  | .bl i :: r => (dBools r).map (i :: ·)
  | _ => none
theorem dBools_map : ∀ ns : List Bool, dBools (ns.map .bl) = some ns
  | [] => rfl
  | n :: ns => by simp [dBools, dBools_map ns]
theorem dBools_rep {K : PySem.W.Frag} {I : Hp} : ∀ {ds : List D} {vs : List V} {ns : List Bool}, RepL K I ds vs → dBools ds = some ns → vs = ns.map V.bl
  | [], vs, ns, r, h => by
    simp only [RepL] at r
    simp only [dBools, Option.some.injEq] at h
    subst r h; rfl
  | d :: ds, vs, ns, r, h => by
    simp only [RepL] at r
    obtain ⟨v, r', rfl, h1, h2⟩ := r
    cases d with
    | bl i =>
      simp only [dBools] at h
      cases e : dBools ds with
      | none => rw [e] at h; cases h
      | some ms =>
        rw [e] at h
        simp only [Option.map_some, Option.some.injEq] at h
        subst h
        rw [dBools_rep h2 e, h1.bl_of]; rfl
    | _ => simp [dBools] at h
def cAbs : DC := fun xs S P => match xs with
  | [.int i] => P (.int (if i < 0 then -i else i)) S
  | _ => False
def cMax2 : DC := fun xs S P => match xs with
  | [.int i, .int j] => P (.int (if j > i then j else i)) S
  | _ => False
def cMin2 : DC := fun xs S P => match xs with
  | [.int i, .int j] => P (.int (if j < i then j else i)) S
  | _ => False
def cAny : DC := fun xs S P => match xs with
  | [x] => match (lstOf S x).bind dBools with
    | some ns => P (.bl (ns.any id)) S
    | none => False
  | _ => False
def cAll : DC := fun xs S P => match xs with
  | [x] => match (lstOf S x).bind dBools with
    | some ns => P (.bl (ns.all id)) S
    | none => False
  | _ => False
def cInt : DC := fun xs S P => match xs with
  | [.int i] => P (.int i) S
  | [.bl k] => P (.int (if k then 1 else 0)) S
  | _ => False
def cLen : DC := fun xs S P => match xs with
  | [.str z] => z.length ≤ 100000 ∧ P (.int z.length) S
  | [x] => match seqOf S x with
    | some ds => P (.int ds.length) S
    | none => False
  | _ => False
def cList : DC := fun xs S P => match xs with
  | [x] => match seqOf S x with
    | some ds => P (.lst ds) S
    | none => False
  | _ => False
def cTuple : DC := fun xs S P => match xs with
  | [x] => match seqOf S x with
    | some ds => P (.tup ds) S
    | none => False
  | _ => False
section
variable {K : PySem.W.Frag}
theorem i_abs : ImpC K (fun xs H Q => ∃ i, xs = [.int i] ∧ Q (.int (if i < 0 then -i else i)) H) cAbs := by
  intro xs vs I S F H P Q ok r h q
  unfold cAbs at h
  split at h
  · obtain ⟨v, rfl, rv⟩ := r.inv1
    cases rv.int_of
    exact ⟨_, rfl, q _ _ _ _ _ h (Same.refl I) ok rep_int⟩
  · exact h.elim
theorem i_max2 : ImpC K (fun xs H Q => ∃ i j, xs = [.int i, .int j] ∧ Q (.int (if j > i then j else i)) H) cMax2 := by
  intro xs vs I S F H P Q ok r h q
  unfold cMax2 at h
  split at h
  · obtain ⟨v, w, rfl, rv, rw⟩ := r.inv2
    cases rv.int_of; cases rw.int_of
    exact ⟨_, _, rfl, q _ _ _ _ _ h (Same.refl I) ok rep_int⟩
  · exact h.elim
theorem i_min2 : ImpC K (fun xs H Q => ∃ i j, xs = [.int i, .int j] ∧ Q (.int (if j < i then j else i)) H) cMin2 := by
  intro xs vs I S F H P Q ok r h q
  unfold cMin2 at h
  split at h
  · obtain ⟨v, w, rfl, rv, rw⟩ := r.inv2
    cases rv.int_of; cases rw.int_of
    exact ⟨_, _, rfl, q _ _ _ _ _ h (Same.refl I) ok rep_int⟩
  · exact h.elim
theorem lstBools {I F H : Hp} {S : Store} (ok : Ok K I S F H) {x : D} {v : V} {ns : List Bool} (r : Rep K I x v) (h : (lstOf S x).bind dBools = some ns) : ∃ a, v = .ref a ∧ SqL K H a (ns.map V.bl) := by
  cases e : lstOf S x with
  | none => rw [e] at h; cases h
  | some ds =>
    rw [e] at h
    obtain ⟨a, xs, rfl, hs, rl⟩ := lst_sq ok r e
    exact ⟨a, rfl, by rw [← dBools_rep rl h]; exact hs⟩
theorem i_any : ImpC K (rAny K) cAny := by
  intro xs vs I S F H P Q ok r h q
  unfold cAny at h
  split at h
  · split at h
    · rename_i ns e
      obtain ⟨v, rfl, rv⟩ := r.inv1
      obtain ⟨a, rfl, hs⟩ := lstBools ok rv e
      exact ⟨a, ns, rfl, hs, q _ _ _ _ _ h (Same.refl I) ok rep_bl⟩
    · exact h.elim
  · exact h.elim
theorem i_all : ImpC K (rAll K) cAll := by
  intro xs vs I S F H P Q ok r h q
  unfold cAll at h
  split at h
  · split at h
    · rename_i ns e
      obtain ⟨v, rfl, rv⟩ := r.inv1
      obtain ⟨a, rfl, hs⟩ := lstBools ok rv e
      exact ⟨a, ns, rfl, hs, q _ _ _ _ _ h (Same.refl I) ok rep_bl⟩
    · exact h.elim
  · exact h.elim
theorem i_int : ImpC K (fun xs H Q => (∃ i, xs = [.int i] ∧ Q (.int i) H) ∨ ∃ k, xs = [.bl k] ∧ Q (.int (if k then 1 else 0)) H) cInt := by
  intro xs vs I S F H P Q ok r h q
  unfold cInt at h
  split at h
  · obtain ⟨v, rfl, rv⟩ := r.inv1
    cases rv.int_of
    exact .inl ⟨_, rfl, q _ _ _ _ _ h (Same.refl I) ok rep_int⟩
  · obtain ⟨v, rfl, rv⟩ := r.inv1
    cases rv.bl_of
    exact .inr ⟨_, rfl, q _ _ _ _ _ h (Same.refl I) ok rep_int⟩
  · exact h.elim
theorem i_len : ImpC K (fun xs H Q => (∃ p ys, xs = [.ref p] ∧ (SqL K H p ys ∨ SqT K H p ys) ∧ Q (.int ys.length) H) ∨ ∃ z, xs = [.str z] ∧ z.length ≤ sizeLine ∧ Q (.int z.length) H) cLen := by
  intro xs vs I S F H P Q ok r h q
  unfold cLen at h
  split at h
  · obtain ⟨v, rfl, rv⟩ := r.inv1
    cases rv.str_of
    exact .inr ⟨_, rfl, line5 h.1, q _ _ _ _ _ h.2 (Same.refl I) ok rep_int⟩
  · split at h
    · rename_i ds e
      obtain ⟨v, rfl, rv⟩ := r.inv1
      obtain ⟨a, xs, rfl, hs, rl⟩ := seq_sq ok rv e
      exact .inl ⟨a, xs, rfl, hs, by rw [rl.len]; exact q _ _ _ _ _ h (Same.refl I) ok rep_int⟩
    · exact h.elim
  · exact h.elim
theorem i_list : ImpC K (fun xs H Q => ∃ p ys, xs = [.ref p] ∧ (SqL K H p ys ∨ SqT K H p ys) ∧ ∀ l, H l = none → Q (.ref l) (upd H l (.lst ys))) cList := by
  intro xs vs I S F H P Q ok r h q
  unfold cList at h
  split at h
  · split at h
    · rename_i ds e
      obtain ⟨v, rfl, rv⟩ := r.inv1
      obtain ⟨a, xs, rfl, hs, rl⟩ := seq_sq ok rv e
      exact ⟨a, xs, rfl, hs, fun l hl => q _ _ _ _ _ h (same_new (ok.freshI hl)) (ok.newI hl) (rep_new_lst (ok.freshI hl) rl)⟩
    · exact h.elim
  · exact h.elim
theorem i_tuple : ImpC K (fun xs H Q => ∃ p ys, xs = [.ref p] ∧ ((SqL K H p ys ∧ ∀ l, H l = none → Q (.ref l) (upd H l (.tup ys))) ∨ (SqT K H p ys ∧ Q (.ref p) H))) cTuple := by
  intro xs vs I S F H P Q ok r h q
  unfold cTuple at h
  split at h
  · rename_i x
    split at h
    · rename_i ds e
      obtain ⟨v, rfl, rv⟩ := r.inv1
      cases x with
      | tup es =>
        simp only [seqOf, Option.some.injEq] at e; subst e
        obtain ⟨a, xs, rfl, hs, rl⟩ := tup_sq ok rv
        exact ⟨a, xs, rfl, .inr ⟨hs, q _ _ _ _ _ h (Same.refl I) ok rv⟩⟩
      | _ =>
        simp only [seqOf] at e
        obtain ⟨a, xs, rfl, hs, rl⟩ := lst_sq ok rv e
        exact ⟨a, xs, rfl, .inl ⟨hs, fun l hl => q _ _ _ _ _ h (same_new (ok.freshI hl)) (ok.newI hl) (rep_new_tup (ok.freshI hl) rl)⟩⟩
    · exact h.elim
  · exact h.elim
/-! isinstance -/
def tyName (S : Store) : D → Option String
  | .non => some "NoneType"
  | .bl _ => some "bool"
  | .int _ => some "int"
  | .str _ => some "str"
  | .lst _ => some "list"
  | .tup _ => some "tuple"
  | .obj a => match S a with
    | some (.lst _) => some "list"
    | some (.dK _) => some "dict"
    | _ => none
  | _ => none
def isTy (m n : String) : Bool := m == n || (m == "bool" && n == "int")
def knownTy (n : String) : Bool := n == "bool" || n == "int" || n == "str" || n == "list" || n == "tuple" || n == "dict"
theorem kit_isTy : ∀ m ∈ ["NoneType", "bool", "int", "str", "list", "tuple", "dict"], ∀ n ∈ ["bool", "int", "str", "list", "tuple", "dict"], kitB m n = some (isTy m n) := by decide +kernel
theorem tyName_in {S : Store} {x : D} {m : String} (h : tyName S x = some m) : m ∈ ["NoneType", "bool", "int", "str", "list", "tuple", "dict"] := by
  unfold tyName at h
  split at h <;> first | (cases h; done) | skip
  all_goals try (simp only [Option.some.injEq] at h; subst h; decide)
  split at h <;> first | (cases h; done) | skip
  all_goals (simp only [Option.some.injEq] at h; subst h; decide)
theorem known_in {n : String} (h : knownTy n = true) : n ∈ ["bool", "int", "str", "list", "tuple", "dict"] := by
  unfold knownTy at h
  simp only [Bool.or_eq_true, beq_iff_eq] at h
  rcases h with ((((h | h) | h) | h) | h) | h <;> simp [h]
theorem ty_x {I F H : Hp} {S : Store} (ok : Ok K I S F H) {x : D} {v : V} {m : String} (r : Rep K I x v) (h : tyName S x = some m) : TyX K H v (.type m) := by
  cases x with
  | non => cases r.non_of; simp only [tyName, Option.some.injEq] at h; subst h; exact .base .non
  | bl b => cases r.bl_of; simp only [tyName, Option.some.injEq] at h; subst h; exact .base (.bl b)
  | int b => cases r.int_of; simp only [tyName, Option.some.injEq] at h; subst h; exact .base (.int b)
  | str b => cases r.str_of; simp only [tyName, Option.some.injEq] at h; subst h; exact .base (.str b)
  | lst ds =>
    obtain ⟨a, xs, rfl, e, _⟩ := r.lst_of
    simp only [tyName, Option.some.injEq] at h; subst h; exact .base (.lst (ok.i _ _ e))
  | ext ds => simp [tyName] at h
  | ty n => simp [tyName] at h
  | tup ds =>
    obtain ⟨a, xs, rfl, e, _⟩ := tup_sq ok r
    simp only [tyName, Option.some.injEq] at h; subst h
    rcases e with (e | ⟨o, e⟩) | ⟨o, its, n, e, c, _⟩
    · exact .base (.tup e)
    · exact .fTuple e
    · exact .kTuple e c
  | tq ds => simp [tyName] at h
  | obj a =>
    cases r.obj_of
    simp only [tyName] at h
    split at h
    · rename_i ds e
      simp only [Option.some.injEq] at h; subst h
      obtain ⟨_, xs, q, _⟩ := ok.s a _ e
      exact .base (.lst q)
    · rename_i ds e
      simp only [Option.some.injEq] at h; subst h
      obtain ⟨_, xs, q, _⟩ := ok.s a _ e
      exact .base (.dK q)
    · cases h
def tys : List D → Option (List String)
  | [] => some []
  | .ty n :: r => if knownTy n = true then (tys r).map (n :: ·) else none
  | _ => none
def cIsi : DC := fun xs S P => match xs with
  | [x, .ty n] => match tyName S x with
    | some m => knownTy n = true ∧ P (.bl (isTy m n)) S
    | none => False
  | [x, .tup cs] => match tyName S x, tys cs with
    | some m, some ns => P (.bl (ns.any fun n => isTy m n)) S
    | _, _ => False
  | _ => False
theorem tys_rep {I : Hp} {m : String} (hm : m ∈ ["NoneType", "bool", "int", "str", "list", "tuple", "dict"]) : ∀ {cs : List D} {vs : List V} {ns : List String}, RepL K I cs vs → tys cs = some ns →
    ∃ us : List Value, Paired ClsV vs us ∧ PySem.W.kitAny K (.type m) us = some (ns.any fun n => isTy m n)
  | [], vs, ns, r, h => by
    simp only [RepL] at r
    simp only [tys, Option.some.injEq] at h
    subst r h
    exact ⟨[], .nil, kitAny_nil⟩
  | d :: cs, vs, ns, r, h => by
    simp only [RepL] at r
    obtain ⟨v, r', rfl, h1, h2⟩ := r
    cases d with
    | ty n =>
      simp only [tys] at h
      split at h
      · rename_i hk
        cases e : tys cs with
        | none => rw [e] at h; cases h
        | some ms =>
          rw [e] at h
          simp only [Option.map_some, Option.some.injEq] at h
          subst h
          obtain ⟨us, p, q⟩ := tys_rep hm h2 e
          simp only [Rep] at h1
          subst h1
          refine ⟨.type n :: us, .cons (.ty n) p, kitAny_cons (b := isTy m n) (kit_ty (kit_isTy m hm n (known_in hk))) (fun e => ?_) (fun e => ?_)⟩
          · simp [e, q]
          · simp [e]
      · cases h
    | _ => simp [tys] at h
theorem i_isi : ImpC K (fun xs H Q => rIsi K xs H Q ∨ rIsiT K xs H Q ∨ rIsiK K xs H Q) cIsi := by
  intro xs vs I S F H P Q ok r h q
  unfold cIsi at h
  split at h
  · rename_i x n
    split at h
    · rename_i m e
      obtain ⟨v, w, rfl, rv, rw⟩ := r.inv2
      simp only [Rep] at rw
      subst rw
      exact .inl ⟨v, .ty n, .type m, .type n, isTy m n, rfl, .ty n, ty_x ok rv e, kit_ty (kit_isTy m (tyName_in e) n (known_in h.1)), q _ _ _ _ _ h.2 (Same.refl I) ok rep_bl⟩
    · exact h.elim
  · rename_i x cs
    split at h
    · rename_i m ns e1 e2
      obtain ⟨v, w, rfl, rv, rw⟩ := r.inv2
      obtain ⟨a, ys, rfl, hs, rl⟩ := rw.tup_of
      obtain ⟨us, p, hk⟩ := tys_rep (tyName_in e1) rl e2
      rcases hs with hs | ⟨o, its, n, lk, oc, od, _, vl⟩
      · exact .inr (.inl ⟨v, a, ys, .type m, us, _, rfl, ok.i _ _ hs, p, ty_x ok rv e1, hk, q _ _ _ _ _ h (Same.refl I) ok rep_bl⟩)
      · have eu := ClsV.all p vl
        obtain ⟨c1, d1, t1, sl1⟩ := o
        simp only at oc od
        subst oc od
        refine .inr (.inr ⟨v, a, d1, us, n, sl1, .type m, _, rfl, ?_, ty_x ok rv e1, hk, q _ _ _ _ _ h (Same.refl I) ok rep_bl⟩)
        rw [lk, ← eu]
    · exact h.elim
  · exact h.elim
end
end DL

namespace DL
open PySem PySem.Spec PyProof.Rows L2

/-! ### built-ins by name -/
theorem b_abs : bootBuiltins "abs" = some (.builtin "abs") := by decide +kernel
theorem b_max : bootBuiltins "max" = some (.builtin "max") := by decide +kernel
theorem b_min : bootBuiltins "min" = some (.builtin "min") := by decide +kernel
theorem b_len : bootBuiltins "len" = some (.builtin "len") := by decide +kernel
theorem b_any : bootBuiltins "any" = some (.builtin "any") := by decide +kernel
theorem b_all : bootBuiltins "all" = some (.builtin "all") := by decide +kernel
theorem b_isi : bootBuiltins "isinstance" = some (.builtin "isinstance") := by decide +kernel
theorem b_int : bootBuiltins "int" = some (.type "int") := by decide +kernel
theorem b_bool : bootBuiltins "bool" = some (.type "bool") := by decide +kernel
theorem b_str : bootBuiltins "str" = some (.type "str") := by decide +kernel
theorem b_list : bootBuiltins "list" = some (.type "list") := by decide +kernel
theorem b_tuple : bootBuiltins "tuple" = some (.type "tuple") := by decide +kernel
theorem b_dict : bootBuiltins "dict" = some (.type "dict") := by decide +kernel
section
variable {X : Cx} {pos p : Pos} {a b : Expr} {da db : DE} {es : List Expr} {ds : DA}
theorem je_abs (hm : X.mg "abs" = none) (ha : JA X [a] ds) (hg : Gl X "abs" := by rfl) (hs : starEach [a] X.env = [(false, eval a X.env)] := by rfl) : JE X (.Call (.Name "abs" p) [a] [] pos) (dCB cAbs ds) := je_callB call_abs i_abs hg hm b_abs ha (hs := hs) (hpl := by rfl)
theorem je_max2 (hm : X.mg "max" = none) (ha : JA X [a, b] ds) (hc : X.calm = true := by rfl) (hg : Gl X "max" := by rfl) (hs : starEach [a, b] X.env = (false, eval a X.env) :: starEach [b] X.env := by rfl) (hpl : (backTo pos (starEach [b] X.env)).any (·.1) = false := by rfl) : JE X (.Call (.Name "max" p) [a, b] [] pos) (dCB cMax2 ds) := je_callB (call_max2 hc) i_max2 hg hm b_max ha (hs := hs) (hpl := hpl)
theorem je_min2 (hm : X.mg "min" = none) (ha : JA X [a, b] ds) (hc : X.calm = true := by rfl) (hg : Gl X "min" := by rfl) (hs : starEach [a, b] X.env = (false, eval a X.env) :: starEach [b] X.env := by rfl) (hpl : (backTo pos (starEach [b] X.env)).any (·.1) = false := by rfl) : JE X (.Call (.Name "min" p) [a, b] [] pos) (dCB cMin2 ds) := je_callB (call_min2 hc) i_min2 hg hm b_min ha (hs := hs) (hpl := hpl)
theorem je_any (hm : X.mg "any" = none) (ha : JA X [a] ds) (hc : X.calm = true := by rfl) (hg : Gl X "any" := by rfl) (hs : starEach [a] X.env = [(false, eval a X.env)] := by rfl) : JE X (.Call (.Name "any" p) [a] [] pos) (dCB cAny ds) := je_callB (cr_any hc) i_any hg hm b_any ha (hs := hs) (hpl := by rfl)
theorem je_all (hm : X.mg "all" = none) (ha : JA X [a] ds) (hc : X.calm = true := by rfl) (hg : Gl X "all" := by rfl) (hs : starEach [a] X.env = [(false, eval a X.env)] := by rfl) : JE X (.Call (.Name "all" p) [a] [] pos) (dCB cAll ds) := je_callB (cr_all hc) i_all hg hm b_all ha (hs := hs) (hpl := by rfl)
theorem je_len (hm : X.mg "len" = none) (ha : JA X [a] ds) (hg : Gl X "len" := by rfl) (hs : starEach [a] X.env = [(false, eval a X.env)] := by rfl) : JE X (.Call (.Name "len" p) [a] [] pos) (dCB cLen ds) := je_callB (call_len_seq.or call_len_str) i_len hg hm b_len ha (hs := hs) (hpl := by rfl)
theorem je_isi (hm : X.mg "isinstance" = none) (ha : JA X [a, b] ds) (hg : Gl X "isinstance" := by rfl) (hs : starEach [a, b] X.env = (false, eval a X.env) :: starEach [b] X.env := by rfl) (hpl : (backTo pos (starEach [b] X.env)).any (·.1) = false := by rfl) : JE X (.Call (.Name "isinstance" p) [a, b] [] pos) (dCB cIsi ds) := je_callB (call_isi.or (call_isiT.or call_isiK)) i_isi hg hm b_isi ha (hs := hs) (hpl := hpl)
theorem je_intC (hm : X.mg "int" = none) (ha : JA X [a] ds) (hg : Gl X "int" := by rfl) (hs : starEach [a] X.env = [(false, eval a X.env)] := by rfl) : JE X (.Call (.Name "int" p) [a] [] pos) (dCB cInt ds) := je_callTy call_int1 i_int hg hm b_int ha (hs := hs) (hpl := by rfl)
theorem je_listC (hm : X.mg "list" = none) (ha : JA X [a] ds) (hg : Gl X "list" := by rfl) (hs : starEach [a] X.env = [(false, eval a X.env)] := by rfl) : JE X (.Call (.Name "list" p) [a] [] pos) (dCB cList ds) := je_callTy call_list_of i_list hg hm b_list ha (hs := hs) (hpl := by rfl)
theorem je_tupC (hm : X.mg "tuple" = none) (ha : JA X [a] ds) (hg : Gl X "tuple" := by rfl) (hs : starEach [a] X.env = [(false, eval a X.env)] := by rfl) : JE X (.Call (.Name "tuple" p) [a] [] pos) (dCB cTuple ds) := je_callTy call_tuple_of i_tuple hg hm b_tuple ha (hs := hs) (hpl := by rfl)
theorem je_tyInt (hm : X.mg "int" = none) (hg : Gl X "int" := by rfl) : JE X (.Name "int" p) (dC (.ty "int")) := je_ty hg hm b_int
theorem je_tyBool (hm : X.mg "bool" = none) (hg : Gl X "bool" := by rfl) : JE X (.Name "bool" p) (dC (.ty "bool")) := je_ty hg hm b_bool
theorem je_tyStr (hm : X.mg "str" = none) (hg : Gl X "str" := by rfl) : JE X (.Name "str" p) (dC (.ty "str")) := je_ty hg hm b_str
theorem je_tyList (hm : X.mg "list" = none) (hg : Gl X "list" := by rfl) : JE X (.Name "list" p) (dC (.ty "list")) := je_ty hg hm b_list
theorem je_tyTuple (hm : X.mg "tuple" = none) (hg : Gl X "tuple" := by rfl) : JE X (.Name "tuple" p) (dC (.ty "tuple")) := je_ty hg hm b_tuple
theorem je_tyDict (hm : X.mg "dict" = none) (hg : Gl X "dict" := by rfl) : JE X (.Name "dict" p) (dC (.ty "dict")) := je_ty hg hm b_dict
end

/-! ### what is walked -/
/-- a list that may change, walked, is to stay -/
def pinOf (S : Store) : D → Option (Store → Prop)
  | .obj l => some fun S' => S' l = S l
  | _ => none
def dItSeq (d : DE) : DI := fun ρ S P => d ρ S fun x S1 => match seqOf S1 x with
  | some ds => P ds (pinOf S1 x) S1
  | none => False
def rng (lo : Int) (n : Nat) : List D := (List.range n).map fun (i : Nat) => .int (lo + (i : Int))
theorem rng_len (lo : Int) (n : Nat) : (rng lo n).length = n := by simp [rng]
theorem rng_get {lo : Int} {n i : Nat} {d : D} (h : (rng lo n)[i]? = some d) : i < n ∧ d = .int (lo + (i : Int)) := by
  unfold rng at h
  rw [List.getElem?_map] at h
  by_cases hi : i < n
  · rw [List.getElem?_range hi] at h
    cases h
    exact ⟨hi, rfl⟩
  · rw [List.getElem?_eq_none (by simpa using hi)] at h; cases h
def dRng1 (a : DA) : DI := fun ρ S P => a ρ S fun xs S1 => match xs with
  | [.int j] => -(2 ^ 62) ≤ j ∧ j < 2 ^ 62 ∧ P (rng 0 j.toNat) none S1
  | _ => False
def dRng2 (a : DA) : DI := fun ρ S P => a ρ S fun xs S1 => match xs with
  | [.int i, .int j] => (-(2 ^ 62) ≤ i ∧ i < 2 ^ 62 ∧ -(2 ^ 62) ≤ j ∧ j < 2 ^ 62) ∧ P (rng i (j - i).toNat) none S1
  | _ => False
def zipD (as bs : List D) : List D := List.zipWith (fun a b => .tup [a, b]) as bs
section
variable {X : Cx} {pos p : Pos} {tg a b c : Expr} {da db : DE} {es : List Expr} {ds : DA}
/-- a list or a tuple -/
theorem pi_seq {l : Expr} {tl : TE} (hl : PE X l tl) : PI X tg l (fun σ H R => tl σ H fun x H1 => ∃ a, x = .ref a ∧ (((∃ xs, SqL X.K H1 a xs) ∧ R (Itl X.K a) H1) ∨ ((∃ xs, SqT X.K H1 a xs) ∧ R (Itt X.K a) H1))) := by
  refine ⟨fun pins s σ H R I h => ?_⟩
  refine thn (hl.run pins s σ H _ I h) fun v s1 ⟨x, H1, I1, r1, q1⟩ => ?_
  obtain ⟨a, e, q1⟩ := q1
  subst e
  cases r1
  rcases q1 with ⟨⟨xs, hq⟩, q⟩ | ⟨⟨xs, hq⟩, q⟩
  · obtain ⟨its, rv, p, hz⟩ := I1.list hq
    refine wpAny_pyIter_list p.isList ?_
    refine ⟨s1.heap.objs.size, [s1.heap.objs.size], _, _, H1, rfl, I1.kept (t' := s1.toks) fun b o e => Heap.get?_push_of_some _ e, turn_list a _, ⟨_, Heap.get?_push_size _ rfl, rfl, rfl⟩, fun b hb => ?_, q⟩
    have e : b = s1.heap.objs.size := by simpa using hb
    subst e
    exact I1.fpOk (Nat.le_refl _) (I1.hok.fresh (Nat.le_refl _))
  · obtain ⟨its, rv, p, hz⟩ := I1.tuple hq
    refine wpAny_pyIter_tuple (show s1.heap.IsTuple a its.toArray from p) ?_
    refine ⟨s1.heap.objs.size, [s1.heap.objs.size], _, _, H1, rfl, I1.kept (t' := s1.toks) fun b o e => Heap.get?_push_of_some _ e, turn_tuple a _, ⟨_, Heap.get?_push_size _ rfl, rfl, rfl⟩, fun b hb => ?_, q⟩
    have e : b = s1.heap.objs.size := by simpa using hb
    subst e
    exact I1.fpOk (Nat.le_refl _) (I1.hok.fresh (Nat.le_refl _))
theorem itl_ok {K : PySem.W.Frag} {I : Hp} {a : Addr} {ds : List D} {pin : Option (Store → Prop)} (hs : ∀ I2 S F H, Same I I2 → Ok K I2 S F H → PinOk pin S → ∃ xs, SqL K H a xs ∧ RepL K I2 ds xs) : ItOk K I (Itl K a) ds pin where
  go I2 S F H e ok pk i d hd := by
    obtain ⟨xs, h2, rl⟩ := hs I2 S F H e ok pk
    obtain ⟨v, e1, r1⟩ := rl.get hd
    refine ⟨⟨xs, v, h2, e1⟩, fun x H' hy => ?_⟩
    obtain ⟨rfl, hy⟩ := hy
    have := hy xs h2
    rw [e1] at this
    cases this
    exact ⟨I2, Same.refl _, ok, r1⟩
  stop I2 S F H e ok pk i hi := by
    obtain ⟨xs, h2, rl⟩ := hs I2 S F H e ok pk
    exact ⟨xs, h2, by rw [rl.len]; exact Nat.le_of_eq hi.symm⟩
theorem itt_ok {K : PySem.W.Frag} {I : Hp} {a : Addr} {ds : List D} {pin : Option (Store → Prop)} (hs : ∀ I2 S F H, Same I I2 → Ok K I2 S F H → PinOk pin S → ∃ xs, SqT K H a xs ∧ RepL K I2 ds xs) : ItOk K I (Itt K a) ds pin where
  go I2 S F H e ok pk i d hd := by
    obtain ⟨xs, h2, rl⟩ := hs I2 S F H e ok pk
    obtain ⟨v, e1, r1⟩ := rl.get hd
    refine ⟨⟨xs, v, h2, e1⟩, fun x H' hy => ?_⟩
    obtain ⟨rfl, hy⟩ := hy
    have := hy xs h2
    rw [e1] at this
    cases this
    exact ⟨I2, Same.refl _, ok, r1⟩
  stop I2 S F H e ok pk i hi := by
    obtain ⟨xs, h2, rl⟩ := hs I2 S F H e ok pk
    exact ⟨xs, h2, by rw [rl.len]; exact Nat.le_of_eq hi.symm⟩
/-- a list (b false) or a tuple (b true) -/
def Sq (b : Bool) (K : PySem.W.Frag) (H : Hp) (a : Addr) (xs : List V) : Prop := match b with | true => SqT K H a xs | false => SqL K H a xs
theorem src_sq {K : PySem.W.Frag} {I F H : Hp} {S : Store} {x : D} {v : V} {ds : List D} (ok : Ok K I S F H) (r : Rep K I x v) (h : seqOf S x = some ds) :
    ∃ b a, v = .ref a ∧ ∀ I2 S2 F2 H2, Same I I2 → Ok K I2 S2 F2 H2 → PinOk (pinOf S x) S2 → ∃ xs, Sq b K H2 a xs ∧ RepL K I2 ds xs := by
  cases x with
  | tup es =>
    simp only [seqOf, Option.some.injEq] at h; subst h
    obtain ⟨a, xs, rfl, hs, rl⟩ := r.tup_of
    exact ⟨true, a, rfl, fun I2 S2 F2 H2 e ok2 _ => ⟨xs, sqT_same ok2.same (tupAt_same e hs), rl.mono e⟩⟩
  | lst es =>
    simp only [seqOf, lstOf, Option.some.injEq] at h; subst h
    obtain ⟨a, xs, rfl, hs, rl⟩ := r.lst_of
    exact ⟨false, a, rfl, fun I2 S2 F2 H2 e ok2 _ => ⟨xs, ok2.same.seq (e.seq (.of hs)), rl.mono e⟩⟩
  | ext es =>
    simp only [seqOf, lstOf, Option.some.injEq] at h; subst h
    obtain ⟨a, xs, rfl, hs, rl⟩ := r.ext_of
    exact ⟨false, a, rfl, fun I2 S2 F2 H2 e ok2 _ => ⟨xs, ok2.same.seq (e.seq hs), rl.mono e⟩⟩
  | obj l =>
    simp only [seqOf, lstOf] at h
    cases e : S l with
    | none => simp [e] at h
    | some m =>
      cases m with
      | lst es =>
        simp [e] at h; subst h
        refine ⟨false, l, r.obj_of, fun I2 S2 F2 H2 e2 ok2 pk => ?_⟩
        have pk' : S2 l = S l := pk
        rw [e] at pk'
        obtain ⟨_, ys, q2, rl⟩ := ok2.s l _ pk'
        exact ⟨ys, .of q2, rl⟩
      | _ => simp [e] at h
  | _ => simp [seqOf, lstOf] at h
theorem pin_self (S : Store) (x : D) : PinOk (pinOf S x) S := by
  cases x <;> first | trivial | rfl
theorem ji_seq (h : JE X a da) : JI X tg a (dItSeq da) :=
  ji_of (pi_seq h) fun σ H R h0_ => El54 h0_ fun ρ I S F P rs ok hh q => ⟨ρ, I, S, F, _, rs, ok, hh, fun x S1 v I1 H1 h1 e1 ok1 r1 => by
    split at h1
    · rename_i ds hds
      obtain ⟨b, a, rfl, hs⟩ := src_sq ok1 r1 hds
      obtain ⟨xs, q1, _⟩ := hs _ _ _ _ (Same.refl _) ok1 (pin_self _ _)
      cases b
      · exact ⟨a, rfl, .inl ⟨⟨xs, q1⟩, q _ _ _ _ _ _ h1 e1 ok1 (itl_ok hs)⟩⟩
      · exact ⟨a, rfl, .inr ⟨⟨xs, q1⟩, q _ _ _ _ _ _ h1 e1 ok1 (itt_ok hs)⟩⟩
    · exact h1.elim⟩
theorem itr_ok {K : PySem.W.Frag} {I : Hp} (lo : Int) (n : Nat) : ItOk K I (Itr lo n) (rng lo n) none where
  go I2 S F H e ok _ i d hd := by
    obtain ⟨hi, rfl⟩ := rng_get hd
    exact ⟨hi, fun x H' ⟨e1, e2⟩ => ⟨I2, Same.refl _, by rw [e1]; exact ok, by rw [e2]; exact rep_int⟩⟩
  stop I2 S F H e ok _ i hi := by rw [rng_len] at hi; exact Nat.le_of_eq hi.symm
theorem ji_range1 (hm : X.mg "range" = none) (ha : JA X [a] ds) (hg : Gl X "range" := by rfl) (hs : starEach [a] X.env = [(false, eval a X.env)] := by rfl) : JI X tg (.Call (.Name "range" p) [a] [] pos) (dRng1 ds) :=
  ji_of (pi_range1 hg hm ha hs) fun σ H R h0_ => El54 h0_ fun ρ I S F P rs ok hh q => ⟨ρ, I, S, F, _, rs, ok, hh, fun xs S1 v I1 H1 h1 e1 ok1 r1 => by
    split at h1
    · obtain ⟨v, rfl, rv⟩ := r1.inv1
      cases rv.int_of
      exact ⟨_, rfl, h1.1, h1.2.1, q _ _ _ _ _ _ h1.2.2 e1 ok1 (itr_ok _ _)⟩
    · exact h1.elim⟩
theorem rep_tup2 {K : PySem.W.Frag} {I : Hp} {T : Addr} {x y : V} {d e : D} (n : I T = none) (h1 : Rep K I d x) (h2 : Rep K I e y) : Rep K (upd I T (.tup [x, y])) (.tup [d, e]) (.ref T) := rep_new_tup n (RepL.cons h1 (RepL.one h2))
end

/-! ### changes -/
section
variable {X : Cx} {pos p apos : Pos} {tg a b c o i : Expr} {da db d1 d2 : DE} {es : List Expr} {ds : DA}
def dAppend (a b : DE) : DE := fun ρ S P => a ρ S fun x S1 => match x with
  | .obj l => ∃ es, S1 l = some (.lst es) ∧ b ρ S1 fun y S2 => ∃ ds, S2 l = some (.lst ds) ∧ ds.length < 100000 ∧ P .non (supd S2 l (.lst (ds ++ [y])))
  | _ => False
theorem je_append (ha : JE X o da) (hb : JE X a db) (hbase : attributeBase o "append" X.env (eval o X.env) = eval o X.env := by rfl) (hs0 : starEach [a] X.env = [(false, eval a X.env)] := by rfl)
    (hfew : ((backTo pos (starEach [a] X.env)).all (fun x => !x.1) && (backToKw pos (keywordEach [] X.env)).all (fun x => x.1.isSome)
      && decide ([a].length + ([] : List Keyword).length + (if ([] : List Keyword).isEmpty then 0 else 1) < 30)) = true := by rfl)
    (hline : (apos.endLine == pos.line) = true := by rfl) : JE X (.Call (.Attribute o "append" apos) [a] [] pos) (dAppend da db) :=
  je_of (pe_bm PySem.F.plainAttrs_list PySem.F.slot_list_append PySem.F.type_list_append mt_append ha (pa_cons hb pa_nil hs0) hbase hfew hline (hs := hs0) (hplain := by rfl)) fun σ H Q h0_ => El54 h0_ fun ρ I S F P rs ok hh q =>
    ⟨ρ, I, S, F, _, rs, ok, hh, fun x S1 v I1 H1 h1 e1 ok1 r1 => by
      cases x with
      | obj l =>
        obtain ⟨es, e2, h2⟩ := h1
        obtain ⟨_, ys, q2, _⟩ := ok1.s l _ e2
        cases r1.obj_of
        refine ⟨.inl ⟨rfl, ys, .of q2⟩, ρ, I1, S1, F, _, rs.mono e1, ok1, h2, fun y S2 w I2 H2 h3 e3 ok2 r2 => ?_⟩
        obtain ⟨ds, e4, hl, h4⟩ := h3
        obtain ⟨_, zs, q4, rl⟩ := ok2.s l _ e4
        refine ⟨l, zs, w, rfl, rfl, q4, ?_, q _ _ _ _ _ h4 (e1.trans e3) (ok2.writeL e4 (rl.app (RepL.one r2))) rep_non⟩
        rw [rl.len]
        exact Nat.lt_of_lt_of_le hl (by decide)
      | _ => exact h1.elim⟩
/-- o[i] = e -/
def dSetIx (de d1 d2 : DE) : DS := fun DD ρ S => de ρ S fun x S1 => d1 ρ S1 fun o S2 => d2 ρ S2 fun i S3 => match o, i with
  | .obj l, .int k => match S3 l with
    | some (.lst ds) => match ixN ds.length k with
      | some j => DD.nx ρ (supd S3 l (.lst (ds.set j x)))
      | none => False
    | _ => False
  | _, _ => False
theorem js_setIx {e : Expr} {de : DE} (he : JE X e de) (ho : JE X o d1) (hi : JE X i d2)
    (ha : ∀ v, assign (.Subscript o i p) X.env v = (do
      let ov ← holding [v] (eval o X.env)
      let iv ← holding [v, ov] (eval i X.env)
      standAt p
      holding [v, ov, iv] (setItem ov iv v)
      release [v, ov, iv] []) := by intro _; rfl)
    (hs : swapsWithSole [.Subscript o i p] e pos.line X.env = pure false := by rfl) (hw : swappedStores [.Subscript o i p] e X.env = pure none := by rfl)
    (h1 : (assignEach [.Subscript o i p] X.env).map (·.2) = [assign (.Subscript o i p) X.env] := by rfl) : JS X (.Assign [.Subscript o i p] e pos) (dSetIx de d1 d2) :=
  js_of (ps_asg he (pg_sub ho hi set_list ha) hs hw h1) fun D σ H h0_ => El54 h0_ fun ρ I S F DD rs ok h q => ⟨ρ, I, S, F, _, rs, ok, h, fun x S1 v I1 H1 h1 e1 ok1 r1 =>
    ⟨ρ, I1, S1, F, _, rs.mono e1, ok1, h1, fun o S2 w I2 H2 h2 e2 ok2 r2 => ⟨ρ, I2, S2, F, _, rs.mono (e1.trans e2), ok2, h2, fun i S3 u I3 H3 h3 e3 ok3 r3 => by
      have rx := r1.mono (e2.trans e3)
      have ro := r2.mono e3
      split at h3
      · rename_i l k
        split at h3
        · rename_i ds eS
          split at h3
          · rename_i j ej
            obtain ⟨_, zs, q4, rl⟩ := ok3.s l _ eS
            cases ro.obj_of
            cases r3.int_of
            refine ⟨l, zs, k, j, rfl, rfl, q4, by rw [rl.len]; exact ej, q.nx _ _ _ _ _ h3 ((e1.trans e2).trans e3) (ok3.writeL eS (rl.set j rx)) (rs.mono ((e1.trans e2).trans e3))⟩
          · exact h3.elim
        · exact h3.elim
      · exact h3.elim⟩⟩⟩
theorem iop_mulA : OpR X (inplaceOp .Mult) (rI MulB fun i j => .int (i * j)) := opI fun i j _ _ _ _ _ hc q => by
  rcases hc with h | h
  · exact imul_int q h.ok
  · exact imul_int q h.ok
def dIAdd : D2 := fun x y S P => match x, y with
  | .int i, .int j => P (.int (i + j)) S
  | _, _ => False
def dIMul : D2 := fun x y S P => match x, y with
  | .int i, .int j => MulB i j ∧ P (.int (i * j)) S
  | _, _ => False
theorem i_imul {K : PySem.W.Frag} : ImpIp K (rI MulB fun i j => .int (i * j)) dIMul := by
  intro x y v w I S F H P Q ok rx ry h q
  unfold dIMul at h
  split at h
  · cases rx.int_of; cases ry.int_of
    exact ⟨_, _, rfl, rfl, h.1, q _ _ _ _ _ h.2 (Same.refl I) ok rep_int⟩
  · exact h.elim
variable {e : Expr} {de : DE} {x : Str} {pos' : Pos}
theorem js_imul (i : Nat) (hN : X.N.Nodup) (hi : X.N[i]? = some x) (hx : Loc X.env.scope x) (he : JE X e de) (hf : X.fn x = true ∨ X.env.scope.names.lookup x = some .local := by first | exact .inl rfl | exact .inr rfl | assumption) : JS X (.AugAssign (.Name x pos') .Mult e pos) (dAug i dIMul de) := js_aug i hN hi hx he (ti := rI MulB fun i j => .int (i * j)) iop_mulA i_imul hf
end
end DL

namespace DL
open PySem PySem.Spec PyProof.Rows L2

/-- the def called x keeps its promise sp, called with every argument by its place -/
structure Does (P : Program) (w : World) (K : PySem.W.Frag) (mg : Str → Option Value) (base : Heap) (k : Nat) (x : Str) (ps : List Str) (f : Addr) (fd : FuncData) (sp : DSp) : Prop where
  g : mg x = some (.ref f)
  kp : PySem.W.keepIn K (.ref f) = true
  b : Binds K fd ps []
  ok : FnD P w K mg base k f fd ps sp
section
variable {X : Cx} {pos p : Pos} {a : Expr} {es : List Expr} {ds : DA} {k j : Nat} {x : Str} {ps : List Str} {f : Addr} {fd : FuncData} {sp : DSp}
theorem je_f (G : Does X.prog X.w X.K X.mg X.base k x ps f fd sp) (hr : DG.RoomG j X.A) (ha : JA X (a :: es) ds) (hk : k ≤ j := by decide) (hg : Gl X x := by rfl) (hdb : (x == ("__debug__" : Str)) = false := by decide) (he : starEach (a :: es) X.env = (false, eval a X.env) :: starEach es X.env := by rfl)
    (hpl : (backTo pos (starEach es X.env)).any (·.1) = false := by rfl) : JE X (.Call (.Name x p) (a :: es) [] pos) (dCB sp ds) :=
  je_of (je_call G.ok (hr.mono hk) hg G.g G.kp G.b .nil (fun _ => RepL.nil) ha hdb he hpl) fun σ H Q h0_ => El54 h0_ fun ρ I S F P rs ok h q => ⟨ρ, I, S, F, P, rs, ok, by simpa only [dCall, dCB, List.append_nil] using h, q⟩
variable {ks : List Str} {n m : Nat} {perm : List Nat} {kws : List Keyword} {dk : DA}
end
/-- a def with positional defaults: its body's promise -/
theorem fn_dD {P : Program} {w : World} {K : PySem.W.Frag} {mg : Str → Option Value} {base : Heap} {x qual : Str} {st : Stmt} {f : Addr} {fd : FuncData} {N ps : List Str} {k : Nat} {sp : DSp} {dvs : List V} {kws : List (Str × V)}
    (F : FunD K x qual (defArgs st) (defBody st) (defScope st) dvs kws f fd) (S : FnScope N ps (defScope st)) (len : ∀ ds S P, sp ds S P → ds.length = ps.length)
    (hbody : ∀ (cdv : Value) (A : Around) (outer : List Env) (s : Shared) (H : Hp) (E : XK), DG.RoomG k (A.deeper (envOfC qual (defScope st) s.heap.objs.size f cdv)) →
      ∃ d : DS, JSs (cxOf CX0 P w K mg base N qual (defScope st) f cdv A outer s H E).nox (defBody st) d ∧ ∀ ds S P, sp ds S P → d (dEnd P) (ds.map some ++ List.replicate (N.length - ds.length) none) S) : FnD P w K mg base (k + 1) f fd ps sp := by
  refine DG.funD_ok F S (fun vs H Q E h => ?_) (fun cdv A outer s H vs Q E hr h => ?_)
  · obtain ⟨ds, I, S, F, P, r, ok, h, q⟩ := h
    rw [r.len]
    exact len _ _ _ h
  · obtain ⟨ds, I, S', F', P', r, ok, h, q⟩ := h
    obtain ⟨d, h1, h2⟩ := hbody cdv A outer s H E hr
    refine ⟨_, h1.nox, _, I, S', F', _, repS_start r, ok, h2 ds S' P' h, ⟨?_, q, ?_, ?_⟩⟩
    · intro ρ S2 σ I2 H2 p e2 ok2 _
      exact q _ _ _ _ _ p e2 ok2 rep_non
    · intro ρ S2 σ I2 H2 p e2 ok2 _
      exact p.elim
    · intro ρ S2 σ I2 H2 p e2 ok2 _
      exact p.elim

/-! ### chains -/
section
variable {X : Cx} {pos : Pos} {a b c : Expr} {da db dc : DE} {op op' : CmpOp} {r r' : R2} {o o' : D2}
def dChainR (o o' : D2) (da db dc : DE) : DE := fun ρ S P => da ρ S fun x S1 => db ρ S1 fun y S2 => o x y S2 fun z S3 => match z with
  | .bl k => if k = true then dc ρ S3 fun u S4 => o' y u S4 P else P (.bl false) S3
  | _ => False
end
end DL

namespace DL
open PySem PySem.Spec PyProof.Rows L2

/-! ### the law's own promise -/
def sp_law : DSp := fun ds S P => ∃ ns : List Int, ds = [.ext (ns.map .int)] ∧ ns.length ≤ 63 ∧ ∀ S', P (.bl true) S'
def spLaw (K : PySem.W.Frag) : Sp := fun vs H Q _ => ∃ (a : Addr) (ns : List Int), vs = [.ref a] ∧ SqL K H a (ns.map V.int) ∧ ns.length ≤ 63 ∧ ∀ H', Q (.bl true) H'
theorem repL_ints {K : PySem.W.Frag} {I : Hp} : ∀ ns : List Int, RepL K I (ns.map .int) (ns.map V.int)
  | [] => RepL.nil
  | n :: ns => RepL.cons rep_int (repL_ints ns)
theorem law_up {K : PySem.W.Frag} : ∀ vs H Q E, spLaw K vs H Q E → upSp K sp_law vs H Q E := fun vs H Q E ⟨a, ns, e, hs, hl, q⟩ => by
  subst e
  refine ⟨[.ext (ns.map .int)], fun b => if b = a then H b else none, fun _ => none, fun _ => none, fun x _ => x = .bl true, RepL.one ?_, ⟨fun b o e => ?_, fun b m e => (nomatch e), fun b o e => (nomatch e)⟩, ⟨ns, rfl, hl, fun _ => rfl⟩, fun x S' v I' H' p _ _ r => ?_⟩
  · simp only [Rep]
    refine ⟨a, _, rfl, ?_, repL_ints ns⟩
    rcases hs with (h | ⟨o, h⟩) | h
    · exact .inl (.inl (by simpa using h))
    · exact .inl (.inr ⟨o, by simpa using h⟩)
    · exact .inr h
  · by_cases z : b = a
    · rw [if_pos z] at e; exact e
    · rw [if_neg z] at e; cases e
  · subst p
    rw [r.bl_of]
    exact q H'
theorem law_len : ∀ ds S P, sp_law ds S P → ds.length = 1 := fun ds S P ⟨ns, e, _⟩ => by rw [e]; rfl
theorem bindsAll {K : PySem.W.Frag} {x qual : Str} {st : Stmt} {f : Addr} {fd : FuncData} {dvs : List V} {ps : List Str} (F : FunD K x qual (defArgs st) (defBody st) (defScope st) dvs [] f fd) (n : Nat) (hd : dvs ≠ []) (hn : n = ps.length)
    (h : ∀ (T : Addr) (kV doc pm : Value) (an : Option Addr) (cdv ct : Value) (us its : List Value), us.length = n → its.length = dvs.length →
      ∃ k, bindArgs (PySem.W.fnOf x qual (defArgs st) (defBody st) (defScope st) (.ref T) kV doc pm an cdv ct) ⟨us, []⟩ = seqItems? (.ref T) >>= k ∧ k (some its.toArray) = pure (ps.zip us)) : Binds K fd ps [] := by
  obtain ⟨ds, v, b⟩ := F.binds1 (ps := ps) n dvs.length hd (by omega) fun T kV doc pm an cdv ct us its h1 h2 => by
    obtain ⟨k, e1, e2⟩ := h T kV doc pm an cdv ct us its h1 h2
    refine ⟨k, e1, ?_⟩
    rw [e2, ← h2, List.drop_length, List.append_nil]
  rw [List.drop_length] at v
  cases v
  exact b
end DL

namespace DZ
open PySem PySem.Spec PyProof.Rows L2
open Sem (wp)
/-! zip(a, b, strict=True) -/
abbrev IsZipS (h : Heap) (z TI TO : Addr) (f0 : Value) : Prop :=
  h.get? z = some { cls := .type "zip", dict := none, data := .fields #[f0, .bool false, .bool true, .ref TI, .ref TO], slots := #[] }
section
variable {prog : Program} {w : World} {A : Around} {E : Value → Shared → Prop} {s : Shared}
theorem orEnd_item {it : Addr} {fp : List Addr} {n i : Nat} {P : Nat → Value → Prop} {St : Nat → Heap → Prop} {Q : Option Value → Shared → Prop} (D : Draws prog w A it fp n P St) (hi : i < n) (st : St i s.heap)
    (hQ : ∀ x h' tk, P i x → St (i + 1) h' → Heap.SameBut it s.heap h' → Q (some x) { s with heap := h', toks := tk }) : wpAny (model prog w) A (Builtin.SmallTypes.nextOrEnd (.ref it)) Q E s := by
  unfold Builtin.SmallTypes.nextOrEnd
  exact wpAny_bind (wpAny_attempt (D.item i _ _ _ hi st fun x h' tk a b c => wpAny_pure (hQ x h' tk a b c)))
theorem orEnd_done {it : Addr} {fp : List Addr} {n : Nat} {P : Nat → Value → Prop} {St : Nat → Heap → Prop} {Q : Option Value → Shared → Prop} (D : Draws prog w A it fp n P St) (st : St n s.heap)
    (hQ : ∀ h', Heap.ExtBut it s.heap h' → Q none { s with heap := h' }) : wpAny (model prog w) A (Builtin.SmallTypes.nextOrEnd (.ref it)) Q E s := by
  unfold Builtin.SmallTypes.nextOrEnd
  refine wpAny_bind (wpAny_attempt (D.done s _ _ st fun h' e hk he => ?_))
  obtain ⟨o, ho, hc⟩ := he
  exact wpAny_bind (wpAny_isInstance (T := "StopIteration") (b := true) ⟨o, ho, hc⟩ isSubtype_stop (wpAny_pure (hQ _ hk)))
theorem stop_raises {α : Type} {Q : α → Shared → Prop} (hh : A.handled = none)
    (hE : ∀ h' e, (∀ c o, s.heap.get? c = some o → h'.get? c = some o) → (∃ o, h'.get? e = some o ∧ o.cls = .type "StopIteration") → E (.ref e) { s with heap := h' }) : wpAny (model prog w) A (Builtin.SmallTypes.stopIteration : Sem α) Q E s := by
  unfold Builtin.SmallTypes.stopIteration
  refine wpAny_bind ?_
  simp only [newExc, newTuple]
  refine wpAny_bind (wpAny_newObj_type ?_ (by size_fits))
  refine wpAny_bind (m := firstArgMember _ _) (wpAny_of_eq (a := Value.none) (by first | rfl | (simp only [firstArgMember]; rfl)) ?_)
  refine wpAny_newObj_type ?_ (by size_fits)
  simp only [raiseNew]
  refine wpAny_bind (wpAny_handled ?_)
  rw [hh]
  refine wpAny_bind (wpAny_pure (wpAny_throw ?_))
  exact hE _ _ (fun c o e => Heap.get?_push_of_some _ (Heap.get?_push_of_some _ e)) ⟨_, Heap.get?_push_size _ rfl, rfl⟩
end
section
variable {prog : Program} {w : World} {A : Around} {E : Value → Shared → Prop} {s : Shared} {z TI TO i1 i2 : Addr} {fp1 fp2 : List Addr} {n1 n2 i : Nat} {P1 P2 : Nat → Value → Prop} {St1 St2 : Nat → Heap → Prop} {a1 a2 : Value}
theorem zS_next_item {Q : Value → Shared → Prop} (S : ZipSep2 z TI TO i1 i2 fp1 fp2) (D1 : Draws prog w A i1 fp1 n1 P1 St1) (D2 : Draws prog w A i2 fp2 n2 P2 St2)
    (hz : IsZipS s.heap z TI TO .none) (hTI : IsTupOf2 s.heap TI (.ref i1) (.ref i2)) (hTO : IsTupOf2 s.heap TO a1 a2) (st1 : St1 i s.heap) (st2 : St2 i s.heap) (hlt1 : i < n1) (hlt2 : i < n2)
    (hQ : ∀ x1 x2 h' tk, P1 i x1 → P2 i x2 → IsZipS h' z TI TO (rawInt s.heap.objs.size) → IsTupOf2 h' TO x1 x2 → St1 (i + 1) h' → St2 (i + 1) h' → IsTupOf2 h' s.heap.objs.size x1 x2 → h'.objs.size = s.heap.objs.size + 1 →
      (∀ c o, c ≠ z → c ≠ TO → c ≠ i1 → c ≠ i2 → s.heap.get? c = some o → h'.get? c = some o) → Q (.ref s.heap.objs.size) { s with heap := h', toks := tk }) :
    wpAny (model prog w) A (Builtin.«zip.__next__» ⟨[.ref z], []⟩) (fun fin s' => ∃ v, fin = .done (.ret v) ∧ Q v s') E s := by
  obtain ⟨hp, g, d, tk0, os⟩ := s
  show wpAny _ _ (field (.ref z) 2 >>= _) _ _ _
  refine wpAny_bind (wpAny_field hz rfl (x := .bool true) rfl ?_)
  show wpAny _ _ (field (.ref z) 3 >>= _) _ _ _
  refine wpAny_bind (wpAny_field hz rfl (x := .ref TI) rfl ?_)
  refine wpAny_bind (wpAny_seqItems hTI rfl ?_)
  show wpAny _ _ (Builtin.SmallTypes.ownedTupleIsFree (.ref z) >>= _) _ _ _
  refine wpAny_bind ?_
  unfold Builtin.SmallTypes.ownedTupleIsFree
  refine wpAny_bind (wpAny_field hz rfl (x := .none) rfl (wpAny_pure ?_))
  simp only [if_true]
  refine wpAny_bind (wpAny_rule ?_)
  refine wpAny_bind (wpAny_field hz rfl (x := .ref TO) rfl ?_)
  refine wpAny_bind (wpAny_setField_rec hz (by simp) fun g0 hz0 hs0 => ?_)
  replace hz0 : IsZipS g0 z TI TO .ellipsis := hz0
  replace hs0 : Heap.SameBut z hp g0 := hs0
  refine wpAny_bind ?_
  simp only [List.zipIdx_cons, List.zipIdx_nil, List.forIn_cons, List.forIn_nil]
  refine wpAny_bind (wpAny_bind (wpAny_onRaise ?_))
  show wpAny _ _ (Builtin.SmallTypes.nextOrEnd (.ref i1)) _ _ ⟨g0, g, d, tk0, os⟩
  refine orEnd_item (s := ⟨g0, g, d, tk0, os⟩) D1 hlt1 (D1.over st1 hs0 S.zf1) fun x1 p1 tk1 hx1 sn1 hp1 => ?_
  replace hp1 : Heap.SameBut i1 g0 p1 := hp1
  have hU1 : IsTupOf2 p1 TO a1 a2 := hp1.extBut _ _ S.Ti1 (hs0.extBut _ _ S.TOz hTO)
  refine wpAny_bind (wpAny_seqItems (s := ⟨p1, g, d, tk1, os⟩) hU1 rfl ?_)
  refine wpAny_bind (updateSeq_IsTupOf2 (s := ⟨p1, g, d, tk1, os⟩) hU1 fun g1 hT1 hs1 => ?_)
  replace hT1 : IsTupOf2 g1 TO x1 a2 := hT1
  replace hs1 : Heap.SameBut TO p1 g1 := hs1
  refine wpAny_bind (wpAny_letGo (wpAny_pure ?_))
  refine wpAny_bind (wpAny_bind (wpAny_onRaise ?_))
  show wpAny _ _ (Builtin.SmallTypes.nextOrEnd (.ref i2)) _ _ ⟨g1, g, d, tk1, os⟩
  refine orEnd_item (s := ⟨g1, g, d, tk1, os⟩) D2 hlt2 (D2.over (D2.over (D2.over st2 hs0 S.zf2) hp1 S.sep1_2) hs1 S.Tf2) fun x2 p2 tk2 hx2 sn2 hp2 => ?_
  replace hp2 : Heap.SameBut i2 g1 p2 := hp2
  have hU2 : IsTupOf2 p2 TO x1 a2 := hp2.extBut _ _ S.Ti2 hT1
  refine wpAny_bind (wpAny_seqItems (s := ⟨p2, g, d, tk2, os⟩) hU2 rfl ?_)
  refine wpAny_bind (updateSeq_IsTupOf2 (s := ⟨p2, g, d, tk2, os⟩) hU2 fun g2 hT2 hs2 => ?_)
  replace hT2 : IsTupOf2 g2 TO x1 x2 := hT2
  replace hs2 : Heap.SameBut TO p2 g2 := hs2
  refine wpAny_bind (wpAny_letGo (wpAny_pure (wpAny_pure ?_)))
  refine wpAny_bind (wpAny_seqItems (s := ⟨g2, g, d, tk2, os⟩) hT2 rfl ?_)
  refine wpAny_bind (wpAny_newTuple ?_)
  have hsz : g2.objs.size = hp.objs.size := by rw [hs2.1, hp2.1, hs1.1, hp1.1, hs0.1]
  have hzz : IsZipS g2 z TI TO .ellipsis := (hs2.extBut _ _ S.TOz.symm (hp2.extBut _ _ S.zi2 (hs1.extBut _ _ S.TOz.symm (hp1.extBut _ _ S.zi1 hz0))))
  have hkk : ∀ c o, c ≠ z → c ≠ TO → c ≠ i1 → c ≠ i2 → hp.get? c = some o → g2.get? c = some o := fun c o cz cT c1 c2 e =>
    (hs2.extBut _ _ cT (hp2.extBut _ _ c2 (hs1.extBut _ _ cT (hp1.extBut _ _ c1 (hs0.extBut _ _ cz e)))))
  have hj1 : St1 (i + 1) g2 := (D1.over (D1.over (D1.over sn1 hs1 S.Tf1) hp2 S.sep2_1) hs2 S.Tf1)
  have hj2 : St2 (i + 1) g2 := (D2.over sn2 hs2 S.Tf2)
  have hzlt : z < g2.objs.size := Heap.lt_size hzz
  show wpAny _ _ (Builtin.SmallTypes.ownedTupleHandOut (.ref z) (.ref g2.objs.size) >>= _) _ _ ⟨g2.push { cls := .type "tuple", data := .seq #[x1, x2] }, g, d, tk2, os⟩
  refine wpAny_bind ?_
  unfold Builtin.SmallTypes.ownedTupleHandOut
  have hz₆ : IsZipS (g2.push { cls := .type "tuple", data := .seq #[x1, x2] }) z TI TO .ellipsis := Heap.get?_push_of_some _ hzz
  refine wpAny_bind (wpAny_setField_rec hz₆ (by simp) fun h₇ hz₇ hs₇ => ?_)
  replace hz₇ : IsZipS h₇ z TI TO (rawInt g2.objs.size) := hz₇
  refine wpAny_setField_rec hz₇ (by simp) fun h₈ hz₈ hs₈ => ?_
  replace hz₈ : IsZipS h₈ z TI TO (rawInt g2.objs.size) := hz₈
  replace hs₇ : Heap.SameBut z (g2.push { cls := .type "tuple", data := .seq #[x1, x2] }) h₇ := hs₇
  replace hs₈ : Heap.SameBut z h₇ h₈ := hs₈
  have up : ∀ c o, c ≠ z → g2.get? c = some o → h₈.get? c = some o := fun c o c1 e => hs₈.extBut _ _ c1 (hs₇.extBut _ _ c1 (Heap.get?_push_of_some _ e))
  have hT₈ : IsTupOf2 h₈ g2.objs.size x1 x2 := hs₈.extBut _ _ (Nat.ne_of_gt hzlt) (hs₇.extBut _ _ (Nat.ne_of_gt hzlt) (Heap.get?_push_size _ rfl))
  have hz8 : h₈.objs.size = g2.objs.size + 1 := by rw [hs₈.1, hs₇.1, Heap.size_push]
  rw [hsz] at hz₈ hT₈ hz8
  refine wpAny_pure ⟨_, rfl, ?_⟩
  show Q (.ref g2.objs.size) ⟨h₈, g, d, tk2, os⟩
  rw [hsz]
  exact hQ x1 x2 h₈ tk2 hx1 hx2 hz₈ (up _ _ S.TOz hT2) (D1.frame _ _ _ hj1 fun b hb o e => up b o (fun q => S.zf1 (q ▸ hb)) e) (D2.frame _ _ _ hj2 fun b hb o e => up b o (fun q => S.zf2 (q ▸ hb)) e) hT₈ hz8 fun c o cz cT c1 c2 e => up c o cz (hkk c o cz cT c1 c2 e)

theorem zS_next_end {Q : Fin → Shared → Prop} (hh : A.handled = none) (S : ZipSep2 z TI TO i1 i2 fp1 fp2) (D1 : Draws prog w A i1 fp1 n1 P1 St1) (D2 : Draws prog w A i2 fp2 n2 P2 St2)
    (hz : IsZipS s.heap z TI TO .none) (hTI : IsTupOf2 s.heap TI (.ref i1) (.ref i2)) (hTO : IsTupOf2 s.heap TO a1 a2) (st1 : St1 n1 s.heap) (st2 : St2 n2 s.heap)
    (hE : ∀ h' tk e, (∀ c o, c ≠ z → c ≠ TO → c ≠ i1 → c ≠ i2 → s.heap.get? c = some o → h'.get? c = some o) → (∃ o, h'.get? e = some o ∧ o.cls = .type "StopIteration") → E (.ref e) { s with heap := h', toks := tk }) :
    wpAny (model prog w) A (Builtin.«zip.__next__» ⟨[.ref z], []⟩) Q E s := by
  obtain ⟨hp, g, d, tk0, os⟩ := s
  show wpAny _ _ (field (.ref z) 2 >>= _) _ _ _
  refine wpAny_bind (wpAny_field hz rfl (x := .bool true) rfl ?_)
  show wpAny _ _ (field (.ref z) 3 >>= _) _ _ _
  refine wpAny_bind (wpAny_field hz rfl (x := .ref TI) rfl ?_)
  refine wpAny_bind (wpAny_seqItems hTI rfl ?_)
  show wpAny _ _ (Builtin.SmallTypes.ownedTupleIsFree (.ref z) >>= _) _ _ _
  refine wpAny_bind ?_
  unfold Builtin.SmallTypes.ownedTupleIsFree
  refine wpAny_bind (wpAny_field hz rfl (x := .none) rfl (wpAny_pure ?_))
  simp only [if_true]
  refine wpAny_bind (wpAny_rule ?_)
  refine wpAny_bind (wpAny_field hz rfl (x := .ref TO) rfl ?_)
  refine wpAny_bind (wpAny_setField_rec hz (by simp) fun g0 hz0 hs0 => ?_)
  replace hz0 : IsZipS g0 z TI TO .ellipsis := hz0
  replace hs0 : Heap.SameBut z hp g0 := hs0
  refine wpAny_bind ?_
  simp only [List.zipIdx_cons, List.zipIdx_nil, List.forIn_cons, List.forIn_nil]
  refine wpAny_bind (wpAny_bind (wpAny_onRaise ?_))
  show wpAny _ _ (Builtin.SmallTypes.nextOrEnd (.ref i1)) _ _ ⟨g0, g, d, tk0, os⟩
  refine orEnd_done (s := ⟨g0, g, d, tk0, os⟩) D1 (D1.over st1 hs0 S.zf1) fun p1 hp1 => ?_
  replace hp1 : Heap.ExtBut i1 g0 p1 := hp1
  have hz1 : IsZipS p1 z TI TO .ellipsis := hp1 _ _ S.zi1 hz0
  refine wpAny_bind (wpAny_setField_rec (s := ⟨p1, g, d, tk0, os⟩) hz1 (by simp) fun g1 hz1' hs1 => ?_)
  replace hs1 : Heap.SameBut z p1 g1 := hs1
  refine wpAny_bind ?_
  show wpAny _ _ (((Builtin.SmallTypes.nextOrEnd (.ref i2) >>= _) >>= _) >>= _) _ _ ⟨g1, g, d, tk0, os⟩
  have st2' : St2 n2 g1 := D2.over (D2.frame _ _ _ (D2.over st2 hs0 S.zf2) fun b hb o e => hp1 b o (fun q => S.sep1_2 (q ▸ hb)) e) hs1 S.zf2
  refine wpAny_bind (wpAny_bind (wpAny_bind (orEnd_done (s := ⟨g1, g, d, tk0, os⟩) D2 st2' fun p2 hp2 => ?_)))
  replace hp2 : Heap.ExtBut i2 g1 p2 := hp2
  simp only [Option.isSome_none, Bool.false_eq_true, if_false]
  refine wpAny_pure (wpAny_pure (wpAny_bind (wpAny_rule ?_)))
  refine stop_raises hh fun h' e hk he => ?_
  exact hE h' tk0 e (fun c o cz cT c1 c2 x => hk _ _ (hp2 _ _ c2 (hs1.extBut _ _ cz (hp1 _ _ c1 (hs0.extBut _ _ cz x))))) he

theorem pyNext_zS_item {Q : Option Value → Shared → Prop} (S : ZipSep2 z TI TO i1 i2 fp1 fp2) (D1 : Draws prog w A.in1 i1 fp1 n1 P1 St1) (D2 : Draws prog w A.in1 i2 fp2 n2 P2 St2)
    (hz : IsZipS s.heap z TI TO .none) (hTI : IsTupOf2 s.heap TI (.ref i1) (.ref i2)) (hTO : IsTupOf2 s.heap TO a1 a2) (st1 : St1 i s.heap) (st2 : St2 i s.heap) (hlt1 : i < n1) (hlt2 : i < n2)
    (hQ : ∀ x1 x2 h' tk, P1 i x1 → P2 i x2 → IsZipS h' z TI TO (rawInt s.heap.objs.size) → IsTupOf2 h' TO x1 x2 → St1 (i + 1) h' → St2 (i + 1) h' → IsTupOf2 h' s.heap.objs.size x1 x2 → h'.objs.size = s.heap.objs.size + 1 →
      (∀ c o, c ≠ z → c ≠ TO → c ≠ i1 → c ≠ i2 → s.heap.get? c = some o → h'.get? c = some o) → Q (some (.ref s.heap.objs.size)) { s with heap := h', toks := tk }) :
    wpAny (model prog w) A (pyNext (.ref z)) Q E s := by
  have hT : s.TypeIs (.ref z) "zip" := ⟨_, hz, rfl⟩
  unfold pyNext
  exact wpAny_bind (wpAny_attempt (wpAny_callSpecial?_slot (name := Str.ofString "__next__") hT F.slot_zip_next
    (wpAny_call_entry F.slot_zip_next hT F.entry_zip_next
      (zS_next_item S D1 D2 hz hTI hTO st1 st2 hlt1 hlt2 fun x1 x2 h' tk y1 y2 b1 b2 d1 d2 b5 b6 b7 => wpAny_pure (hQ x1 x2 h' tk y1 y2 b1 b2 d1 d2 b5 b6 b7)) (F.args_zip_next_1 _))))
theorem pyNext_zS_end {Q : Option Value → Shared → Prop} (hh : A.in1.handled = none) (S : ZipSep2 z TI TO i1 i2 fp1 fp2) (D1 : Draws prog w A.in1 i1 fp1 n1 P1 St1) (D2 : Draws prog w A.in1 i2 fp2 n2 P2 St2)
    (hz : IsZipS s.heap z TI TO .none) (hTI : IsTupOf2 s.heap TI (.ref i1) (.ref i2)) (hTO : IsTupOf2 s.heap TO a1 a2) (st1 : St1 n1 s.heap) (st2 : St2 n2 s.heap)
    (hQ : ∀ h' tk, (∀ c o, c ≠ z → c ≠ TO → c ≠ i1 → c ≠ i2 → s.heap.get? c = some o → h'.get? c = some o) → Q none { s with heap := h', toks := tk }) : wpAny (model prog w) A (pyNext (.ref z)) Q E s := by
  have hT : s.TypeIs (.ref z) "zip" := ⟨_, hz, rfl⟩
  unfold pyNext
  refine wpAny_bind (wpAny_attempt (wpAny_callSpecial?_slot (name := Str.ofString "__next__") hT F.slot_zip_next
    (wpAny_call_entry F.slot_zip_next hT F.entry_zip_next (zS_next_end hh S D1 D2 hz hTI hTO st1 st2 fun h' tk e hk he => ?_) (F.args_zip_next_1 _))))
  obtain ⟨o, ho, hc⟩ := he
  refine wpAny_bind (wpAny_isInstance (T := "StopIteration") (b := true) ⟨o, ho, hc⟩ isSubtype_stop ?_)
  exact wpAny_pure (hQ _ _ hk)
theorem letGo_zS {elts : List Expr} {x1} {pos : Pos} {z TI TO T : Addr} {Q : Unit → Shared → Prop} (hz : IsZipS s.heap z TI TO (rawInt T))
    (hQ : ∀ h', IsZipS h' z TI TO .none → Heap.SameBut z s.heap h' → Q () { s with heap := h' }) :
    wpAny (model prog w) A (letOwnedTupleGo (.Tuple elts x1 pos) (.ref z) (.ref T)) Q E s := by
  unfold letOwnedTupleGo
  refine wpAny_bind (wpAny_load hz ?_)
  show wpAny _ _ (if (["enumerate", "zip", "dict_itemiterator", "dict_reverseitemiterator", "odict_iterator", "itertools.zip_longest", "itertools.pairwise"].contains "zip" &&
      (#[rawInt T, .bool false, .bool true, .ref TI, .ref TO] : Array Value)[0]? == some (rawInt T)) = true then _ else _) Q E s
  rw [if_pos (by simp)]
  refine wpAny_bind (wpAny_rule ?_)
  show wpAny _ _ (setField (.ref z) 0 .none) Q E s
  exact wpAny_setField_rec hz (by simp) fun h' hz' hs' => hQ h' hz' hs'
theorem pyIter_zS {z TI TO : Addr} {f0 : Value} {Q : Value → Shared → Prop} (hz : IsZipS s.heap z TI TO f0) (h : Q (.ref z) s) : wpAny (model prog w) A (pyIter (.ref z)) Q E s := by
  have hT : s.TypeIs (.ref z) "zip" := ⟨_, hz, rfl⟩
  refine wpAny_pyIter_slot hT F.slot_zip_iter (wpAny_call_entry F.slot_zip_iter hT F.entry_zip_iter ?_ (F.args_zip_iter_1 _))
  show wpAny _ _ (ret (.ref z)) _ _ s
  exact wpAny_pure ⟨_, rfl, "zip", _, hT, F.slot_zip_next.lookup, h⟩
end

/-! ### zip(v1, v2, strict=True) begins -/
theorem typeCall_zS (a b : Value) : checkTypeCall "zip" ⟨[a, b], [(Str.ofString "strict", .bool true)]⟩ = pure () := by kernel_rfl
theorem newCall_zS (a b : Value) : checkBuiltinCall "zip.__new__" ⟨[.type "zip", a, b], [(Str.ofString "strict", .bool true)]⟩ = pure () := by kernel_rfl
theorem args_object_init_zS (obj a b : Value) : argsOk "object.__init__" ⟨[obj, a, b], [(Str.ofString "strict", .bool true)]⟩ := by unfold argsOk; kernel_rfl
abbrev zsZ (h : Heap) (o1 o2 : Obj) : Heap := (gzO2 h o1 o2).push { cls := .type "zip", data := .fields #[.none, .bool false, .bool true, .ref ((h.push o1).push o2).objs.size, .ref (gzT2 h o1 o2).objs.size] }
theorem meets_zS {v1 v2 : Value} {o1 o2 : Obj} {H1 H2 : Heap → Prop} (B1 : Begins v1 o1 H1) (B2 : Begins v2 o2 H2) :
    Meets (Builtin.«zip.__new__» ⟨[.type "zip", v1, v2], [(Str.ofString "strict", .bool true)]⟩) (fun _ R s => (H1 s.heap ∧ H2 s.heap) ∧
      R (.ok (.ret (.ref (gzO2 s.heap o1 o2).objs.size))) { s with heap := zsZ s.heap o1 o2 }) :=
  .of_wp fun prog w A R s h => by
    obtain ⟨hp, g, d, tk, os⟩ := s; obtain ⟨⟨h1, h2⟩, h⟩ := h
    have hsub := sub_zip
    have e1 : (Str.ofString "strict" == ("strict" : Str)) = true := by decide +kernel
    have e2 : (Str.ofString "strict" != ("strict" : Str)) = false := by decide +kernel
    have q1 : ∀ {A' : Around} {E : Value → Shared → Prop} {Q : Value → Shared → Prop}, Q (.ref hp.objs.size) ⟨(hp.push o1), g, d, tk, os⟩ → wpAny (model prog w) A' (pyIter v1) Q E ⟨hp, g, d, tk, os⟩ :=
      fun q => B1.iter prog w _ _ ⟨hp, g, d, tk, os⟩ _ (B1.keeps _ _ h1 fun b o' e => e) q
    have q2 : ∀ {A' : Around} {E : Value → Shared → Prop} {Q : Value → Shared → Prop}, Q (.ref (hp.push o1).objs.size) ⟨((hp.push o1).push o2), g, d, tk, os⟩ → wpAny (model prog w) A' (pyIter v2) Q E ⟨(hp.push o1), g, d, tk, os⟩ :=
      fun q => B2.iter prog w _ _ ⟨(hp.push o1), g, d, tk, os⟩ _ (B2.keeps _ _ h2 fun b o' e => (Heap.get?_push_of_some _ e)) q
    wp_walk using q1, q2
    exact ⟨_, rfl, h⟩
end DZ
namespace DL
open PySem PySem.Spec PyProof.Rows L2 DZ
/-! ### zip of lists and tuples, in any mix, strict or not -/
def IterAt (b : Bool) (h : Heap) (it a : Addr) (i : Nat) : Prop := match b with | true => h.IsTupleIter it a i | false => h.IsListIter it a i
def SrcAt (b : Bool) (h : Heap) (a : Addr) (items : Array Value) : Prop := match b with | true => h.IsTuple a items | false => h.IsList a items
def iterOf (b : Bool) (a : Addr) : Obj := match b with | true => { cls := .type "tuple_iterator", data := .fields #[.ref a, .int 0 0] } | false => { cls := .type "list_iterator", data := .fields #[.ref a, .int 0 0] }
abbrev ZipAt (st : Bool) (h : Heap) (z TI TO : Addr) (f0 : Value) : Prop :=
  h.get? z = some { cls := .type "zip", dict := none, data := .fields #[f0, .bool false, .bool st, .ref TI, .ref TO], slots := #[] }
theorem draws_src {prog : Program} {w : World} {A : Around} (hh : A.handled = none) (b : Bool) (it a : Addr) (hne : a ≠ it) (items : Array Value) :
    Draws prog w A it [it, a] items.size (fun i v => items[i]? = some v) (fun i h => IterAt b h it a i ∧ SrcAt b h a items) := by
  cases b
  · exact .list hh it a hne items
  · exact .tuple hh it a hne items
theorem begins_src (b : Bool) (a : Addr) (items : Array Value) : Begins (.ref a) (iterOf b a) fun h => SrcAt b h a items := by
  cases b
  · exact begins_list a items
  · exact begins_tuple a items
theorem iterAt_new {b : Bool} {h : Heap} {it a : Addr} (e : h.get? it = some (iterOf b a)) : IterAt b h it a 0 := by
  cases b
  · exact ⟨_, e, rfl, rfl⟩
  · exact ⟨_, e, rfl, rfl⟩
theorem IterAt.live {b : Bool} {h : Heap} {it a : Addr} {i : Nat} (e : IterAt b h it a i) : ∃ o, h.get? it = some o := by
  cases b
  · obtain ⟨o, e, _⟩ := e; exact ⟨o, e⟩
  · obtain ⟨o, e, _⟩ := e; exact ⟨o, e⟩
theorem IterAt.noseq {b : Bool} {h : Heap} {it a : Addr} {i : Nat} (e : IterAt b h it a i) : ∃ o, h.get? it = some o ∧ ∀ v, o.data ≠ .cell v := by
  cases b
  · obtain ⟨o, e, _, d⟩ := e; exact ⟨o, e, fun v q => by rw [d] at q; cases q⟩
  · obtain ⟨o, e, _, d⟩ := e; exact ⟨o, e, fun v q => by rw [d] at q; cases q⟩
theorem IterAt.at {b : Bool} {h h' : Heap} {it a : Addr} {i : Nat} (e : IterAt b h it a i) (k : ∀ o, h.get? it = some o → h'.get? it = some o) : IterAt b h' it a i := by
  cases b
  · exact Heap.IsListIter.at e k
  · exact Heap.IsTupleIter.at e k
theorem inv_src {X : Cx} {pins : List (Addr × Obj)} {σ : L2.St} {H : Hp} {s : Shared} {b : Bool} {a : Addr} {xs : List V} (I : Inv X pins σ H s) (h : Sq b X.K H a xs) : ∃ its : List Value, Vals xs its ∧ SrcAt b s.heap a its.toArray := by
  cases b
  · obtain ⟨its, rv, p, _⟩ := I.list h
    exact ⟨its, rv, p.isList⟩
  · obtain ⟨its, rv, p, _⟩ := I.tuple h
    exact ⟨its, rv, p⟩
theorem inv_src_inj {X : Cx} {pins : List (Addr × Obj)} {σ : L2.St} {H : Hp} {s : Shared} {b : Bool} {a : Addr} {xs ys : List V} (I : Inv X pins σ H s) (h : Sq b X.K H a xs) (h' : Sq b X.K H a ys) : xs = ys := by
  cases b
  · exact I.list_inj h h'
  · exact I.tuple_inj h h'
theorem SrcAt.lt {b : Bool} {h : Heap} {a : Addr} {its : Array Value} (p : SrcAt b h a its) : a < h.objs.size := by
  cases b
  · obtain ⟨o, e, _⟩ := p; exact Heap.lt_size e
  · obtain ⟨o, e, _⟩ := p; exact Heap.lt_size e
theorem zipSep {z TI TO i1 i2 a b : Addr} (D : ZipApart z TI TO i1 i2 a b) : ZipSep2 z TI TO i1 i2 [i1, a] [i2, b] where
  TIz := D.TIz
  TOz := D.TOz
  TITO := D.TITO
  TIi1 := D.TIi1
  mem1 := by simp
  zf1 := by simp [D.i1z.symm, D.l1z.symm]
  Tf1 := by simp [D.TOi1, D.l1TO.symm]
  TIi2 := D.TIi2
  mem2 := by simp
  zf2 := by simp [D.i2z.symm, D.l2z.symm]
  Tf2 := by simp [D.TOi2, D.l2TO.symm]
  sep1_2 := by simp [D.i12, D.l2i1.symm]
  sep2_1 := by simp [D.i12.symm, D.l1i2.symm]
section
variable {prog : Program} {w : World} {A : Around} {E : Value → Shared → Prop} {s : Shared} {z TI TO i1 i2 : Addr} {fp1 fp2 : List Addr} {n1 n2 i : Nat} {P1 P2 : Nat → Value → Prop} {St1 St2 : Nat → Heap → Prop} {a1 a2 : Value}
theorem pyNext_zA_item (st : Bool) {Q : Option Value → Shared → Prop} (S : ZipSep2 z TI TO i1 i2 fp1 fp2) (D1 : Draws prog w A.in1 i1 fp1 n1 P1 St1) (D2 : Draws prog w A.in1 i2 fp2 n2 P2 St2)
    (hz : ZipAt st s.heap z TI TO .none) (hTI : IsTupOf2 s.heap TI (.ref i1) (.ref i2)) (hTO : IsTupOf2 s.heap TO a1 a2) (st1 : St1 i s.heap) (st2 : St2 i s.heap) (hlt1 : i < n1) (hlt2 : i < n2)
    (hQ : ∀ x1 x2 h' tk, P1 i x1 → P2 i x2 → ZipAt st h' z TI TO (rawInt s.heap.objs.size) → IsTupOf2 h' TO x1 x2 → St1 (i + 1) h' → St2 (i + 1) h' → IsTupOf2 h' s.heap.objs.size x1 x2 → h'.objs.size = s.heap.objs.size + 1 →
      (∀ c o, c ≠ z → c ≠ TO → c ≠ i1 → c ≠ i2 → s.heap.get? c = some o → h'.get? c = some o) → Q (some (.ref s.heap.objs.size)) { s with heap := h', toks := tk }) :
    wpAny (model prog w) A (pyNext (.ref z)) Q E s := by
  cases st
  · exact wpAny_pyNext_zipD2_item S D1 D2 hz hTI hTO st1 st2 hlt1 hlt2 hQ
  · exact pyNext_zS_item S D1 D2 hz hTI hTO st1 st2 hlt1 hlt2 hQ
theorem pyNext_zA_end (st : Bool) {Q : Option Value → Shared → Prop} (hh : A.in1.handled = none) (S : ZipSep2 z TI TO i1 i2 fp1 fp2) (D1 : Draws prog w A.in1 i1 fp1 n1 P1 St1) (D2 : Draws prog w A.in1 i2 fp2 n2 P2 St2)
    (hz : ZipAt st s.heap z TI TO .none) (hTI : IsTupOf2 s.heap TI (.ref i1) (.ref i2)) (hTO : IsTupOf2 s.heap TO a1 a2) (st1 : St1 i s.heap) (st2 : St2 i s.heap) (hle1 : i ≤ n1) (hle2 : i ≤ n2) (hend : i = n1 ∨ i = n2) (hst : st = true → i = n1 ∧ i = n2)
    (hQ : ∀ h' tk, (∀ c o, c ≠ z → c ≠ TO → c ≠ i1 → c ≠ i2 → s.heap.get? c = some o → h'.get? c = some o) → Q none { s with heap := h', toks := tk }) : wpAny (model prog w) A (pyNext (.ref z)) Q E s := by
  cases st
  · exact wpAny_pyNext_zipD2_end S D1 D2 hz hTI hTO st1 st2 hle1 hle2 hend hQ
  · obtain ⟨e1, e2⟩ := hst rfl
    exact pyNext_zS_end hh S D1 D2 hz hTI hTO (e1 ▸ st1) (e2 ▸ st2) hQ
theorem letGo_zA (st : Bool) {elts : List Expr} {x1} {pos : Pos} {z TI TO T : Addr} {Q : Unit → Shared → Prop} (hz : ZipAt st s.heap z TI TO (rawInt T))
    (hQ : ∀ h', ZipAt st h' z TI TO .none → Heap.SameBut z s.heap h' → Q () { s with heap := h' }) :
    wpAny (model prog w) A (letOwnedTupleGo (.Tuple elts x1 pos) (.ref z) (.ref T)) Q E s := by
  cases st
  · exact wpAny_letOwnedTupleGo_zip hz hQ
  · exact letGo_zS hz hQ
theorem pyIter_zA (st : Bool) {z TI TO : Addr} {f0 : Value} {Q : Value → Shared → Prop} (hz : ZipAt st s.heap z TI TO f0) (h : Q (.ref z) s) : wpAny (model prog w) A (pyIter (.ref z)) Q E s := by
  cases st
  · exact wpAny_pyIter_zip hz h
  · exact pyIter_zS hz h
end
/-- the lists and tuples at a and b as they stand at each turn, the items in new pairs -/
def ItZ (st b1 b2 : Bool) (K : PySem.W.Frag) (a b : Addr) : It :=
  ⟨fun i H => ∃ (xs ys : List V) (x y : V), Sq b1 K H a xs ∧ Sq b2 K H b ys ∧ xs[i]? = some x ∧ ys[i]? = some y,
    fun i H v H' => ∃ T x y, v = .ref T ∧ H T = none ∧ H' = upd H T (.tup [x, y]) ∧ (∀ xs, Sq b1 K H a xs → xs[i]? = some x) ∧ ∀ ys, Sq b2 K H b ys → ys[i]? = some y,
    fun i H => ∃ xs ys : List V, Sq b1 K H a xs ∧ Sq b2 K H b ys ∧ i ≤ xs.length ∧ i ≤ ys.length ∧ (i = xs.length ∨ i = ys.length) ∧ (st = true → i = xs.length ∧ i = ys.length)⟩
theorem turn_zA {st b1 b2 : Bool} {P : Program} {w : World} {K : PySem.W.Frag} {elts : List Expr} {kk : Nat} {tpos : Pos} {a b z TI TO i1 i2 : Addr} (D : ZipApart z TI TO i1 i2 a b) :
    Turn P w K (.Tuple elts kk tpos) (ItZ st b1 b2 K a b) [z, TI, TO, i1, i2] z (fun i h => ZipAt st h z TI TO .none ∧ IsPair h TI (.ref i1) (.ref i2) ∧ (∃ x y, IsPair h TO x y) ∧ IterAt b1 h i1 a i ∧ IterAt b2 h i2 b i) where
  mem := by simp
  obj := fun i h st c hc => by
    obtain ⟨hz, hTI, ⟨x, y, hTO⟩, h1, h2⟩ := st
    have e' : c = z ∨ c = TI ∨ c = TO ∨ c = i1 ∨ c = i2 := by simpa using hc
    rcases e' with q | q | q | q | q
    · rw [q]; exact ⟨_, hz, fun v q => nomatch q⟩
    · rw [q]; exact ⟨_, hTI, fun v q => nomatch q⟩
    · rw [q]; exact ⟨_, hTO, fun v q => nomatch q⟩
    · rw [q]
      cases b1
      · obtain ⟨o1, e1, _, d1⟩ := h1
        exact ⟨o1, e1, fun v q => by rw [d1] at q; cases q⟩
      · obtain ⟨o1, e1, _, d1⟩ := h1
        exact ⟨o1, e1, fun v q => by rw [d1] at q; cases q⟩
    · rw [q]
      cases b2
      · obtain ⟨o1, e1, _, d1⟩ := h2
        exact ⟨o1, e1, fun v q => by rw [d1] at q; cases q⟩
      · obtain ⟨o1, e1, _, d1⟩ := h2
        exact ⟨o1, e1, fun v q => by rw [d1] at q; cases q⟩
  keep := fun i h h' st k => by
    obtain ⟨hz, hTI, ⟨x, y, hTO⟩, h1, h2⟩ := st
    exact ⟨k z (by simp) _ hz, k TI (by simp) _ hTI, ⟨x, y, k TO (by simp) _ hTO⟩, h1.at fun o q => k i1 (by simp) o q, h2.at fun o q => k i2 (by simp) o q⟩
  item := by
    intro X hP hw hK hc i pins s σ H E I hf hst hg
    subst hP hw hK
    have hh1 : X.A.in1.handled = none := I.ok.hd hc
    obtain ⟨hz, hTI, ⟨x0, y0, hTO⟩, h1, h2⟩ := hst
    obtain ⟨xs, ys, x, y, hqx, hqy, hx, hy⟩ := hg
    obtain ⟨its, rv, p⟩ := inv_src I hqx
    obtain ⟨its2, rv2, p2⟩ := inv_src I hqy
    obtain ⟨u, hu, ru⟩ := rv.get hx
    obtain ⟨u2, hu2, ru2⟩ := rv2.get hy
    have hzl : z < s.heap.objs.size := Heap.lt_size hz
    have l1 : i < its.toArray.size := by
      have := (List.getElem?_eq_some_iff.mp hu).1
      simpa using this
    have l2 : i < its2.toArray.size := by
      have := (List.getElem?_eq_some_iff.mp hu2).1
      simpa using this
    refine pyNext_zA_item st (zipSep D) (draws_src hh1 b1 i1 a D.l1i1 its.toArray) (draws_src hh1 b2 i2 b D.l2i2 its2.toArray) hz hTI hTO ⟨h1, p⟩ ⟨h2, p2⟩ l1 l2 fun w1 w2 h' tk q1 q2 z' TO' h1' h2' hT hsz hk => ?_
    have ew1 : u = w1 := by rw [List.getElem?_toArray, hu] at q1; exact Option.some.inj q1
    have ew2 : u2 = w2 := by rw [List.getElem?_toArray, hu2] at q2; exact Option.some.inj q2
    subst ew1 ew2
    refine ⟨_, rfl, letGo_zA st (s := { s with heap := h', toks := tk }) z' fun h'' z'' sb => ?_⟩
    have hT2 : h''.get? s.heap.objs.size = some { cls := .type "tuple", data := .seq #[u, u2] } := (sb.2 _ (Nat.ne_of_gt hzl)).trans hT
    have new : ObjOk X.prog X.w (upd H s.heap.objs.size (.tup [x, y])) h'' s.heap.objs.size (.tup [x, y]) :=
      ⟨by show 2 ≤ sizeLine; decide, [u, u2], .cons ru (.cons ru2 .nil), ⟨_, hT2, rfl, _, rfl⟩⟩
    have I1 : Inv X pins σ (upd H s.heap.objs.size (.tup [x, y])) { s with heap := h'', toks := tk } :=
      I.turnedNew (t' := tk) (ch := [z, TI, TO, i1, i2]) (fun c o hb q => (sb.2 c (fun q' => hb (by simp [q']))).trans (hk c o (fun q' => hb (by simp [q'])) (fun q' => hb (by simp [q'])) (fun q' => hb (by simp [q'])) (fun q' => hb (by simp [q'])) q)) hf (Nat.le_refl _) new
    refine ⟨.ref s.heap.objs.size, _, I1, rfl, ⟨_, x, y, rfl, I.hok.fresh (Nat.le_refl _), rfl, fun l hl => by rw [inv_src_inj I hl hqx]; exact hx, fun l hl => by rw [inv_src_inj I hl hqy]; exact hy⟩, ⟨z'', ?_, ⟨u, u2, ?_⟩, ?_, ?_⟩, fun c hcm => ?_⟩
    · exact (sb.2 _ D.TIz).trans (hk _ _ D.TIz D.TITO D.TIi1 D.TIi2 hTI)
    · exact (sb.2 _ D.TOz).trans TO'
    · exact h1'.1.at fun o q => (sb.2 _ D.i1z).trans q
    · exact h2'.1.at fun o q => (sb.2 _ D.i2z).trans q
    · have hlt : c < s.heap.objs.size := by
        have e' : c = z ∨ c = TI ∨ c = TO ∨ c = i1 ∨ c = i2 := by simpa using hcm
        rcases e' with q | q | q | q | q
        · rw [q]; exact hzl
        · rw [q]; exact Heap.lt_size hTI
        · rw [q]; exact Heap.lt_size hTO
        · rw [q]; obtain ⟨_, e1⟩ := h1.live; exact Heap.lt_size e1
        · rw [q]; obtain ⟨_, e2⟩ := h2.live; exact Heap.lt_size e2
      rw [upd_ne (Nat.ne_of_lt hlt)]
      exact (hf c hcm).1
  done := by
    intro X hP hw hK hc i pins s σ H E I hf hst hg
    subst hP hw hK
    have hh1 : X.A.in1.handled = none := I.ok.hd hc
    obtain ⟨hz, hTI, ⟨x0, y0, hTO⟩, h1, h2⟩ := hst
    obtain ⟨xs, ys, hqx, hqy, hle1, hle2, hend, hs⟩ := hg
    obtain ⟨its, rv, p⟩ := inv_src I hqx
    obtain ⟨its2, rv2, p2⟩ := inv_src I hqy
    have l1 := rv.length
    have l2 := rv2.length
    refine pyNext_zA_end st hh1 (zipSep D) (draws_src hh1 b1 i1 a D.l1i1 its.toArray) (draws_src hh1 b2 i2 b D.l2i2 its2.toArray) hz hTI hTO ⟨h1, p⟩ ⟨h2, p2⟩ (by simp; omega) (by simp; omega) (by simp; omega) (fun e => by have := hs e; simp; omega) fun h' tk hk => ⟨rfl, I.turnedL (t' := tk) (ch := [z, TI, TO, i1, i2]) (fun c o hb q =>
      hk c o (fun q' => hb (by simp [q'])) (fun q' => hb (by simp [q'])) (fun q' => hb (by simp [q'])) (fun q' => hb (by simp [q'])) q) hf⟩
  self := fun A i s Q E st' h => pyIter_zA st st'.1 h
end DL
namespace DZ
open PySem PySem.Spec PyProof.Rows L2
section
variable {prog : Program} {w : World} {A : Around} {E : Value → Shared → Prop} {s : Shared}
/-- zip of 2, strict: its 5 new cells -/
theorem zS_begins2 {v1 v2 : Value} {o1 o2 : Obj} {H1 H2 : Heap → Prop} {Q : Value → Shared → Prop} (B1 : Begins v1 o1 H1) (B2 : Begins v2 o2 H2) (h1 : H1 s.heap) (h2 : H2 s.heap)
    (h : ∀ h', IsZipS h' (s.heap.objs.size + 4) (s.heap.objs.size + 2) (s.heap.objs.size + 3) .none → IsTupOf2 h' (s.heap.objs.size + 2) (.ref s.heap.objs.size) (.ref (s.heap.objs.size + 1)) →
      IsTupOf2 h' (s.heap.objs.size + 3) .none .none → h'.get? s.heap.objs.size = some o1 → h'.get? (s.heap.objs.size + 1) = some o2 → h'.objs.size = s.heap.objs.size + 5 →
      (∀ c o, s.heap.get? c = some o → h'.get? c = some o) → Q (.ref (s.heap.objs.size + 4)) { s with heap := h' }) :
    wpAny (model prog w) A (call (.type "zip") [v1, v2] [(Str.ofString "strict", .bool true)]) Q E s := by
  refine callType_newKw F.called_zip (by decide) (typeCall_zS _ _) (newCall_zS _ _) (fun obj => args_object_init_zS obj _ _) F.entry_zip_new
    (meets_zS B1 B2) ⟨⟨h1, h2⟩, ?_⟩
  have z1 : (s.heap.push o1).objs.size = s.heap.objs.size + 1 := by rw [Heap.size_push]
  have z2 : ((s.heap.push o1).push o2).objs.size = s.heap.objs.size + 2 := by rw [Heap.size_push, z1]
  have zT : (gzT2 s.heap o1 o2).objs.size = s.heap.objs.size + 3 := by rw [Heap.size_push, z2]
  have zO : (gzO2 s.heap o1 o2).objs.size = s.heap.objs.size + 4 := by rw [Heap.size_push, zT]
  have zZ : (zsZ s.heap o1 o2).objs.size = s.heap.objs.size + 5 := by rw [Heap.size_push, zO]
  have gZ : (zsZ s.heap o1 o2).get? (gzO2 s.heap o1 o2).objs.size = some { cls := .type "zip", data := .fields #[.none, .bool false, .bool true, .ref ((s.heap.push o1).push o2).objs.size, .ref (gzT2 s.heap o1 o2).objs.size] } := Heap.get?_push_size _ rfl
  have gO : (zsZ s.heap o1 o2).get? (gzT2 s.heap o1 o2).objs.size = some { cls := .type "tuple", data := .seq #[.none, .none] } := Heap.get?_push_of_some _ (Heap.get?_push_size _ rfl)
  have gT : (zsZ s.heap o1 o2).get? ((s.heap.push o1).push o2).objs.size = some { cls := .type "tuple", data := .seq #[.ref s.heap.objs.size, .ref (s.heap.push o1).objs.size] } := Heap.get?_push_of_some _ (Heap.get?_push_of_some _ (Heap.get?_push_size _ rfl))
  have g1 : (zsZ s.heap o1 o2).get? s.heap.objs.size = some o1 := Heap.get?_push_of_some _ (Heap.get?_push_of_some _ (Heap.get?_push_of_some _ (Heap.get?_push_of_some _ (Heap.get?_push_size _ B1.free))))
  have g2 : (zsZ s.heap o1 o2).get? (s.heap.push o1).objs.size = some o2 := Heap.get?_push_of_some _ (Heap.get?_push_of_some _ (Heap.get?_push_of_some _ (Heap.get?_push_size _ B2.free)))
  rw [zO, zT, z2] at gZ
  rw [zT] at gO
  rw [z2, z1] at gT
  rw [z1] at g2
  show _ ∧ _
  rw [zO]
  exact ⟨⟨_, gZ, rfl⟩, h _ gZ gT gO g1 g2 zZ fun c o e => Heap.get?_push_of_some _ (Heap.get?_push_of_some _ (Heap.get?_push_of_some _ (Heap.get?_push_of_some _ (Heap.get?_push_of_some _ e))))⟩
end
section
variable {M : Model} {A : Around} {E : Value → Shared → Prop} {s : Shared} {env : Env}
theorem callWith_type_kw {pos : Pos} {id : String} {e : Expr} {rest : List Expr} {kws : List Keyword} {Q : Value → Shared → Prop}
    (h : wpAny M A (spliced (backTo pos (starEach (e :: rest) env))) (fun vs s₁ => wpAny M A (evalAll ((backToKw pos (keywordEach kws env)).map (·.2)))
      (fun kvs s₂ => wpAny M A (call (.type id) vs (((backToKw pos (keywordEach kws env)).filterMap (·.1)).zip kvs)) Q E s₂) E s₁) E s)
    (he : backTo pos (starEach (e :: rest) env) = (false, eval e env) :: backTo pos (starEach rest env) := by rfl)
    (hplain : (backTo pos (starEach (e :: rest) env)).any (·.1) = false := by rfl)
    (hall : (backToKw pos (keywordEach kws env)).all (·.1.isSome) = true := by rfl)
    (hkw : (backToKw pos (keywordEach kws env)).any (·.1.isNone) = false := by rfl) :
    wpAny M A (callWith pos (.type id) [] (backTo pos (starEach (e :: rest) env)) (backToKw pos (keywordEach kws env))) Q E s := by
  rw [he] at h
  have h2 := evalArgs_kwB (f := .type id) (Q := fun a s₁ => wpAny M A (call (.type id) ([] ++ a.pos) a.kw) Q E s₁) hall h
  rw [← he] at h2
  unfold callWith
  refine wpAny_bind (wpAny_holding (wpAny_mono h2 (fun a s₁ h₁ => wpAny_bind (wpAny_standAt ?_)) fun _ _ x => x))
  simp only [hplain, hkw, Bool.or_false]
  refine wpAny_bind (wpAny_pure ?_)
  exact wpAny_bind (wpAny_mono h₁ (fun r s₂ hr => wpAny_bind (wpAny_holding (wpAny_point (wpAny_pure hr)))) fun _ _ x => x)
end
end DZ
namespace DL
open PySem PySem.Spec PyProof.Rows L2 DZ
def iZA (st : Bool) (K : PySem.W.Frag) (ta : TA) : TI := fun σ H R => ta σ H fun vs H1 => ∃ b1 b2 a b xs ys, vs = [.ref a, .ref b] ∧ Sq b1 K H1 a xs ∧ Sq b2 K H1 b ys ∧ R (ItZ st b1 b2 K a b) H1
section
variable {X : Cx} {e e2 k : Expr} {ta : TA} {p pos tpos kpos : Pos} {elts : List Expr} {kk : Nat}
theorem zA_of {st b1 b2 : Bool} {pins : List (Addr × Obj)} {σ : L2.St} {H1 : Hp} {s1 : Shared} {a b : Addr} {R : It → Hp → Prop} {h' : Heap} {its its2 : Array Value} (I1 : Inv X pins σ H1 s1) (p1 : SrcAt b1 s1.heap a its) (p2 : SrcAt b2 s1.heap b its2) (q : R (ItZ st b1 b2 X.K a b) H1)
    (hz : ZipAt st h' (s1.heap.objs.size + 4) (s1.heap.objs.size + 2) (s1.heap.objs.size + 3) .none) (hTI : IsTupOf2 h' (s1.heap.objs.size + 2) (.ref s1.heap.objs.size) (.ref (s1.heap.objs.size + 1))) (hTO : IsTupOf2 h' (s1.heap.objs.size + 3) .none .none)
    (g1 : h'.get? s1.heap.objs.size = some (iterOf b1 a)) (g2 : h'.get? (s1.heap.objs.size + 1) = some (iterOf b2 b)) (hk : ∀ c o, s1.heap.get? c = some o → h'.get? c = some o) :
    PIE X pins σ (.Tuple elts kk tpos) R (.ref (s1.heap.objs.size + 4)) { s1 with heap := h' } := by
  have I2 : Inv X pins σ H1 { s1 with heap := h' } := I1.kept (t' := s1.toks) hk
  have fresh5 : ∀ c, c ∈ [s1.heap.objs.size + 4, s1.heap.objs.size + 2, s1.heap.objs.size + 3, s1.heap.objs.size, s1.heap.objs.size + 1] → FpOk X pins H1 c := fun c hcm => by
    have e' : c = s1.heap.objs.size + 4 ∨ c = s1.heap.objs.size + 2 ∨ c = s1.heap.objs.size + 3 ∨ c = s1.heap.objs.size ∨ c = s1.heap.objs.size + 1 := by simpa using hcm
    have hle : s1.heap.objs.size ≤ c := by
      rcases e' with z | z | z | z | z
      · rw [z]; exact Nat.le_add_right _ _
      · rw [z]; exact Nat.le_add_right _ _
      · rw [z]; exact Nat.le_add_right _ _
      · rw [z]; exact Nat.le_refl _
      · rw [z]; exact Nat.le_add_right _ _
    exact I1.fpOk hle (I1.hok.fresh hle)
  exact ⟨s1.heap.objs.size + 4, [s1.heap.objs.size + 4, s1.heap.objs.size + 2, s1.heap.objs.size + 3, s1.heap.objs.size, s1.heap.objs.size + 1], _, _, H1, rfl, I2, turn_zA (PySem.W.ktu_apart s1.heap.objs.size a b p1.lt p2.lt), ⟨hz, hTI, ⟨_, _, hTO⟩, iterAt_new g1, iterAt_new g2⟩, fresh5, q⟩
theorem pi_zA0 (hg : Gl X "zip") (hm : X.mg "zip" = none) (ha : PA X [e, e2] ta)
    (hs : starEach [e, e2] X.env = (false, eval e X.env) :: starEach [e2] X.env := by rfl) (hpl : (backTo pos (starEach [e2] X.env)).any (·.1) = false := by rfl) :
    PI X (.Tuple elts kk tpos) (.Call (.Name "zip" p) [e, e2] [] pos) (iZA false X.K ta) := by
  refine ⟨fun pins s σ H R I h => ?_⟩
  refine Call_ (ld_blt I hg hm PyProof.Rows.boot_zip (PyProof.Rows.callWith_type1 (thn (ha.run pos pins s σ H _ I h) fun us s1 ⟨vs, H1, I1, r1, q1⟩ => ?_) hs hpl))
  obtain ⟨b1, b2, a, b, xs, ys, ex, hqx, hqy, q⟩ := q1
  subst ex
  cases r1 with
  | cons r rr =>
    cases rr with
    | cons r' rr =>
      cases rr
      cases r
      cases r'
      obtain ⟨its, rv, p1⟩ := inv_src I1 hqx
      obtain ⟨its2, rv2, p2⟩ := inv_src I1 hqy
      exact zip_begins2 (begins_src b1 a its.toArray) (begins_src b2 b its2.toArray) p1 p2 fun h' hz hTI hTO g1 g2 hsz hk => pyIter_zA false hz (zA_of I1 p1 p2 q hz hTI hTO g1 g2 hk)
theorem pi_zA1 (hg : Gl X "zip") (hm : X.mg "zip" = none) (ha : PA X [e, e2] ta) (ht : ∀ {E : Value → Shared → Prop} {s : Shared} {Q : Value → Shared → Prop}, Q (.bool true) s → wpAny (model X.prog X.w) X.A (eval k X.env) Q E s)
    (hs : starEach [e, e2] X.env = (false, eval e X.env) :: starEach [e2] X.env := by rfl) (hpl : (backTo pos (starEach [e2] X.env)).any (·.1) = false := by rfl) :
    PI X (.Tuple elts kk tpos) (.Call (.Name "zip" p) [e, e2] [⟨some (Str.ofString "strict"), k, kpos⟩] pos) (iZA true X.K ta) := by
  refine ⟨fun pins s σ H R I h => ?_⟩
  refine wpAny_Call_Name_kw (ld_blt I hg hm PyProof.Rows.boot_zip ?_)
  refine callWith_type_kw (thn (ha.run pos pins s σ H _ I h) fun us s1 ⟨vs, H1, I1, r1, q1⟩ => ?_) (by rw [hs]; rfl) (by rw [hs]; show (false || (backTo pos (starEach [e2] X.env)).any (·.1)) = false; rw [hpl]; rfl)
  refine PyProof.Rows.kws_cons (ht (PyProof.Rows.kws_nil ?_))
  obtain ⟨b1, b2, a, b, xs, ys, ex, hqx, hqy, q⟩ := q1
  subst ex
  cases r1 with
  | cons r rr =>
    cases rr with
    | cons r' rr =>
      cases rr
      cases r
      cases r'
      obtain ⟨its, rv, p1⟩ := inv_src I1 hqx
      obtain ⟨its2, rv2, p2⟩ := inv_src I1 hqy
      exact zS_begins2 (begins_src b1 a its.toArray) (begins_src b2 b its2.toArray) p1 p2 fun h' hz hTI hTO g1 g2 hsz hk => pyIter_zA true hz (zA_of I1 p1 p2 q hz hTI hTO g1 g2 hk)
end
/-! ### enumerate -/
theorem meets_enum1 {v : Value} {o : Obj} {H : Heap → Prop} (B : Begins v o H) :
    Meets (Builtin.«enumerate.__new__» ⟨[.type "enumerate", v], []⟩) (fun _ R s => H s.heap ∧
      R (.ok (.ret (.ref (s.heap.push o).objs.size))) { s with heap := (s.heap.push o).push { cls := .type "enumerate", data := .fields #[.none, .bool false, .ref s.heap.objs.size, rawInt 0, .none, .none] } }) :=
  .of_wp fun prog w A R s h => by
    obtain ⟨hp, g, d, tk, os⟩ := s; obtain ⟨h1, h⟩ := h
    have hsub := sub_enumerate
    have q1 : ∀ {A' : Around} {E : Value → Shared → Prop} {Q : Value → Shared → Prop}, Q (.ref hp.objs.size) ⟨hp.push o, g, d, tk, os⟩ → wpAny (model prog w) A' (pyIter v) Q E ⟨hp, g, d, tk, os⟩ :=
      fun q => B.iter prog w _ _ ⟨hp, g, d, tk, os⟩ _ h1 q
    wp_walk using q1
    refine wpAny_stack_any fun st => wpAny_pure ?_
    split
    · rename_i c _ _ _ _ _
      cases (c == Value.type "enumerate")
      · wp_walk using q1
        exact ⟨_, rfl, h⟩
      · wp_walk using q1
        exact ⟨_, rfl, h⟩
    · wp_walk using q1
      exact ⟨_, rfl, h⟩
theorem enum_begins1 {prog : Program} {w : World} {A : Around} {E : Value → Shared → Prop} {s : Shared} {v : Value} {o : Obj} {H : Heap → Prop} {Q : Value → Shared → Prop} (B : Begins v o H) (h1 : H s.heap)
    (h : ∀ h', IsEnum h' (s.heap.objs.size + 1) s.heap.objs.size 0 .none → h'.get? s.heap.objs.size = some o → h'.objs.size = s.heap.objs.size + 2 →
      (∀ b o, s.heap.get? b = some o → h'.get? b = some o) → Q (.ref (s.heap.objs.size + 1)) { s with heap := h' }) :
    wpAny (model prog w) A (call (.type "enumerate") [v]) Q E s := by
  refine callType_new F.called_enumerate (by decide) (F.typeCall_enumerate_1 _) (F.newCall_enumerate_1 _) (fun obj => F.args_object_init_2 obj _) F.entry_enumerate_new
    (meets_enum1 B) ⟨h1, ?_⟩
  have hz : (s.heap.push o).objs.size = s.heap.objs.size + 1 := Heap.size_push ..
  show _ ∧ _
  rw [hz]
  have he : IsEnum ((s.heap.push o).push { cls := .type "enumerate", data := .fields #[.none, .bool false, .ref s.heap.objs.size, rawInt 0, .none, .none] }) (s.heap.objs.size + 1) s.heap.objs.size 0 .none := by
    have := Heap.get?_push_size (s.heap.push o) (o := { cls := .type "enumerate", data := .fields #[.none, .bool false, .ref s.heap.objs.size, rawInt 0, .none, .none] }) rfl
    rw [hz] at this; exact this
  refine ⟨⟨_, he, rfl⟩, h _ he (Heap.get?_push_of_some _ (Heap.get?_push_size _ B.free)) (by rw [Heap.size_push, hz]) fun b o x => Heap.get?_push_of_some _ (Heap.get?_push_of_some _ x)⟩
/-- the list or tuple at a as it stands at each turn, counted from k -/
def ItE (b : Bool) (K : PySem.W.Frag) (k : Int) (a : Addr) : It :=
  ⟨fun i H => ∃ (xs : List V) (x : V), Sq b K H a xs ∧ xs[i]? = some x,
    fun i H v H' => ∃ T x, v = .ref T ∧ H T = none ∧ H' = upd H T (.tup [.int (k + (i : Int)), x]) ∧ ∀ xs, Sq b K H a xs → xs[i]? = some x,
    fun i H => ∃ xs : List V, Sq b K H a xs ∧ i = xs.length⟩
theorem turn_enA {b : Bool} {k : Int} {P : Program} {w : World} {K : PySem.W.Frag} {elts : List Expr} {kk : Nat} {tpos : Pos} {a e it : Addr} (hei : e ≠ it) (hae : a ≠ e) (hai : a ≠ it) :
    Turn P w K (.Tuple elts kk tpos) (ItE b K k a) [e, it] e (fun i h => (∃ old, IsEnum h e it (k + (i : Int)) old) ∧ IterAt b h it a i) where
  mem := by simp
  obj := fun i h st c hc => by
    obtain ⟨⟨old, he⟩, h1⟩ := st
    have e' : c = e ∨ c = it := by simpa using hc
    rcases e' with q | q
    · rw [q]; exact ⟨_, he, fun v q => nomatch q⟩
    · rw [q]; exact h1.noseq
  keep := fun i h h' st k => by
    obtain ⟨⟨old, he⟩, h1⟩ := st
    exact ⟨⟨old, k e (by simp) _ he⟩, h1.at fun o q => k it (by simp) o q⟩
  item := by
    intro X hP hw hK hc i pins s σ H E I hf st hg
    subst hP hw hK
    have hh1 : X.A.in1.handled = none := I.ok.hd hc
    obtain ⟨⟨old, he⟩, h1⟩ := st
    obtain ⟨xs, x, hq, hx⟩ := hg
    obtain ⟨its, rv, p⟩ := inv_src I hq
    obtain ⟨u, hu, ru⟩ := rv.get hx
    have hel : e < s.heap.objs.size := Heap.lt_size he
    have l1 : i < its.toArray.size := by
      have := (List.getElem?_eq_some_iff.mp hu).1
      simpa using this
    refine wpAny_pyNext_enum_itemC (draws_src hh1 b it a hai its.toArray) he ⟨h1, p⟩ l1 hei (by simp [hei, hae.symm]) fun w1 h' tk q1 ho h1' hT hsz hk => ?_
    have ew1 : u = w1 := by rw [List.getElem?_toArray, hu] at q1; exact Option.some.inj q1
    subst ew1
    refine ⟨_, rfl, wpAny_letOwnedTupleGo_enum (s := { s with heap := h', toks := tk + 1 }) ho fun h'' he' sb => ?_⟩
    have hT2 : h''.get? s.heap.objs.size = some { cls := .type "tuple", data := .seq #[.int (k + (i : Int)) tk, u] } := (sb.2 _ (Nat.ne_of_gt hel)).trans hT
    have new : ObjOk X.prog X.w (upd H s.heap.objs.size (.tup [.int (k + (i : Int)), x])) h'' s.heap.objs.size (.tup [.int (k + (i : Int)), x]) :=
      ⟨by show 2 ≤ sizeLine; decide, [.int (k + (i : Int)) tk, u], .cons ⟨_, rfl⟩ (.cons ru .nil), ⟨_, hT2, rfl, _, rfl⟩⟩
    have I1 : Inv X pins σ (upd H s.heap.objs.size (.tup [.int (k + (i : Int)), x])) { s with heap := h'', toks := tk + 1 } :=
      I.turnedNew (ch := [e, it]) (fun c o hb q => (sb.2 c (fun z => hb (by simp [z]))).trans (hk c o (fun z => hb (by simp [z])) (fun z => hb (by simp [z])) q)) hf (Nat.le_refl _) new
    refine ⟨.ref s.heap.objs.size, _, I1, rfl, ⟨_, x, rfl, I.hok.fresh (Nat.le_refl _), rfl, fun ys hy => by rw [inv_src_inj I hy hq]; exact hx⟩, ⟨⟨u, ?_⟩, h1'.1.at fun o q => (sb.2 it (Ne.symm hei)).trans q⟩, fun c hb => ?_⟩
    · have e1 : k + ((i + 1 : Nat) : Int) = k + (i : Int) + 1 := by omega
      rw [e1]; exact he'
    · have hb' : c < s.heap.objs.size := by
        have e' : c = e ∨ c = it := by simpa using hb
        rcases e' with z | z
        · rw [z]; exact hel
        · rw [z]; obtain ⟨_, e1⟩ := h1.live; exact Heap.lt_size e1
      rw [upd_ne (Nat.ne_of_lt hb')]
      exact (hf c hb).1
  done := by
    intro X hP hw hK hc i pins s σ H E I hf st hg
    subst hP hw hK
    have hh1 : X.A.in1.handled = none := I.ok.hd hc
    obtain ⟨⟨old, he⟩, h1⟩ := st
    obtain ⟨xs, hq, hx⟩ := hg
    obtain ⟨its, rv, p⟩ := inv_src I hq
    obtain ⟨f0, f1, f2, f3, f4, f5⟩ := hf it (by simp)
    have hl : i = its.toArray.size := by have := rv.length; simp; omega
    subst hl
    exact wpAny_pyNext_enum_endD (draws_src hh1 b it a hai its.toArray) he ⟨h1, p⟩ fun h' eb => ⟨rfl, I.turned (t' := s.toks) (fun c o hb q => eb c o hb q) f0 f1 f3 f4 f5⟩
  self := fun A i s Q E st h => let ⟨⟨_, he⟩, _⟩ := st; wpAny_pyIter_enum he h
def iEA (K : PySem.W.Frag) (ta : TA) : TI := fun σ H R => ta σ H fun vs H1 => ∃ b a xs, vs = [.ref a] ∧ Sq b K H1 a xs ∧ R (ItE b K 0 a) H1
section
variable {X : Cx} {e e2 k : Expr} {ta : TA} {p pos tpos kpos : Pos} {elts : List Expr} {kk : Nat}
theorem eA_of {b : Bool} {k : Int} {pins : List (Addr × Obj)} {σ : L2.St} {H1 : Hp} {s1 : Shared} {a : Addr} {R : It → Hp → Prop} {h' : Heap} {its : Array Value} (I1 : Inv X pins σ H1 s1) (p1 : SrcAt b s1.heap a its) (q : R (ItE b X.K k a) H1)
    (he : IsEnum h' (s1.heap.objs.size + 1) s1.heap.objs.size k .none) (g1 : h'.get? s1.heap.objs.size = some (iterOf b a)) (hk : ∀ c o, s1.heap.get? c = some o → h'.get? c = some o) :
    PIE X pins σ (.Tuple elts kk tpos) R (.ref (s1.heap.objs.size + 1)) { s1 with heap := h' } := by
  have I2 : Inv X pins σ H1 { s1 with heap := h' } := I1.kept (t' := s1.toks) hk
  have lt := p1.lt
  refine ⟨s1.heap.objs.size + 1, [s1.heap.objs.size + 1, s1.heap.objs.size], _, _, H1, rfl, I2, turn_enA (Nat.succ_ne_self _) (Nat.ne_of_lt (Nat.lt_succ_of_lt lt)) (Nat.ne_of_lt lt), ⟨⟨.none, ?_⟩, iterAt_new g1⟩, fun c hb => ?_, q⟩
  · have e1 : k + ((0 : Nat) : Int) = k := by omega
    rw [e1]; exact he
  · have e' : c = s1.heap.objs.size + 1 ∨ c = s1.heap.objs.size := by simpa using hb
    have hle : s1.heap.objs.size ≤ c := by
      rcases e' with z | z
      · rw [z]; exact Nat.le_add_right _ _
      · rw [z]; exact Nat.le_refl _
    exact I1.fpOk hle (I1.hok.fresh hle)
theorem pi_eA (hg : Gl X "enumerate") (hm : X.mg "enumerate" = none) (ha : PA X [e] ta) (hs : starEach [e] X.env = [(false, eval e X.env)] := by rfl) :
    PI X (.Tuple elts kk tpos) (.Call (.Name "enumerate" p) [e] [] pos) (iEA X.K ta) := by
  refine ⟨fun pins s σ H R I h => ?_⟩
  refine Call_ (ld_blt I hg hm boot_enumerate (PyProof.Rows.callWith_type1 (thn (ha.run pos pins s σ H _ I h) fun us s1 ⟨vs, H1, I1, r1, q1⟩ => ?_) hs rfl))
  obtain ⟨b, a, xs, ex, hq, q⟩ := q1
  subst ex
  cases r1 with
  | cons r rr =>
    cases rr
    cases r
    obtain ⟨its, rv, p1⟩ := inv_src I1 hq
    exact enum_begins1 (begins_src b a its.toArray) p1 fun h' he g1 hsz hk => wpAny_pyIter_enum he (eA_of I1 p1 q he g1 hk)
end
/-! ### the same over data -/
def enumD (k : Int) (ds : List D) : List D := ds.mapIdx fun i d => .tup [.int (k + (i : Int)), d]
theorem enumD_len (k : Int) (ds : List D) : (enumD k ds).length = ds.length := by simp [enumD]
theorem enumD_get {k : Int} {ds : List D} {i : Nat} {d : D} (h : (enumD k ds)[i]? = some d) : ∃ x, ds[i]? = some x ∧ d = .tup [.int (k + (i : Int)), x] := by
  unfold enumD at h
  rw [List.getElem?_mapIdx] at h
  cases e : ds[i]? with
  | none => rw [e] at h; cases h
  | some x => rw [e] at h; cases h; exact ⟨x, rfl, rfl⟩
theorem ite_ok {b : Bool} {k : Int} {K : PySem.W.Frag} {I : Hp} {a : Addr} {ds : List D} {pin : Option (Store → Prop)} (hs : ∀ I2 S F H, Same I I2 → Ok K I2 S F H → PinOk pin S → ∃ xs, Sq b K H a xs ∧ RepL K I2 ds xs) : ItOk K I (ItE b K k a) (enumD k ds) pin where
  go I2 S F H e ok pk i d hd := by
    obtain ⟨xs, h2, rl⟩ := hs I2 S F H e ok pk
    obtain ⟨x, ex, rfl⟩ := enumD_get hd
    obtain ⟨v, e1, r1⟩ := rl.get ex
    refine ⟨⟨xs, v, h2, e1⟩, fun z H' hy => ?_⟩
    obtain ⟨T, x0, rfl, nT, rfl, hy⟩ := hy
    have := hy xs h2
    rw [e1] at this
    cases this
    exact ⟨upd I2 T (.tup [.int (k + (i : Int)), v]), same_new (ok.freshI nT), ok.newI nT, rep_tup2 (ok.freshI nT) rep_int r1⟩
  stop I2 S F H e ok pk i hi := by
    obtain ⟨xs, h2, rl⟩ := hs I2 S F H e ok pk
    exact ⟨xs, h2, by rw [rl.len]; rw [enumD_len] at hi; exact hi⟩
def dEnum (a : DA) : DI := fun ρ S P => a ρ S fun xs S1 => match xs with
  | [x] => match seqOf S1 x with
    | some ds => P (enumD 0 ds) (pinOf S1 x) S1
    | none => False
  | _ => False
def dEnum2 (a : DA) : DI := fun ρ S P => a ρ S fun xs S1 => match xs with
  | [x, .int k] => match seqOf S1 x with
    | some ds => (-(2 ^ 63) ≤ k ∧ k < 2 ^ 63) ∧ P (enumD k ds) (pinOf S1 x) S1
    | none => False
  | _ => False
theorem zipD_get {as bs : List D} {i : Nat} {d : D} (h : (zipD as bs)[i]? = some d) : ∃ x y, as[i]? = some x ∧ bs[i]? = some y ∧ d = .tup [x, y] := by
  unfold zipD at h
  rw [List.getElem?_zipWith] at h
  cases e1 : as[i]? with
  | none => simp [e1] at h
  | some x =>
    cases e2 : bs[i]? with
    | none => simp [e1, e2] at h
    | some y =>
      simp only [e1, e2, Option.some.injEq] at h
      exact ⟨x, y, rfl, rfl, h.symm⟩
/-- both stay -/
def pin2 : Option (Store → Prop) → Option (Store → Prop) → Option (Store → Prop)
  | none, q => q
  | p, none => p
  | some p, some q => some fun S => p S ∧ q S
theorem pin2_ok {p q : Option (Store → Prop)} {S : Store} (h : PinOk (pin2 p q) S) : PinOk p S ∧ PinOk q S := by
  cases p with
  | none => exact ⟨trivial, h⟩
  | some p =>
    cases q with
    | none => exact ⟨h, trivial⟩
    | some q => exact h
theorem itz_ok {st : Bool} {K : PySem.W.Frag} {I : Hp} {b1 b2 : Bool} {a b : Addr} {as bs : List D} {p1 p2 : Option (Store → Prop)} (h1 : ∀ I2 S F H, Same I I2 → Ok K I2 S F H → PinOk p1 S → ∃ xs, Sq b1 K H a xs ∧ RepL K I2 as xs) (h2 : ∀ I2 S F H, Same I I2 → Ok K I2 S F H → PinOk p2 S → ∃ ys, Sq b2 K H b ys ∧ RepL K I2 bs ys)
    (hst : st = true → as.length = bs.length) : ItOk K I (ItZ st b1 b2 K a b) (zipD as bs) (pin2 p1 p2) where
  go I2 S F H e ok pk i d hd := by
    obtain ⟨x, y, ex, ey, rfl⟩ := zipD_get hd
    obtain ⟨xs, q1, r1⟩ := h1 I2 S F H e ok (pin2_ok pk).1
    obtain ⟨ys, q2, r2⟩ := h2 I2 S F H e ok (pin2_ok pk).2
    obtain ⟨v, ev, rv⟩ := r1.get ex
    obtain ⟨u, eu, ru⟩ := r2.get ey
    refine ⟨⟨xs, ys, v, u, q1, q2, ev, eu⟩, fun z H' hy => ?_⟩
    obtain ⟨T, x0, y0, rfl, nT, rfl, f1, f2⟩ := hy
    have e1 := f1 xs q1
    have e2 := f2 ys q2
    rw [ev] at e1; rw [eu] at e2
    cases e1; cases e2
    exact ⟨upd I2 T (.tup [v, u]), same_new (ok.freshI nT), ok.newI nT, rep_tup2 (ok.freshI nT) rv ru⟩
  stop I2 S F H e ok pk i hi := by
    obtain ⟨xs, q1, r1⟩ := h1 I2 S F H e ok (pin2_ok pk).1
    obtain ⟨ys, q2, r2⟩ := h2 I2 S F H e ok (pin2_ok pk).2
    have l1 := r1.len
    have l2 := r2.len
    simp only [zipD, List.length_zipWith] at hi
    exact ⟨xs, ys, q1, q2, by omega, by omega, by omega, fun q => by have := hst q; omega⟩
def dZip (a : DA) : DI := fun ρ S P => a ρ S fun xs S1 => match xs with
  | [x, y] => match seqOf S1 x, seqOf S1 y with
    | some as, some bs => P (zipD as bs) (pin2 (pinOf S1 x) (pinOf S1 y)) S1
    | _, _ => False
  | _ => False
def dZipS (a : DA) : DI := fun ρ S P => a ρ S fun xs S1 => match xs with
  | [x, y] => match seqOf S1 x, seqOf S1 y with
    | some as, some bs => as.length = bs.length ∧ P (zipD as bs) (pin2 (pinOf S1 x) (pinOf S1 y)) S1
    | _, _ => False
  | _ => False
section
variable {X : Cx} {e e2 : Expr} {ds : DA} {p pos tpos kpos cpos : Pos} {elts : List Expr} {kk ck : Nat}
theorem ji_zip (hm : X.mg "zip" = none) (ha : JA X [e, e2] ds) (hg : Gl X "zip" := by rfl) (hs : starEach [e, e2] X.env = (false, eval e X.env) :: starEach [e2] X.env := by rfl) (hpl : (backTo pos (starEach [e2] X.env)).any (·.1) = false := by rfl) :
    JI X (.Tuple elts kk tpos) (.Call (.Name "zip" p) [e, e2] [] pos) (dZip ds) :=
  ji_of (pi_zA0 hg hm ha hs hpl) fun σ H R h0_ => El54 h0_ fun ρ I S F P rs ok hh q => ⟨ρ, I, S, F, _, rs, ok, hh, fun xs S1 v I1 H1 h1 e1 ok1 r1 => by
    split at h1
    · rename_i x y
      obtain ⟨v, u, rfl, rv, ru⟩ := r1.inv2
      split at h1
      · rename_i as bs e3 e4
        obtain ⟨b1, a, rfl, hs1⟩ := src_sq ok1 rv e3
        obtain ⟨b2, b, rfl, hs2⟩ := src_sq ok1 ru e4
        obtain ⟨xs, q1, _⟩ := hs1 _ _ _ _ (Same.refl _) ok1 (pin_self _ _)
        obtain ⟨ys, q2, _⟩ := hs2 _ _ _ _ (Same.refl _) ok1 (pin_self _ _)
        exact ⟨b1, b2, a, b, xs, ys, rfl, q1, q2, q _ _ _ _ _ _ h1 e1 ok1 (itz_ok hs1 hs2 (fun e => nomatch e))⟩
      · exact h1.elim
    · exact h1.elim⟩
theorem ji_zipS (hm : X.mg "zip" = none) (ha : JA X [e, e2] ds) (hg : Gl X "zip" := by rfl) (hs : starEach [e, e2] X.env = (false, eval e X.env) :: starEach [e2] X.env := by rfl) (hpl : (backTo pos (starEach [e2] X.env)).any (·.1) = false := by rfl) :
    JI X (.Tuple elts kk tpos) (.Call (.Name "zip" p) [e, e2] [⟨some "strict", .Constant (.bool true) ck cpos, kpos⟩] pos) (dZipS ds) :=
  ji_of (pi_zA1 hg hm ha (fun h => Constant_bool h) hs hpl) fun σ H R h0_ => El54 h0_ fun ρ I S F P rs ok hh q => ⟨ρ, I, S, F, _, rs, ok, hh, fun xs S1 v I1 H1 h1 e1 ok1 r1 => by
    split at h1
    · rename_i x y
      obtain ⟨v, u, rfl, rv, ru⟩ := r1.inv2
      split at h1
      · rename_i as bs e3 e4
        obtain ⟨hl, h1⟩ := h1
        obtain ⟨b1, a, rfl, hs1⟩ := src_sq ok1 rv e3
        obtain ⟨b2, b, rfl, hs2⟩ := src_sq ok1 ru e4
        obtain ⟨xs, q1, _⟩ := hs1 _ _ _ _ (Same.refl _) ok1 (pin_self _ _)
        obtain ⟨ys, q2, _⟩ := hs2 _ _ _ _ (Same.refl _) ok1 (pin_self _ _)
        exact ⟨b1, b2, a, b, xs, ys, rfl, q1, q2, q _ _ _ _ _ _ h1 e1 ok1 (itz_ok hs1 hs2 (fun _ => hl))⟩
      · exact h1.elim
    · exact h1.elim⟩
theorem ji_enum (hm : X.mg "enumerate" = none) (ha : JA X [e] ds) (hg : Gl X "enumerate" := by rfl) (hs : starEach [e] X.env = [(false, eval e X.env)] := by rfl) : JI X (.Tuple elts kk tpos) (.Call (.Name "enumerate" p) [e] [] pos) (dEnum ds) :=
  ji_of (pi_eA hg hm ha hs) fun σ H R h0_ => El54 h0_ fun ρ I S F P rs ok hh q => ⟨ρ, I, S, F, _, rs, ok, hh, fun xs S1 v I1 H1 h1 e1 ok1 r1 => by
    split at h1
    · rename_i x
      obtain ⟨v, rfl, rv⟩ := r1.inv1
      split at h1
      · rename_i ds e3
        obtain ⟨b, a, rfl, hs1⟩ := src_sq ok1 rv e3
        obtain ⟨xs, q1, _⟩ := hs1 _ _ _ _ (Same.refl _) ok1 (pin_self _ _)
        exact ⟨b, a, xs, rfl, q1, q _ _ _ _ _ _ h1 e1 ok1 (ite_ok hs1)⟩
      · exact h1.elim
    · exact h1.elim⟩
end
end DL

namespace DL
open PySem PySem.Spec PyProof.Rows L2

/-! ### is True, is False -/
def dIsB : D2 := fun x y S P => match x, y with
  | .bl a, .bl b => P (.bl (decide (a = b))) S
  | _, _ => False
def dNotB : D2 := fun x y S P => match x, y with
  | .bl a, .bl b => P (.bl (!decide (a = b))) S
  | _, _ => False
theorem i_notB {K : PySem.W.Frag} : Imp2 K rNotB dNotB := by
  intro x y v w I S F H P Q ok rx ry h q
  unfold dNotB at h
  split at h
  · cases rx.bl_of; cases ry.bl_of
    exact ⟨_, _, rfl, rfl, q _ _ _ _ _ h (Same.refl I) ok rep_bl⟩
  · exact h.elim
section
variable {X : Cx} {pos p : Pos} {a b : Expr} {da db : DE} {x : Str}
theorem jt_notB (ha : JE X a da) (hb : JE X b db) : JT X (.Compare a [.IsNot] [b] pos) (dTest (dOp dNotB da db)) := jt_cmp op_notBl i_notB ha hb (nomark _)
/-! ### a module's constants -/
theorem je_globC {v : V} {u : Value} {d : D} (hm : X.mg x = some u) (r : RelV v u) (hd : ∀ I, Rep X.K I d v) (hg : Gl X x := by rfl) (hdb : (x == ("__debug__" : Str)) = false := by decide) : JE X (.Name x p) (dC d) :=
  je_of (pe_glob hg hm r hdb) fun σ H Q h0_ => El54 h0_ fun ρ I S F P rs ok h q => q _ _ _ _ _ h (Same.refl I) ok (hd I)
/-- a tuple of the module's, of flat things -/
def TupK (K : PySem.W.Frag) (u : Value) (xs : List V) : Prop := ∃ a, u = .ref a ∧ ∃ (o : Obj) (its : Array Value) (n : Nat), K.lookup a = some o ∧ o.cls = .type "tuple" ∧ o.data = .seq its n ∧ its.size ≤ sizeLine ∧ Vals xs its.toList
theorem je_cT {ds : List D} {xs : List V} (h : ∃ u, X.mg x = some u ∧ TupK X.K u xs) (hd : ∀ I, RepL X.K I ds xs) (hg : Gl X x := by rfl) (hdb : (x == ("__debug__" : Str)) = false := by decide) : JE X (.Name x p) (dC (.tup ds)) := by
  obtain ⟨u, h, a, rfl, hk⟩ := h
  exact je_globC (v := .ref a) h rfl (fun I => by
    simp only [Rep]
    exact ⟨a, xs, rfl, .inr hk, hd I⟩) hg hdb
end

/-! ### repr -/
mutual
def pyD : D → Option PyData
  | .non => some .none
  | .bl b => some (.bool b)
  | .int i => some (.int i)
  | .str x => some (.str x)
  | .lst ds => (pyDL ds).map .list
  | .ext ds => (pyDL ds).map .list
  | .tup ds => (pyDL ds).map .tuple
  | .tq _ => none
  | .ty _ => none
  | .obj _ => none
def pyDL : List D → Option (List PyData)
  | [] => some []
  | d :: ds => (pyD d).bind fun p => (pyDL ds).map (p :: ·)
end
section
variable {X : Cx} {pins : List (Addr × Obj)} {σ : L2.St} {H I F : Hp} {s : Shared} {S : Store}
mutual
theorem reads_of (J : Inv X pins σ H s) (ok : Ok X.K I S F H) : ∀ (x : D) (v : V) (u : Value) (p : PyData), Rep X.K I x v → RelV v u → pyD x = some p → ∃ as, Reads s.heap u p as
  | .non, v, u, p, r, rv, h => by
    simp only [pyD, Option.some.injEq] at h; subst h
    cases r.non_of; cases (show u = Value.none from rv)
    exact ⟨_, .none⟩
  | .bl b, v, u, p, r, rv, h => by
    simp only [pyD, Option.some.injEq] at h; subst h
    cases r.bl_of; cases (show u = Value.bool b from rv)
    exact ⟨_, .bool b⟩
  | .int i, v, u, p, r, rv, h => by
    simp only [pyD, Option.some.injEq] at h; subst h
    cases r.int_of; obtain ⟨t, rfl⟩ := rv
    exact ⟨_, .int i t⟩
  | .str z, v, u, p, r, rv, h => by
    simp only [pyD, Option.some.injEq] at h; subst h
    cases r.str_of; obtain ⟨t, rfl⟩ := rv
    exact ⟨_, .str z t⟩
  | .lst ds, v, u, p, r, rv, h => by
    simp only [pyD, Option.map_eq_some_iff] at h
    obtain ⟨ps, h, rfl⟩ := h
    obtain ⟨a, xs, rfl, e, rl⟩ := r.lst_of
    cases rv
    obtain ⟨its, q, ⟨o, n, e1, e2, _, e3⟩, _⟩ := J.list (.of (ok.i _ _ e))
    obtain ⟨as, ra⟩ := reads_ofL J ok ds xs its ps rl q h
    exact ⟨_, .list e1 e2 e3 (by simpa using ra)⟩
  | .ext ds, v, u, p, r, rv, h => by
    simp only [pyD, Option.map_eq_some_iff] at h
    obtain ⟨ps, h, rfl⟩ := h
    obtain ⟨a, xs, rfl, e, rl⟩ := r.ext_of
    cases rv
    obtain ⟨its, q, ⟨o, n, e1, e2, _, e3⟩, _⟩ := J.list (ok.same.seq e)
    obtain ⟨as, ra⟩ := reads_ofL J ok ds xs its ps rl q h
    exact ⟨_, .list e1 e2 e3 (by simpa using ra)⟩
  | .tup ds, v, u, p, r, rv, h => by
    simp only [pyD, Option.map_eq_some_iff] at h
    obtain ⟨ps, h, rfl⟩ := h
    obtain ⟨a, xs, rfl, e, rl⟩ := r.tup_of
    cases rv
    obtain ⟨its, q, ⟨o, e1, e2, n, e3⟩, _⟩ := J.tuple (sqT_same ok.same e)
    obtain ⟨as, ra⟩ := reads_ofL J ok ds xs its ps rl q h
    exact ⟨_, .tuple e1 e2 e3 (by simpa using ra)⟩
  | .ty _, _, _, _, _, _, h => by simp [pyD] at h
  | .tq _, _, _, _, _, _, h => by simp [pyD] at h
  | .obj _, _, _, _, _, _, h => by simp [pyD] at h
theorem reads_ofL (J : Inv X pins σ H s) (ok : Ok X.K I S F H) : ∀ (ds : List D) (vs : List V) (us : List Value) (ps : List PyData), RepL X.K I ds vs → Vals vs us → pyDL ds = some ps → ∃ as, ReadsAll s.heap us ps as
  | [], vs, us, ps, r, rv, h => by
    simp only [pyDL, Option.some.injEq] at h; subst h
    simp only [RepL] at r; subst r
    cases rv
    exact ⟨_, .nil⟩
  | d :: ds, vs, us, ps, r, rv, h => by
    simp only [pyDL, Option.bind_eq_some_iff, Option.map_eq_some_iff] at h
    obtain ⟨p, h1, ps', h2, rfl⟩ := h
    simp only [RepL] at r
    obtain ⟨v, vs', rfl, r1, r2⟩ := r
    cases rv with
    | cons q qs =>
      obtain ⟨as, ra⟩ := reads_of J ok d v _ p r1 q h1
      obtain ⟨bs, rb⟩ := reads_ofL J ok ds vs' _ ps' r2 qs h2
      exact ⟨_, .cons ra rb⟩
end
mutual
theorem pyD_noDict : ∀ (x : D) (p : PyData), pyD x = some p → p.hasDict = false
  | .non, p, h => by simp only [pyD, Option.some.injEq] at h; subst h; rfl
  | .bl b, p, h => by simp only [pyD, Option.some.injEq] at h; subst h; rfl
  | .int i, p, h => by simp only [pyD, Option.some.injEq] at h; subst h; rfl
  | .str z, p, h => by simp only [pyD, Option.some.injEq] at h; subst h; rfl
  | .lst ds, p, h => by
    simp only [pyD, Option.map_eq_some_iff] at h
    obtain ⟨ps, h, rfl⟩ := h
    simp only [PyData.hasDict]; exact pyDL_noDict ds ps h
  | .ext ds, p, h => by
    simp only [pyD, Option.map_eq_some_iff] at h
    obtain ⟨ps, h, rfl⟩ := h
    simp only [PyData.hasDict]; exact pyDL_noDict ds ps h
  | .tup ds, p, h => by
    simp only [pyD, Option.map_eq_some_iff] at h
    obtain ⟨ps, h, rfl⟩ := h
    simp only [PyData.hasDict]; exact pyDL_noDict ds ps h
  | .ty _, _, h => by simp [pyD] at h
  | .tq _, _, h => by simp [pyD] at h
  | .obj _, _, h => by simp [pyD] at h
theorem pyDL_noDict : ∀ (ds : List D) (ps : List PyData), pyDL ds = some ps → PyData.hasDictAll ps = false
  | [], ps, h => by simp only [pyDL, Option.some.injEq] at h; subst h; rfl
  | d :: ds, ps, h => by
    simp only [pyDL, Option.bind_eq_some_iff, Option.map_eq_some_iff] at h
    obtain ⟨p, h1, ps', h2, rfl⟩ := h
    simp only [PyData.hasDictAll, pyD_noDict d p h1, pyDL_noDict ds ps' h2, Bool.or_false]
end
end
/-- what repr tells, with depth and length at most -/
structure Rp (d c : Nat) (x : D) (p : PyData) : Prop where
  e : pyD x = some p
  s : p.showable = true
  d : p.depth ≤ d
  c : p.shown.length ≤ c
/-- the text of a thing -/
def shownD (x : D) : Str := match pyD x with
  | some p => p.shown
  | none => ""
def Rpd (d c : Nat) (x : D) : Prop := ∃ p, Rp d c x p
def cRepr : DC := fun xs S P => match xs with
  | [x] => Rpd 40 16000000 x ∧ P (.str (shownD x)) S
  | _ => False
theorem Rpd.mono {d c d' c' : Nat} {x : D} (h : Rpd d c x) (h1 : d ≤ d') (h2 : c ≤ c') : Rpd d' c' x := by
  obtain ⟨p, h⟩ := h
  exact ⟨p, h.e, h.s, Nat.le_trans h.d h1, Nat.le_trans h.c h2⟩
theorem rp_non : Rpd 1 13 .non := ⟨.none, by simp [pyD], by simp [PyData.showable], by simp [PyData.depth], by simp only [PyData.shown]; decide⟩
theorem rp_bl {b : Bool} : Rpd 1 13 (.bl b) := ⟨.bool b, by simp [pyD], by simp [PyData.showable], by simp [PyData.depth], by simp only [PyData.shown]; cases b <;> decide⟩
theorem rp_int {i : Int} (h : i.natAbs < 10 ^ 12) : Rpd 1 13 (.int i) := ⟨.int i, by simp [pyD], by
  simp only [PyData.showable, decide_eq_true_eq]
  have : i.natAbs.log2 < 64 := PySem.Flt.log2_lt_of (by decide) (show i.natAbs < 2 ^ 64 by omega)
  omega, by simp [PyData.depth], PyData.shown_int_le h⟩
theorem rp_str {z : Str} {n : Nat} (h : (reprText z).length ≤ n) : Rpd 1 n (.str z) := ⟨.str z, by simp [pyD], by simp [PyData.showable], by simp [PyData.depth], by simpa only [PyData.shown] using h⟩
theorem rp_all {d c : Nat} : ∀ {ds : List D}, (∀ y, y ∈ ds → Rpd d c y) → ∃ ps, pyDL ds = some ps ∧ PyData.showableAll ps = true ∧ PyData.depthAll ps ≤ d ∧ ((PyData.shownAll ps).map (·.length)).sum ≤ ds.length * c ∧ (PyData.shownAll ps).length = ds.length
  | [], _ => ⟨[], by simp [pyDL], by simp [PyData.showableAll], by simp [PyData.depthAll], by simp [PyData.shownAll], by simp [PyData.shownAll]⟩
  | y :: ds, h => by
    obtain ⟨p, h1⟩ := h y (by simp)
    obtain ⟨ps, e1, e2, e3, e4, e5⟩ := rp_all (ds := ds) (fun z hz => h z (by simp [hz]))
    refine ⟨p :: ps, by simp [pyDL, h1.e, e1], by simp [PyData.showableAll, h1.s, e2], ?_, ?_, by simp [PyData.shownAll, e5]⟩
    · have := h1.d
      simp only [PyData.depthAll]
      omega
    · have := h1.c
      simp only [PyData.shownAll, List.map_cons, List.sum_cons, List.length_cons, Nat.succ_mul]
      omega
theorem rp_tup {d c n : Nat} {ds : List D} (h : ∀ y, y ∈ ds → Rpd d c y) (hn : ds.length ≤ n) : Rpd (d + 1) (n * (c + 2) + 3) (.tup ds) := by
  obtain ⟨ps, e1, e2, e3, e4, e5⟩ := rp_all h
  refine ⟨.tuple ps, by simp [pyD, e1], by simp [PyData.showable, e2], by simp only [PyData.depth]; omega, ?_⟩
  have := tupleText_len_le (PyData.shownAll ps)
  simp only [PyData.shown]
  have h2 := Nat.mul_le_mul_right (c + 2) hn
  rw [Nat.mul_add] at h2
  omega
theorem rp_lst {d c n : Nat} {ds : List D} (h : ∀ y, y ∈ ds → Rpd d c y) (hn : ds.length ≤ n) : Rpd (d + 1) (n * (c + 2) + 3) (.lst ds) := by
  obtain ⟨ps, e1, e2, e3, e4, e5⟩ := rp_all h
  refine ⟨.list ps, by simp [pyD, e1], by simp [PyData.showable, e2], by simp only [PyData.depth]; omega, ?_⟩
  have := listText_len_le (PyData.shownAll ps)
  simp only [PyData.shown]
  have h2 := Nat.mul_le_mul_right (c + 2) hn
  rw [Nat.mul_add] at h2
  omega
def rRepr (K : PySem.W.Frag) : List V → Hp → VK → Prop := fun vs H Q => ∃ x v I S F p, vs = [v] ∧ Ok K I S F H ∧ Rep K I x v ∧ Rp 40 16000000 x p ∧ Q (.str p.shown) H
theorem i_repr {K : PySem.W.Frag} : ImpC K (rRepr K) cRepr := by
  intro xs vs I S F H P Q ok r h q
  unfold cRepr at h
  split at h
  · obtain ⟨v, rfl, rv⟩ := r.inv1
    obtain ⟨⟨p, hp⟩, h⟩ := h
    unfold shownD at h
    rw [hp.e] at h
    exact ⟨_, v, I, S, F, p, rfl, ok, rv, hp, q _ _ _ _ _ h (Same.refl I) ok (by simp only [Rep])⟩
  · exact h.elim
theorem call_repr {X : Cx} {k : Nat} (hr : DG.RoomG k X.A) : CallR X (.builtin "repr") (rRepr X.K) := by
  intro pins s σ H xs us Q J r h
  obtain ⟨x, v, I, S, F, p, rfl, ok, rx, hp, q⟩ := h
  obtain ⟨u, rfl, rv⟩ := vals1 r
  obtain ⟨as, ra⟩ := reads_of J ok x v u p rx rv hp.e
  have hz : p.shown.length ≤ sizeLine := Nat.le_trans hp.c (by decide)
  have fin : ∀ t tk h', (∀ b o, s.heap.get? b = some o → h'.get? b = some o) → EP X pins σ Q (.str p.shown t) { s with heap := h', toks := tk } := fun t tk h' hk => ⟨.str p.shown, H, J.kept (t' := tk) hk, ⟨t, rfl⟩, q⟩
  have hd := hp.d
  cases ra with
  | none => exact P.repr_of_none (fin _ _ _ fun _ _ e => e)
  | bool b => exact P.repr_of_bool (by cases b <;> exact fin _ _ _ fun _ _ e => e)
  | int i t => exact P.repr_of_int (by have := hp.s; simpa [PyData.showable] using this) (fin _ _ _ fun _ _ e => e)
  | str z t => exact P.repr_of_str (fin _ _ _ fun _ _ e => e) hz
  | list h1 h2 h3 h4 =>
    have := hr.r.units
    exact repr_of_reads' (.list h1 h2 h3 h4) hp.s (PyData.noDict_hsm (pyD_noDict _ _ hp.e)) hr.g (by omega) (fun _ _ e => e) (fun h' t tk hk => fin _ _ _ hk) hz
  | tuple h1 h2 h3 h4 =>
    have := hr.r.units
    exact repr_of_reads' (.tuple h1 h2 h3 h4) hp.s (PyData.noDict_hsm (pyD_noDict _ _ hp.e)) hr.g (by omega) (fun _ _ e => e) (fun h' t tk hk => fin _ _ _ hk) hz
  | dict h1 h2 h3 h4 h5 =>
    have := pyD_noDict _ _ hp.e
    simp [PyData.hasDict] at this
theorem b_repr : bootBuiltins "repr" = some (.builtin "repr") := by decide +kernel
theorem je_repr {X : Cx} {pos p : Pos} {a : Expr} {ds : DA} {k : Nat} (hr : DG.RoomG k X.A) (hm : X.mg "repr" = none) (ha : JA X [a] ds) (hg : Gl X "repr" := by rfl) (hs : starEach [a] X.env = [(false, eval a X.env)] := by rfl) : JE X (.Call (.Name "repr" p) [a] [] pos) (dCB cRepr ds) := je_callB (call_repr hr) i_repr hg hm b_repr ha (hs := hs) (hpl := by rfl)
end DL
namespace DL
open PySem PySem.Spec PyProof.Rows L2
section
variable {X : Cx} {pos : Pos} {a b c : Expr} {da db dc : DE} {op op' : CmpOp} {r r' : R2} {o o' : D2}
end
/-- a def that is never called so -/
theorem fnd_never {P : Program} {w : World} {K : PySem.W.Frag} {mg : Str → Option Value} {base : Heap} {k : Nat} {f : Addr} {fd : FuncData} {ps : List Str} {sp : DSp} (hz : ∀ ds S P, sp ds S P → False) : FnD P w K mg base k f fd ps sp :=
  ⟨fun vs H Q E ⟨ds, I, S, F, P, _, _, h, _⟩ => (hz _ _ _ h).elim, fun A outer s H args us vs Q E _ _ _ _ ⟨ds, I, S, F, P, _, _, h, _⟩ => (hz _ _ _ h).elim⟩
end DL
namespace DL
open PySem PySem.Spec PyProof.Rows L2
def dPar3 (i j l : Nat) (a : DA) : DS := fun DD ρ S => a ρ S fun xs S1 => match xs with
  | [x, y, z] => DD.nx (((ρ.set i (some x)).set j (some y)).set l (some z)) S1
  | _ => False
end DL
namespace DL
open PySem PySem.Spec PyProof.Rows L2
/-! ### isinstance of data -/
theorem isi_non_int  {S : Store} {P : D → Store → Prop} : cIsi [.non, .ty "int"] S P = P (.bl false) S := propext ⟨fun h => h.2, fun h => ⟨by decide, h⟩⟩
theorem isi_non_bool  {S : Store} {P : D → Store → Prop} : cIsi [.non, .ty "bool"] S P = P (.bl false) S := propext ⟨fun h => h.2, fun h => ⟨by decide, h⟩⟩
theorem isi_non_str  {S : Store} {P : D → Store → Prop} : cIsi [.non, .ty "str"] S P = P (.bl false) S := propext ⟨fun h => h.2, fun h => ⟨by decide, h⟩⟩
theorem isi_non_list  {S : Store} {P : D → Store → Prop} : cIsi [.non, .ty "list"] S P = P (.bl false) S := propext ⟨fun h => h.2, fun h => ⟨by decide, h⟩⟩
theorem isi_non_tuple  {S : Store} {P : D → Store → Prop} : cIsi [.non, .ty "tuple"] S P = P (.bl false) S := propext ⟨fun h => h.2, fun h => ⟨by decide, h⟩⟩
theorem isi_non_lt  {S : Store} {P : D → Store → Prop} : cIsi [.non, .tup [.ty "list", .ty "tuple"]] S P = P (.bl false) S := rfl
theorem isi_bl_int {k : Bool} {S : Store} {P : D → Store → Prop} : cIsi [(.bl k), .ty "int"] S P = P (.bl true) S := propext ⟨fun h => h.2, fun h => ⟨by decide, h⟩⟩
theorem isi_bl_bool {k : Bool} {S : Store} {P : D → Store → Prop} : cIsi [(.bl k), .ty "bool"] S P = P (.bl true) S := propext ⟨fun h => h.2, fun h => ⟨by decide, h⟩⟩
theorem isi_bl_str {k : Bool} {S : Store} {P : D → Store → Prop} : cIsi [(.bl k), .ty "str"] S P = P (.bl false) S := propext ⟨fun h => h.2, fun h => ⟨by decide, h⟩⟩
theorem isi_bl_list {k : Bool} {S : Store} {P : D → Store → Prop} : cIsi [(.bl k), .ty "list"] S P = P (.bl false) S := propext ⟨fun h => h.2, fun h => ⟨by decide, h⟩⟩
theorem isi_bl_tuple {k : Bool} {S : Store} {P : D → Store → Prop} : cIsi [(.bl k), .ty "tuple"] S P = P (.bl false) S := propext ⟨fun h => h.2, fun h => ⟨by decide, h⟩⟩
theorem isi_bl_lt {k : Bool} {S : Store} {P : D → Store → Prop} : cIsi [(.bl k), .tup [.ty "list", .ty "tuple"]] S P = P (.bl false) S := rfl
theorem isi_int_int {i : Int} {S : Store} {P : D → Store → Prop} : cIsi [(.int i), .ty "int"] S P = P (.bl true) S := propext ⟨fun h => h.2, fun h => ⟨by decide, h⟩⟩
theorem isi_int_bool {i : Int} {S : Store} {P : D → Store → Prop} : cIsi [(.int i), .ty "bool"] S P = P (.bl false) S := propext ⟨fun h => h.2, fun h => ⟨by decide, h⟩⟩
theorem isi_int_str {i : Int} {S : Store} {P : D → Store → Prop} : cIsi [(.int i), .ty "str"] S P = P (.bl false) S := propext ⟨fun h => h.2, fun h => ⟨by decide, h⟩⟩
theorem isi_int_list {i : Int} {S : Store} {P : D → Store → Prop} : cIsi [(.int i), .ty "list"] S P = P (.bl false) S := propext ⟨fun h => h.2, fun h => ⟨by decide, h⟩⟩
theorem isi_int_tuple {i : Int} {S : Store} {P : D → Store → Prop} : cIsi [(.int i), .ty "tuple"] S P = P (.bl false) S := propext ⟨fun h => h.2, fun h => ⟨by decide, h⟩⟩
theorem isi_int_lt {i : Int} {S : Store} {P : D → Store → Prop} : cIsi [(.int i), .tup [.ty "list", .ty "tuple"]] S P = P (.bl false) S := rfl
theorem isi_str_int {z : Str} {S : Store} {P : D → Store → Prop} : cIsi [(.str z), .ty "int"] S P = P (.bl false) S := propext ⟨fun h => h.2, fun h => ⟨by decide, h⟩⟩
theorem isi_str_bool {z : Str} {S : Store} {P : D → Store → Prop} : cIsi [(.str z), .ty "bool"] S P = P (.bl false) S := propext ⟨fun h => h.2, fun h => ⟨by decide, h⟩⟩
theorem isi_str_str {z : Str} {S : Store} {P : D → Store → Prop} : cIsi [(.str z), .ty "str"] S P = P (.bl true) S := propext ⟨fun h => h.2, fun h => ⟨by decide, h⟩⟩
theorem isi_str_list {z : Str} {S : Store} {P : D → Store → Prop} : cIsi [(.str z), .ty "list"] S P = P (.bl false) S := propext ⟨fun h => h.2, fun h => ⟨by decide, h⟩⟩
theorem isi_str_tuple {z : Str} {S : Store} {P : D → Store → Prop} : cIsi [(.str z), .ty "tuple"] S P = P (.bl false) S := propext ⟨fun h => h.2, fun h => ⟨by decide, h⟩⟩
theorem isi_str_lt {z : Str} {S : Store} {P : D → Store → Prop} : cIsi [(.str z), .tup [.ty "list", .ty "tuple"]] S P = P (.bl false) S := rfl
theorem isi_lst_int {ds : List D} {S : Store} {P : D → Store → Prop} : cIsi [(.lst ds), .ty "int"] S P = P (.bl false) S := propext ⟨fun h => h.2, fun h => ⟨by decide, h⟩⟩
theorem isi_lst_bool {ds : List D} {S : Store} {P : D → Store → Prop} : cIsi [(.lst ds), .ty "bool"] S P = P (.bl false) S := propext ⟨fun h => h.2, fun h => ⟨by decide, h⟩⟩
theorem isi_lst_str {ds : List D} {S : Store} {P : D → Store → Prop} : cIsi [(.lst ds), .ty "str"] S P = P (.bl false) S := propext ⟨fun h => h.2, fun h => ⟨by decide, h⟩⟩
theorem isi_lst_list {ds : List D} {S : Store} {P : D → Store → Prop} : cIsi [(.lst ds), .ty "list"] S P = P (.bl true) S := propext ⟨fun h => h.2, fun h => ⟨by decide, h⟩⟩
theorem isi_lst_tuple {ds : List D} {S : Store} {P : D → Store → Prop} : cIsi [(.lst ds), .ty "tuple"] S P = P (.bl false) S := propext ⟨fun h => h.2, fun h => ⟨by decide, h⟩⟩
theorem isi_lst_lt {ds : List D} {S : Store} {P : D → Store → Prop} : cIsi [(.lst ds), .tup [.ty "list", .ty "tuple"]] S P = P (.bl true) S := rfl
theorem isi_tup_int {ds : List D} {S : Store} {P : D → Store → Prop} : cIsi [(.tup ds), .ty "int"] S P = P (.bl false) S := propext ⟨fun h => h.2, fun h => ⟨by decide, h⟩⟩
theorem isi_tup_bool {ds : List D} {S : Store} {P : D → Store → Prop} : cIsi [(.tup ds), .ty "bool"] S P = P (.bl false) S := propext ⟨fun h => h.2, fun h => ⟨by decide, h⟩⟩
theorem isi_tup_str {ds : List D} {S : Store} {P : D → Store → Prop} : cIsi [(.tup ds), .ty "str"] S P = P (.bl false) S := propext ⟨fun h => h.2, fun h => ⟨by decide, h⟩⟩
theorem isi_tup_list {ds : List D} {S : Store} {P : D → Store → Prop} : cIsi [(.tup ds), .ty "list"] S P = P (.bl false) S := propext ⟨fun h => h.2, fun h => ⟨by decide, h⟩⟩
theorem isi_tup_tuple {ds : List D} {S : Store} {P : D → Store → Prop} : cIsi [(.tup ds), .ty "tuple"] S P = P (.bl true) S := propext ⟨fun h => h.2, fun h => ⟨by decide, h⟩⟩
theorem isi_tup_lt {ds : List D} {S : Store} {P : D → Store → Prop} : cIsi [(.tup ds), .tup [.ty "list", .ty "tuple"]] S P = P (.bl true) S := rfl
end DL
namespace DL
open PySem PySem.Spec PyProof.Rows L2
def dLcM (di : DI) (t : Tgt) (tt : DT) (de : DE) : DE := fun ρ S P => dLc di t tt de ρ S fun x S1 => match x with
  | .lst acc => ∀ p, S1 p = none → P (.obj p) (supd S1 p (.lst acc))
  | _ => False
section
variable {X : Cx} {pos : Pos}
end
end DL

namespace DL
open PySem PySem.Spec PyProof.Rows L2

/-! ### list(range(..)), tuple(range(..)) -/
def dLstR1 (a : DE) : DE := fun ρ S P => a ρ S fun x S1 => match x with
  | .int j => RgOk 0 j ∧ P (.lst (rng 0 j.toNat)) S1
  | _ => False
def dLstR2 (a b : DE) : DE := fun ρ S P => a ρ S fun x S1 => b ρ S1 fun y S2 => match x, y with
  | .int i, .int j => RgOk i j ∧ P (.lst (rng i (j - i).toNat)) S2
  | _, _ => False
def dLstR2M (a b : DE) : DE := fun ρ S P => a ρ S fun x S1 => b ρ S1 fun y S2 => match x, y with
  | .int i, .int j => RgOk i j ∧ ∀ l, S2 l = none → P (.obj l) (supd S2 l (.lst (rng i (j - i).toNat)))
  | _, _ => False
theorem repL_map {K : PySem.W.Frag} {I : Hp} {α : Type} {f : α → D} {g : α → V} (h : ∀ x, Rep K I (f x) (g x)) : ∀ l : List α, RepL K I (l.map f) (l.map g)
  | [] => RepL.nil
  | x :: r => RepL.cons (h x) (repL_map h r)
theorem repL_rng {K : PySem.W.Frag} {I : Hp} (a b : Int) : RepL K I (rng a (b - a).toNat) (rgV a b) := repL_map (fun _ => rep_int) _
section
variable {X : Cx} {pos p p2 pos2 : Pos} {a b : Expr} {da db : DE}
theorem je_listR2 (hm : X.mg "list" = none) (hm2 : X.mg "range" = none) (ha : JE X a da) (hb : JE X b db) (hc : X.calm = true := by rfl) (hg : Gl X "list" := by rfl) (hg2 : Gl X "range" := by rfl)
    (hs : starEach [a, b] X.env = (false, eval a X.env) :: starEach [b] X.env := by rfl) (hs2 : starEach [b] X.env = (false, eval b X.env) :: starEach [] X.env := by rfl) (hpl : (backTo pos2 (starEach [b] X.env)).any (·.1) = false := by rfl) :
    JE X (.Call (.Name "list" p) [.Call (.Name "range" p2) [a, b] [] pos2] [] pos) (dLstR2 da db) :=
  je_of (pe_listRg hc hg hm (prg_2 hg2 hm2 ha hb hs hs2 hpl)) fun σ H Q h0_ => El54 h0_ fun ρ I S F P rs ok h q => ⟨ρ, I, S, F, _, rs, ok, h, fun x S1 v I1 H1 h1 e1 ok1 r1 => ⟨ρ, I1, S1, F, _, rs.mono e1, ok1, h1, fun y S2 w I2 H2 h2 e2 ok2 r2 => by
    split at h2
    · rename_i i j
      cases r1.int_of
      cases r2.int_of
      have rl := repL_rng (K := X.K) (I := I2) i j
      exact ⟨_, _, rfl, rfl, h2.1, fun l hl => q _ _ _ _ _ h2.2 ((e1.trans e2).trans (same_new (ok2.freshI hl))) (ok2.newI hl) (rep_new_lst (ok2.freshI hl) rl)⟩
    · exact h2.elim⟩⟩
end

section
variable {X : Cx} {pos : Pos} {a b : Expr} {da db : DE}
end
end DL

namespace DL
open PySem PySem.Spec PyProof.Rows L2

/-! ### two fors in a comprehension -/
theorem But.wipe_sub {ts vs : List Nat} {σ σ2 : L2.St} (h : But ts (L2.wipe σ vs) σ2) (sub : ∀ i, i ∈ ts → i ∈ vs) : L2.wipe σ2 vs = L2.wipe σ vs := by
  apply List.ext_getElem?
  intro j
  have hl := h.1
  rw [L2.wipe_length] at hl
  rw [wipe_get, wipe_get, hl]
  split
  · rfl
  · rename_i hj
    rw [h.2 j fun z => hj (sub j z), wipe_get, if_neg hj]
def dLc2 (di : DI) (t : Tgt) (tt : DT) (di1 : DI) (t1 : Tgt) (tt1 : DT) (de : DE) : DE := fun ρ S P => di ρ S fun ds pin S1 =>
  ∃ W : Nat → List D → Store → Prop, W 0 [] S1 ∧ (∀ i acc S, W i acc S → PinOk pin S) ∧
  (∀ i d acc S, ds[i]? = some d → W i acc S → ∃ ρ', t.put d (dwipe ρ (t.slots ++ t1.slots)) = some ρ' ∧ tt ρ' S fun b S2 => if b = true then di1 ρ' S2 fun ds1 pin1 S3 =>
    ∃ W1 : Nat → List D → Store → Prop, W1 0 acc S3 ∧ (∀ j acc S, W1 j acc S → PinOk pin1 S) ∧
      (∀ j d1 acc1 S4, ds1[j]? = some d1 → W1 j acc1 S4 → ∃ ρ'', t1.put d1 (dwipe ρ' t1.slots) = some ρ'' ∧ tt1 ρ'' S4 fun b S5 => if b = true then de ρ'' S5 fun y S6 => acc1.length < 100000 ∧ W1 (j + 1) (acc1 ++ [y]) S6 else W1 (j + 1) acc1 S5) ∧
      ∀ acc1 S4, W1 ds1.length acc1 S4 → W (i + 1) acc1 S4
    else W (i + 1) acc S2) ∧ ∀ acc S, W ds.length acc S → P (.lst acc) S
theorem up_lc2 {X : Cx} {di di1 : DI} {t t1 : Tgt} {tt tt1 : DT} {de : DE} : ∀ σ H Q, upE X.K (dLc2 di t tt di1 t1 tt1 de) σ H Q → tLc2 (upI X.K di) (upG X.K t) (upT X.K tt) (upI X.K di1) (upG X.K t1) (upT X.K tt1) (upE X.K de) (t.slots ++ t1.slots) t1.slots σ H Q := fun σ H Q h0_ => El54 h0_ fun ρ I S F P rs ok h q => by
  refine ⟨ρ, I, S, F, _, rs, ok, h, fun ds pin S1 I1 H1 J hB e1 ok1 it => fun Dd hD => ?_⟩
  obtain ⟨W, w0, hpin, turn, fin⟩ := hB
  refine ⟨fun i m H => m + i = ds.length ∧ ∃ I' S' acc vs, Same I1 I' ∧ Ok X.K I' S' (upd F Dd (.lst vs)) H ∧ RepL X.K I' acc vs ∧ W i acc S', ⟨ds.length, by simp, I1, S1, [], [], Same.refl I1, ok1.newF hD ⟨fun y z => (by cases z), fun y z => (by cases z)⟩, RepL.nil, w0⟩, ?_⟩
  rintro i m H2 ⟨em, I2, S2, acc, vs, e2, ok2, rl, w2⟩
  by_cases hi : i < ds.length
  · refine .inr ?_
    obtain ⟨g1, g2⟩ := it.go I2 S2 _ H2 e2 ok2 (hpin _ _ _ w2) i ds[i] (List.getElem?_eq_getElem hi)
    obtain ⟨ρ3, hput, hbody⟩ := turn i ds[i] acc S2 (List.getElem?_eq_getElem hi) w2
    refine ⟨g1, fun H' => ∃ I' S' acc vs, Same I1 I' ∧ Ok X.K I' S' (upd F Dd (.lst vs)) H' ∧ RepL X.K I' acc vs ∧ W (i + 1) acc S', fun H' h => ⟨m - 1, by omega, by omega, h⟩, fun x H3 hy => ?_⟩
    obtain ⟨I3, e3, ok3, r3⟩ := g2 x H3 hy
    refine ⟨dwipe ρ (t.slots ++ t1.slots), ρ3, I3, S2, _, ds[i], ((rs.mono e1).mono (e2.trans e3)).wipe _, ok3, r3, hput, fun σ3 rs3 b3 => ⟨b3.wipe_sub fun i hi => List.mem_append_left _ hi, ?_⟩⟩
    refine ⟨ρ3, I3, S2, _, _, rs3, ok3, hbody, fun b S4 I4 H4 h4 e4 ok4 => ?_⟩
    cases b with
    | true =>
      rw [if_pos rfl] at h4 ⊢
      refine ⟨ρ3, I4, S4, _, _, rs3.mono e4, ok4, h4, fun ds1 pin1 S5 I5 H5 J1 h5 e5 ok5 it1 => ?_⟩
      obtain ⟨W1, v0, vpin, vturn, vfin⟩ := h5
      refine ⟨fun j k H => k + j = ds1.length ∧ ∃ I' S' acc vs, Same I5 I' ∧ Ok X.K I' S' (upd F Dd (.lst vs)) H ∧ RepL X.K I' acc vs ∧ W1 j acc S', ⟨ds1.length, by simp, I5, S5, acc, vs, Same.refl I5, ok5, rl.mono ((e3.trans e4).trans e5), v0⟩, ?_⟩
      rintro j k H6 ⟨ek, I6, S6, acc6, vs6, e6, ok6, rl6, w6⟩
      by_cases hj : j < ds1.length
      · refine .inr ?_
        obtain ⟨g3, g4⟩ := it1.go I6 S6 _ H6 e6 ok6 (vpin _ _ _ w6) j ds1[j] (List.getElem?_eq_getElem hj)
        obtain ⟨ρ7, hput7, hbody7⟩ := vturn j ds1[j] acc6 S6 (List.getElem?_eq_getElem hj) w6
        refine ⟨g3, fun H' => ∃ I' S' acc vs, Same I5 I' ∧ Ok X.K I' S' (upd F Dd (.lst vs)) H' ∧ RepL X.K I' acc vs ∧ W1 (j + 1) acc S', fun H' h => ⟨k - 1, by omega, by omega, h⟩, fun x H7 hy7 => ?_⟩
        obtain ⟨I7, e7, ok7, r7⟩ := g4 x H7 hy7
        refine ⟨dwipe ρ3 t1.slots, ρ7, I7, S6, _, ds1[j], (rs3.mono (((e4.trans e5).trans e6).trans e7)).wipe _, ok7, r7, hput7, fun σ7 rs7 b7 => ⟨b7.wipe_sub fun i hi => hi, ?_⟩⟩
        refine ⟨ρ7, I7, S6, _, _, rs7, ok7, hbody7, fun b S8 I8 H8 h8 e8 ok8 => ?_⟩
        cases b with
        | true =>
          rw [if_pos rfl] at h8 ⊢
          refine ⟨ρ7, I8, S8, _, _, rs7.mono e8, ok8, h8, fun y S9 v I9 H9 h9 e9 ok9 r9 => ?_⟩
          have hF : (upd F Dd (.lst vs6)) Dd = some (.lst vs6) := upd_same
          refine ⟨vs6, (ok9.f Dd _ hF).1, ?_, I9, S9, acc6 ++ [y], vs6 ++ [v], (((e6.trans e7).trans e8).trans e9), ?_, (rl6.mono ((e7.trans e8).trans e9)).app (RepL.one r9), h9.2⟩
          · rw [rl6.len]
            have : (100000 : Nat) < sizeLine := by decide
            have := h9.1
            omega
          · have := ok9.writeF (o' := .lst (vs6 ++ [v])) hF ⟨fun y z => (by cases z), fun y z => (by cases z)⟩
            rwa [upd_upd] at this
        | false =>
          rw [if_neg Bool.false_ne_true] at h8 ⊢
          exact ⟨I8, S8, acc6, vs6, ((e6.trans e7).trans e8), ok8, rl6.mono (e7.trans e8), h8⟩
      · have e : j = ds1.length := by omega
        subst e
        exact .inl ⟨it1.stop I6 S6 _ H6 e6 ok6 (vpin _ _ _ w6) _ rfl, I6, S6, acc6, vs6, (((e2.trans e3).trans e4).trans e5).trans e6, ok6, rl6, vfin acc6 S6 w6⟩
    | false =>
      rw [if_neg Bool.false_ne_true] at h4 ⊢
      exact ⟨I4, S4, acc, vs, ((e2.trans e3).trans e4), ok4, rl.mono (e3.trans e4), h4⟩
  · have e : i = ds.length := by omega
    subst e
    refine .inl ⟨it.stop I2 S2 _ H2 e2 ok2 (hpin _ _ _ w2) _ rfl, ?_⟩
    have hF : (upd F Dd (.lst vs)) Dd = some (.lst vs) := upd_same
    have i2 : I2 Dd = none := (ok2.f Dd _ hF).2.1
    have ok3 := ok2.showF hF
    have ok4 : Ok X.K (upd I2 Dd (.lst vs)) S2 F H2 := by
      refine ⟨ok3.i, ok3.s, fun a x q => ?_⟩
      have ne : a ≠ Dd := fun z => by
        subst z
        rw [(ok1.freshF hD)] at q; cases q
      exact ok3.f a x (by show (if a = Dd then none else upd F Dd (.lst vs) a) = some x; rw [if_neg ne, upd_ne ne]; exact q)
    exact q _ _ _ _ _ (fin acc S2 w2) ((e1.trans e2).trans (same_new i2)) ok4 (rep_new_lst i2 rl)
section
variable {X : Cx} {pos : Pos}
theorem js_setLc2 (i : Nat) {y : Str} {py spos : Pos} {elt tg iter tg1 iter1 : Expr} {ifs ifs1 : List Expr} {scope : Scope} (own : List (Str × Nat)) {di di1 : DI} {t t1 : Tgt} {tt tt1 : DT} {de : DE} (ho : own.map (·.2) = t.slots ++ t1.slots) (hN : X.N.Nodup) (hy : X.N[i]? = some y) (hyl : X.env.scope.names.lookup y = some .local)
    (hsw : swapsWith (.ListComp elt [⟨tg, iter, ifs, 0⟩, ⟨tg1, iter1, ifs1, 0⟩] scope pos) (some (.Name y py)) spos.line X.env = pure true) (hi : JI X tg iter di) (ok : BlkOk X.N X.env.scope scope own)
    (hc : X.calm = true)
    (hg : ∀ (s : Shared) (H : Hp) (C : Addr) (cl : List (Str × Addr)) (fp : List Addr), JG (X.blk s H scope (compEnvC scope cl C X.env) fp) tg t) (ht : ∀ (s : Shared) (H : Hp) (C : Addr) (cl : List (Str × Addr)) (fp : List Addr), JTs (X.blk s H scope (compEnvC scope cl C X.env) fp) ifs tt)
    (hi1 : ∀ (s : Shared) (H : Hp) (C : Addr) (cl : List (Str × Addr)) (fp : List Addr), JI (X.blk s H scope (compEnvC scope cl C X.env) fp) tg1 iter1 di1)
    (hg1 : ∀ (s : Shared) (H : Hp) (C : Addr) (cl : List (Str × Addr)) (fp : List Addr), JG (X.blk s H scope (compEnvC scope cl C X.env) fp) tg1 t1) (ht1 : ∀ (s : Shared) (H : Hp) (C : Addr) (cl : List (Str × Addr)) (fp : List Addr), JTs (X.blk s H scope (compEnvC scope cl C X.env) fp) ifs1 tt1)
    (he : ∀ (s : Shared) (H : Hp) (C : Addr) (cl : List (Str × Addr)) (fp : List Addr), JE (X.blk s H scope (compEnvC scope cl C X.env) fp) elt de) (hs : ∀ x, foldedSetIterable iter X.env x = pure x := by intro _; rfl) (hs1 : ∀ env x, foldedSetIterable iter1 env x = pure x := by intro _ _; rfl) :
    JS X (.Assign [.Name y py] (.ListComp elt [⟨tg, iter, ifs, 0⟩, ⟨tg1, iter1, ifs1, 0⟩] scope pos) spos) (dSet i (dLc2 di t tt di1 t1 tt1 de)) :=
  js_of (ps_setLc2 (vs1 := t1.slots) hc hN hy hyl hsw hi ok (fun i hi => by rw [ho]; exact List.mem_append_right _ hi) hg ht hi1 hg1 ht1 he hs hs1) fun D σ H h0_ => El54 h0_ fun ρ I S F DD rs ok h q => by
    rw [ho]
    exact up_lc2 (X := X) σ H _ ⟨ρ, I, S, F, _, rs, ok, h, fun x S1 v I1 H1 h1 e1 ok1 r1 => q.nx _ _ _ _ _ h1 e1 ok1 ((rs.mono e1).set i r1)⟩

variable {a b : Expr} {da db : DE}
end
end DL

/-! every other item of a tuple -/
namespace L2
open PySem PySem.Spec PyProof.Rows HT
section
variable {prog : Program} {w : World} {A : Around} {E : Value → Shared → Prop} {s : Shared}
end
section
variable {X : Cx}
end
section
end
end L2
namespace DL
open PySem PySem.Spec PyProof.Rows L2
end DL

namespace DL
open PySem PySem.Spec PyProof.Rows L2

/-! ### {'a': 1, ..}.get(x, y) of a written dict -/
def dictAt : List (Str × Int) → Str → Option Int
  | [], _ => none
  | (k, v) :: r, z => if k = z then some v else dictAt r z
def kvV (p : Str × Int) : Key × V := (.inr p.1, .int p.2)
theorem dictAt_val (z : Str) : ∀ kvs : List (Str × Int), valV (kvs.map kvV) (.inr z) = (dictAt kvs z).map V.int
  | [] => rfl
  | (k, v) :: r => by
    have ih := dictAt_val z r
    unfold valV at ih ⊢
    rw [List.map_cons, List.find?_cons]
    by_cases h : k = z
    · subst h
      simp [kvV, dictAt]
    · have : decide ((kvV (k, v)).1 = (Sum.inr z : Key)) = false := by
        simp [kvV, h]
      rw [this]
      simp only [dictAt, if_neg h]
      exact ih
def tKV (p : Str × Int) : TE × TE := (tC (.str p.1), tC (.int p.2))
theorem pairs_kv {σ : L2.St} {Q : List (V × V) → Hp → Prop} : ∀ (kvs : List (Str × Int)) {H : Hp}, Q (kvs.map fun p => (V.str p.1, V.int p.2)) H → tPairs (kvs.map tKV) σ H Q
  | [], H, h => h
  | p :: r, H, h => by
    show tPairs (r.map tKV) σ H fun ps H3 => Q ((V.str p.1, V.int p.2) :: ps) H3
    exact pairs_kv r h
theorem Ok.less {K : PySem.W.Frag} {I F F' H : Hp} {S : Store} (h : Ok K I S F' H) (le : ∀ a o, F a = some o → F' a = some o) : Ok K I S F H := ⟨h.i, h.s, fun a o e => h.f a o (le a o e)⟩
def dDispGet (kvs : List (Str × Int)) (dk dd : DE) : DE := fun ρ S P => dk ρ S fun x S1 => dd ρ S1 fun y S2 => match x with
  | .str z => (match dictAt kvs z with
    | some i => P (.int i) S2
    | none => P y S2)
  | _ => False
section
variable {X : Cx} {pos p1 apos cpos : Pos} {e f : Expr} {dk dd : DE}
theorem je_dispGet {k : Nat} (kvs : List (Str × Int)) {keys : List (Option Expr)} {values : List Expr} (hr : DG.RoomG k X.A) (hp : PPs X p1 keys values (kvs.map tKV)) (hk : JE X e dk) (hd : JE X f dd) (m : M2 X (.Dict keys values p1) "get" apos e f cpos)
    (hm : mergeK [] (kvs.map kvV) = kvs.map kvV) (hall : keys.all (·.isSome) = true := by rfl) (hl : keys.length = values.length := by rfl) (h0 : keys ≠ [] := by exact fun z => nomatch z) (h15 : keys.length ≤ 15 := by decide) (hkl : kvs.length ≤ 15 := by decide) :
    JE X (.Call (.Attribute (.Dict keys values p1) "get" apos) [e, f] [] cpos) (dDispGet kvs dk dd) :=
  je_of (pe_dget2 (by have := hr.r.un; omega) (pe_disp hp hall hl h0 h15) hk hd m) fun σ H Q h0_ => El54 h0_ fun ρ I S F P rs ok h q => by
    intro p hp
    refine pairs_kv kvs ⟨upd_same, kvs.map kvV, by rw [List.map_map]; rfl, by rw [List.length_map]; exact hkl, ?_⟩
    rw [upd_upd, hm]
    have ok1 : Ok X.K I S (upd F p (.dK (kvs.map kvV))) (upd H p (.dK (kvs.map kvV))) := ok.newF hp ⟨fun y z => (by cases z), fun y z => (by cases z)⟩
    have hF : (upd F p (.dK (kvs.map kvV))) p = some (.dK (kvs.map kvV)) := upd_same
    have hn : F p = none := ok.freshF hp
    refine ⟨p, rfl, .inl ⟨_, .inl upd_same⟩, ρ, I, S, _, _, rs, ok1, h, fun x S1 v I1 H1 h1 e1 ok2 r1 => ⟨ρ, I1, S1, _, _, rs.mono e1, ok2, h1, fun y S2 w I2 H2 h2 e2 ok3 r2 => ?_⟩⟩
    have hd := (ok3.f p _ hF).1
    have ok4 : Ok X.K I2 S2 F H2 := ok3.less fun a o ea => by
      rw [upd_ne (fun z => by rw [z, hn] at ea; cases ea)]; exact ea
    split at h2
    · rename_i z
      cases (r1.mono e2).str_of
      refine ⟨valV (kvs.map kvV) (.inr z), DGet.k (k := .inr z) hd, ?_⟩
      rw [dictAt_val]
      split at h2
      · rename_i i ei
        rw [ei]
        exact q _ _ _ _ _ h2 (e1.trans e2) ok4 rep_int
      · rename_i ei
        rw [ei]
        exact q _ _ _ _ _ h2 (e1.trans e2) ok4 r2
    · exact h2.elim

variable {o a : Expr} {da db : DE} {pos : Pos}
end
/-! ### f() -/
theorem je_f0 {X : Cx} {pos p : Pos} {k j : Nat} {x : Str} {ps : List Str} {f : Addr} {fd : FuncData} {sp : DSp} (G : Does X.prog X.w X.K X.mg X.base k x ps f fd sp) (hr : DG.RoomG j X.A) (hk : k ≤ j := by decide) (hg : Gl X x := by rfl) (hdb : (x == ("__debug__" : Str)) = false := by decide) :
    JE X (.Call (.Name x p) [] [] pos) (dCB sp dNil) :=
  je_of (je_call0 G.ok (hr.mono hk) hg G.g G.kp G.b .nil (fun _ => RepL.nil) hdb) fun σ H Q h0_ => El54 h0_ fun ρ I S F P rs ok h q => ⟨ρ, I, S, F, P, rs, ok, by simpa only [dCall, dCB, List.append_nil] using h, q⟩
end DL

namespace DL
open PySem PySem.Spec PyProof.Rows L2

/-! ### NAME.get(x, y) of a written dict of the module, by words that are known -/
/-- a written dict; of each word what stands there -/
def KdAt (K : PySem.W.Frag) (w : World) (u : Value) (kvs : List (Str × Int)) (ws : List Str) : Prop := ∃ d es n, u = .ref d ∧ KDict K w d es n ∧
  ∀ z, z ∈ ws → ∃ r, PySem.W.nsIn K d z = some r ∧ (match dictAt kvs z with
    | some i => ∃ v, r = some v ∧ RelV (.int i) v
    | none => r = none)
def tKGet (kvs : List (Str × Int)) (ws : List Str) (ty tx : TE) : TE := fun σ H Q => ty σ H fun y H1 => tx σ H1 fun x H2 => ∃ z, y = .str z ∧ z ∈ ws ∧ (match dictAt kvs z with
  | some i => Q (.int i) H2
  | none => Q x H2)
section
variable {X : Cx} {e f : Expr} {ty tx : TE} {x : Str} {p1 apos cpos : Pos}
theorem pe_kget {kvs : List (Str × Int)} {ws : List Str} (hg : ∃ u, X.mg x = some u ∧ KdAt X.K X.w u kvs ws) (he : PE X e ty) (hf : PE X f tx) (m : M2 X (.Name x p1) "get" apos e f cpos) (hx : Gl X x := by rfl) (hdb : (x == ("__debug__" : Str)) = false := by decide) :
    PE X (.Call (.Attribute (.Name x p1) "get" apos) [e, f] [] cpos) (tKGet kvs ws ty tx) := by
  obtain ⟨u, hu, d, es, n, rfl, D, hws⟩ := hg
  have ho : PE X (.Name x p1) (tC (.ref d)) := pe_glob hx hu rfl hdb
  refine ⟨fun pins s σ H Q I h => ?_⟩
  refine wpAny_Call_method m.base m.few m.line PySem.F.plainAttrs_dict PySem.F.slot_dict_get PySem.F.type_dict_get (thn (ho.run pins s σ H (fun a H1 => a = .ref d ∧ tKGet kvs ws ty tx σ H1 Q) I ⟨rfl, h⟩) fun u s1 ⟨a, H1, I1, rx, ex, q1⟩ => ?_)
  subst ex
  obtain rfl : u = Value.ref d := rx
  have hm1 := PySem.W.mapOf_K (prog := X.prog) (w := X.w) I1.kIn D.at_ D.lit
  refine ⟨hm1.typeIs, fun b q => ?_, ?_⟩
  · cases q
    exact ⟨_, I1.kIn _ _ D.at_, rfl⟩
  rw [m.trees]
  refine Calls.callWith_builtin rfl (Calls.evalArgs_plain (Calls.spliced_cons (thn (he.run pins s1 σ H1 _ I1 q1) fun iv s2 ⟨y, H2, I2, ry, q2⟩ =>
    Calls.spliced_cons (thn (hf.run pins s2 σ H2 _ I2 q2) fun fv s3 ⟨c, H3, I3, rz, z, ey, hz, q3⟩ => Calls.spliced_nil ?_))))
  subst ey
  obtain ⟨t, rfl⟩ := (show ∃ t, iv = Value.str z t from ry)
  obtain ⟨r, hr, hv⟩ := hws z hz
  have hm3 := PySem.W.mapOf_K (prog := X.prog) (w := X.w) I3.kIn D.at_ D.lit
  refine call_meetsIn PySem.F.slot_dict_get hm3.typeIs PySem.F.entry_dict_get (PySem.F.args_dict_get_3 _ _ _) (meets_dict_get_default (strKind X.prog X.w) (k := z) d (PySem.strKind_is X.prog X.w z t) D.low fv) ⟨_, hm3, ?_⟩
  rw [PySem.W.find_K D.at_ hr]
  cases ed : dictAt kvs z with
  | some i =>
    rw [ed] at hv q3
    obtain ⟨v, rfl, rv⟩ := hv
    exact ⟨_, H3, I3.tok _, rv, q3⟩
  | none =>
    rw [ed] at hv q3
    subst hv
    exact ⟨_, H3, I3.tok _, rz, q3⟩
end
def dKGet (kvs : List (Str × Int)) (ws : List Str) (dk dd : DE) : DE := fun ρ S P => dk ρ S fun x S1 => dd ρ S1 fun y S2 => match x with
  | .str z => z ∈ ws ∧ (match dictAt kvs z with
    | some i => P (.int i) S2
    | none => P y S2)
  | _ => False
section
variable {X : Cx} {e f : Expr} {dk dd : DE} {x : Str} {p1 apos cpos : Pos}
theorem je_kget {kvs : List (Str × Int)} {ws : List Str} (hg : ∃ u, X.mg x = some u ∧ KdAt X.K X.w u kvs ws) (hk : JE X e dk) (hd : JE X f dd) (m : M2 X (.Name x p1) "get" apos e f cpos) (hx : Gl X x := by rfl) (hdb : (x == ("__debug__" : Str)) = false := by decide) :
    JE X (.Call (.Attribute (.Name x p1) "get" apos) [e, f] [] cpos) (dKGet kvs ws dk dd) :=
  je_of (pe_kget hg hk hd m hx hdb) fun σ H Q h0_ => El54 h0_ fun ρ I S F P rs ok h q => by
    refine ⟨ρ, I, S, F, _, rs, ok, h, fun x S1 v I1 H1 h1 e1 ok1 r1 => ⟨ρ, I1, S1, _, _, rs.mono e1, ok1, h1, fun y S2 w I2 H2 h2 e2 ok2 r2 => ?_⟩⟩
    split at h2
    · rename_i z
      cases (r1.mono e2).str_of
      obtain ⟨hz, h2⟩ := h2
      refine ⟨z, rfl, hz, ?_⟩
      cases ed : dictAt kvs z with
      | some i =>
        rw [ed] at h2
        exact q _ _ _ _ _ h2 (e1.trans e2) ok2 rep_int
      | none =>
        rw [ed] at h2
        exact q _ _ _ _ _ h2 (e1.trans e2) ok2 r2
    · exact h2.elim
end
end DL

namespace DL
open PySem PySem.Spec PyProof.Rows L2
section
variable {X : Cx} {pos : Pos} {a b : Expr} {da db : DE}
end
end DL

/-! Own classes: instances as things that change. -/
namespace DG
open PySem PySem.Spec PyProof.Rows L2
section
variable {X : Cx} {CX : CXT} {k n : Nat} {f C : Addr} {fd : FuncData} {ps ks : List Str} {sp : Sp} {dvs : List V} {ds : List Value} {E : XK} {x m : Str} {p pos apos : Pos} {e o : Expr} {es : List Expr} {ta : TE} {t tk : TA} {kws : List Keyword} {g : List Value → List Value → List Value} {gV : List V → List V → List V}
end
end DG
namespace DL
open PySem PySem.Spec PyProof.Rows L2
/-- where the own classes stand -/
class CT where
  at_ : Nat → Addr
def putD (f : Str) (x : D) : List (Str × D) → List (Str × D)
  | [] => [(f, x)]
  | (g, y) :: r => if g = f then (g, x) :: r else (g, y) :: putD f x r
section
variable {K : PySem.W.Frag} {I F H : Hp} {S : Store}
theorem RepF.no {f : Str} : ∀ {fs : List (Str × D)} {vs : List (Str × V)}, RepF K I fs vs → fs.lookup f = none → vs.lookup f = none
  | [], _, h, _ => by
    simp only [RepF] at h
    subst h; rfl
  | (g, x) :: r, vs, h, e => by
    simp only [RepF] at h
    obtain ⟨v, w, rfl, h1, h2⟩ := h
    rw [List.lookup_cons] at e ⊢
    cases q : (f == g) with
    | true => rw [q] at e; cases e
    | false =>
      rw [q] at e
      exact RepF.no h2 e
theorem RepF.len : ∀ {fs : List (Str × D)} {vs : List (Str × V)}, RepF K I fs vs → vs.length = fs.length
  | [], _, h => by
    simp only [RepF] at h
    subst h; rfl
  | (g, x) :: r, vs, h => by
    simp only [RepF] at h
    obtain ⟨v, w, rfl, h1, h2⟩ := h
    simp [RepF.len h2]
theorem RepF.put {f : Str} {d : D} {v : V} (h' : Rep K I d v) : ∀ {fs : List (Str × D)} {vs : List (Str × V)}, RepF K I fs vs → RepF K I (putD f d fs) (putF f v vs)
  | [], _, h => by
    simp only [RepF] at h
    subst h
    simp only [putD, putF, RepF]
    exact ⟨v, [], rfl, h', rfl⟩
  | (g, x) :: r, vs, h => by
    simp only [RepF] at h
    obtain ⟨w, u, rfl, h1, h2⟩ := h
    show RepF K I (if g = f then (g, d) :: r else (g, x) :: putD f d r) (if g = f then (g, v) :: u else (g, w) :: putF f v u)
    by_cases q : g = f
    · rw [if_pos q, if_pos q]
      simp only [RepF]
      exact ⟨v, u, rfl, h', h2⟩
    · rw [if_neg q, if_neg q]
      simp only [RepF]
      exact ⟨w, _, rfl, h1, RepF.put h' h2⟩
end
/-! ### o.f, o.f = e, o.f += e -/
def dFld [CT] (c : Nat) (f : Str) (a : DE) : DE := fun ρ S P => a ρ S fun x S1 => ∃ p fs d, x = .obj p ∧ S1 p = some (.ins (CT.at_ c) fs) ∧ fs.lookup f = some d ∧ P d S1
def dSetFld [CT] (c : Nat) (f : Str) (a v : DE) : DS := fun DD ρ S => v ρ S fun y S1 => a ρ S1 fun x S2 => ∃ p fs, x = .obj p ∧ S2 p = some (.ins (CT.at_ c) fs) ∧ fs.length < 900 ∧ DD.nx ρ (supd S2 p (.ins (CT.at_ c) (putD f y fs)))
/-- self.f += e of ints -/
def dFldAdd [CT] (c : Nat) (f : Str) (a v : DE) : DS := fun DD ρ S => a ρ S fun x S1 => ∃ p fs i, x = .obj p ∧ S1 p = some (.ins (CT.at_ c) fs) ∧ fs.lookup f = some (.int i) ∧ v ρ S1 fun y S2 => ∃ j fs', y = .int j ∧ S2 p = some (.ins (CT.at_ c) fs') ∧ fs'.length < 900 ∧
  DD.nx ρ (supd S2 p (.ins (CT.at_ c) (putD f (.int (i + j)) fs')))
section
variable [CT] {X : Cx} {o value : Expr} {c : Nat} {f : Str} {pos pos' tpos : Pos} {da dv : DE}
end
/-! ### calls of methods, C(..) -/
def dMeth [CT] (c : Nat) (m : Str) (sp : DSp) (a : DE) (r : DA) : DE := fun ρ S P => a ρ S fun x S1 => ∃ p fs, x = .obj p ∧ S1 p = some (.ins (CT.at_ c) fs) ∧ fs.lookup m = none ∧ r ρ S1 fun xs S2 => sp (x :: xs) S2 P
def dMake [CT] (c : Nat) (sp : DSp) (r : DA) : DE := fun ρ S P => r ρ S fun xs S1 => ∀ p, S1 p = none → sp (.obj p :: xs) (supd S1 p (.ins (CT.at_ c) [])) fun y S2 => y = .non ∧ P (.obj p) S2
def dMakeK [CT] (c : Nat) (sp : DSp) (n m : Nat) (perm : List Nat) (r kw : DA) : DE := fun ρ S P => r ρ S fun xs S1 => kw ρ S1 fun ys S2 => xs.length = n ∧ ys.length = m ∧ ∀ p, S2 p = none →
  sp (pick perm (.obj p :: xs) ys) (supd S2 p (.ins (CT.at_ c) [])) fun y S3 => y = .non ∧ P (.obj p) S3
/-- the method m of the class c keeps its promise -/
structure DoesM [CT] (P : Program) (w : World) (K : PySem.W.Frag) (mg : Str → Option Value) (base : Heap) (k : Nat) (c : Nat) (m : Str) (ps : List Str) (f : Addr) (fd : FuncData) (sp : DSp) : Prop where
  cl : Cls K (CT.at_ c)
  mt : Meth K (CT.at_ c) m f
  b : Binds K fd ps []
  ok : FnD P w K mg base k f fd ps sp
/-- the class c is made by __init__, which keeps its promise -/
structure DoesI [CT] (P : Program) (w : World) (K : PySem.W.Frag) (mg : Str → Option Value) (base : Heap) (k : Nat) (c : Nat) (x : Str) (ps : List Str) (f : Addr) (fd : FuncData) (sp : DSp) : Prop where
  g : mg x = some (.ref (CT.at_ c))
  mks : Mk K (CT.at_ c) f
  ok : FnD P w K mg base k f fd ps sp
section
variable [CT] {X : Cx} {o a : Expr} {es : List Expr} {c : Nat} {m x : Str} {pos apos p : Pos} {da : DE} {ds dk : DA} {k j n l : Nat} {ps ks : List Str} {f : Addr} {fd : FuncData} {sp : DSp} {perm : List Nat} {kws : List Keyword}
end
/-- the def called x keeps its promise sp, called by keywords -/
structure DoesK (P : Program) (w : World) (K : PySem.W.Frag) (mg : Str → Option Value) (base : Heap) (k : Nat) (x : Str) (ps : List Str) (f : Addr) (fd : FuncData) (sp : DSp) : Prop where
  g : mg x = some (.ref f)
  kp : PySem.W.keepIn K (.ref f) = true
  ok : FnD P w K mg base k f fd ps sp
section
variable {X : Cx} {pos p : Pos} {a : Expr} {es : List Expr} {ds dk : DA} {k j n m : Nat} {x : Str} {ps ks : List Str} {f : Addr} {fd : FuncData} {sp : DSp} {perm : List Nat} {kws : List Keyword}
end
/-- o.f, o.g = x, y -/
def dFld2 [CT] (c : Nat) (f g : Str) (i : Nat) (da db : DE) : DS := fun DD ρ S => da ρ S fun x S1 => db ρ S1 fun y S2 => ∃ p fs, ρ[i]? = some (some (.obj p)) ∧ S2 p = some (.ins (CT.at_ c) fs) ∧ fs.length < 900 ∧
  DD.nx ρ (supd S2 p (.ins (CT.at_ c) (putD g y (putD f x fs))))
section
variable [CT] {X : Cx} {a b : Expr} {c : Nat} {f g x y : Str} {pos p1 p2 p3 p4 pt pt2 : Pos} {da db : DE} {kt k2}
end
end DL

/-! min(xs, key=f) of ints, f a def of the module. -/
namespace DL
open PySem PySem.Spec PyProof.Rows L2
end DL

namespace DL
open PySem PySem.Spec PyProof.Rows L2
section
variable {X : Cx}
open Classical in
end
section
variable {K : PySem.W.Frag}
end
section
variable {X : Cx} {pos p : Pos} {a : Expr} {ds : DA}
end
end DL

/-! min of a list of pairs of ints. -/
namespace DL
open PySem PySem.Spec PyProof.Rows L2
section
variable {X : Cx}
end
section
variable {K : PySem.W.Frag}
end
section
variable {X : Cx} {pos p : Pos} {a : Expr} {ds : DA}
end
end DL

/-! A list that has changed and changes no more, from a statement on. -/
namespace DL
open PySem PySem.Spec PyProof.Rows L2
end DL

/-! list(zip(a, b)): the pairs given out are held, each one a new tuple. -/
namespace DL
open PySem PySem.Spec PyProof.Rows L2 DZ
section
variable {prog : Program} {w : World} {A : Around} {E : Value → Shared → Prop} {s : Shared} {z TI TO i1 i2 T : Addr} {f : Bool} {oT : Obj} {fp1 fp2 : List Addr} {n1 n2 i : Nat} {P1 P2 : Nat → Value → Prop} {St1 St2 : Nat → Heap → Prop}
end
/-- the zip at a turn: nothing given out yet, or a pair that is held -/
structure ZH (b1 b2 : Bool) (h : Heap) (z TI TO i1 i2 a b : Addr) (its its2 : Array Value) (i : Nat) (S : Addr) : Prop where
  ti : IsTupOf2 h TI (.ref i1) (.ref i2)
  to : ∃ o, h.get? TO = some o
  t1 : IterAt b1 h i1 a i
  t2 : IterAt b2 h i2 b i
  s1 : SrcAt b1 h a its
  s2 : SrcAt b2 h b its2
  zz : (IsZip h z TI TO .none ∧ ∃ x y, IsTupOf2 h TO x y) ∨ ∃ T f oT, IsZipHeld h z TI TO T f ∧ h.get? T = some oT ∧ T ≠ z ∧ T ≠ i1 ∧ T ≠ i2 ∧ T ≠ S
theorem SrcAt.at {b : Bool} {h h' : Heap} {a : Addr} {its : Array Value} (e : SrcAt b h a its) (k : ∀ o, h.get? a = some o → h'.get? a = some o) : SrcAt b h' a its := by
  cases b
  · exact Heap.IsList.at e k
  · exact Heap.IsTuple.at e k
section
variable {X : Cx} {z TI TO i1 i2 a b S : Addr} {b1 b2 : Bool} {its its2 : List Value} {xs ys : List V}
end
section
variable {X : Cx} {e e2 : Expr} {ta : TA} {ds : DA} {p p2 pos q : Pos}
open Classical in
end
end DL

/-! xs.pop(i), xs.insert(i, y). -/
namespace DL
open PySem PySem.Spec PyProof.Rows L2
section
variable {K : PySem.W.Frag} {I : Hp}
end
section
variable {X : Cx} {pos p apos : Pos} {a b c o : Expr} {da db dc : DE}
end
end DL

/-! a, *b = e of a tuple; x in NAME of a written dict. -/
namespace DL
open PySem PySem.Spec PyProof.Rows L2
section
variable {prog : Program} {w : World} {A : Around} {E : Value → Shared → Prop} {s : Shared}
end
section
variable {X : Cx} {pos p : Pos}
end
end DL

/-! Dicts as things that change: keys ints and texts (dK), or tuples of such (dT). dZ, dU: locked while they are walked. -/
namespace DL
open PySem PySem.Spec PyProof.Rows L2

/-! ### lists of pairs, whatever the values are -/
section
variable {κ : Type} [DecidableEq κ] {α : Type}
def dVal (kvs : List (κ × α)) (k : κ) : Option α := (kvs.find? fun kv => decide (kv.1 = k)).map (·.2)
def dPut (kvs : List (κ × α)) (k : κ) (v : α) : List (κ × α) :=
  if (kvs.any fun kv => decide (kv.1 = k)) = true then kvs.map (fun kv => if kv.1 = k then (kv.1, v) else kv) else kvs ++ [(k, v)]
def dWo (kvs : List (κ × α)) (k : κ) : List (κ × α) := kvs.filter fun kv => decide (kv.1 ≠ k)
def dMrg (kvs more : List (κ × α)) : List (κ × α) := more.foldl (fun acc kv => dPut acc kv.1 kv.2) kvs
theorem dVal_nil (k : κ) : dVal ([] : List (κ × α)) k = none := rfl
theorem dVal_cons (p : κ × α) (r : List (κ × α)) (k : κ) : dVal (p :: r) k = if p.1 = k then some p.2 else dVal r k := by
  unfold dVal
  rw [List.find?_cons]
  by_cases e : p.1 = k
  · simp [e]
  · simp [e]
theorem any_key {kvs : List (κ × α)} {k : κ} : (kvs.any fun kv => decide (kv.1 = k)) = decide (k ∈ kvs.map (·.1)) := by
  induction kvs with
  | nil => rfl
  | cons p r ih =>
    rw [List.any_cons, ih]
    by_cases e : p.1 = k
    · simp [e]
    · simp [e, Ne.symm e]
theorem dPut_new {kvs : List (κ × α)} {k : κ} (v : α) (h : k ∉ kvs.map (·.1)) : dPut kvs k v = kvs ++ [(k, v)] := by
  unfold dPut
  rw [any_key, decide_eq_false h]
  simp
end

def kD : Key → D
  | .inl i => .int i
  | .inr s => .str s
def keyOf : D → Option Key
  | .int i => some (.inl i)
  | .str s => some (.inr s)
  | _ => none
def keysOf : List D → Option (List Key)
  | [] => some []
  | x :: r => match keyOf x, keysOf r with
    | some k, some ks => some (k :: ks)
    | _, _ => none
theorem keyOf_int (i : Int) : keyOf (.int i) = some (.inl i) := rfl
theorem keyOf_str (s : Str) : keyOf (.str s) = some (.inr s) := rfl
theorem keyOf_eq {x : D} {k : Key} (h : keyOf x = some k) : x = kD k := by
  cases x <;> simp [keyOf] at h <;> subst h <;> rfl
section
variable {K : PySem.W.Frag} {I I' F H : Hp} {S : Store}
theorem kD_rep (k : Key) : Rep K I (kD k) (kV k) := by
  cases k with
  | inl i => exact rep_int
  | inr s => exact rep_str
theorem kD_of {k : Key} {v : V} (h : Rep K I (kD k) v) : v = kV k := by
  cases k with
  | inl i => exact h.int_of
  | inr s => exact h.str_of
theorem keysOf_rep : ∀ {xs : List D} {ks : List Key} {vs : List V}, RepL K I xs vs → keysOf xs = some ks → vs = ks.map kV
  | [], ks, vs, r, h => by
    simp only [RepL] at r
    simp only [keysOf, Option.some.injEq] at h
    subst r h; rfl
  | x :: r, ks, vs, rl, h => by
    simp only [RepL] at rl
    obtain ⟨v, w, rfl, h1, h2⟩ := rl
    unfold keysOf at h
    cases e1 : keyOf x with
    | none => rw [e1] at h; cases h
    | some k =>
      cases e2 : keysOf r with
      | none => rw [e1, e2] at h; cases h
      | some js =>
        rw [e1, e2] at h
        cases h
        rw [keyOf_eq e1] at h1
        rw [kD_of h1, keysOf_rep h2 e2]
        rfl
section
variable {κ : Type} [DecidableEq κ]
theorem RepF.nilK : RepF K I ([] : List (κ × D)) [] := by simp only [RepF]
theorem RepF.consK {p : κ × D} {v : V} {r : List (κ × D)} {w : List (κ × V)} (h : Rep K I p.2 v) (h' : RepF K I r w) : RepF K I (p :: r) ((p.1, v) :: w) := by
  simp only [RepF]
  exact ⟨v, w, rfl, h, h'⟩
theorem RepF.lenK : ∀ {fs : List (κ × D)} {vs : List (κ × V)}, RepF K I fs vs → vs.length = fs.length
  | [], _, h => by
    simp only [RepF] at h
    subst h; rfl
  | p :: r, vs, h => by
    simp only [RepF] at h
    obtain ⟨v, w, rfl, h1, h2⟩ := h
    simp [RepF.lenK h2]
theorem RepF.keysK : ∀ {fs : List (κ × D)} {vs : List (κ × V)}, RepF K I fs vs → vs.map (·.1) = fs.map (·.1)
  | [], _, h => by
    simp only [RepF] at h
    subst h; rfl
  | p :: r, vs, h => by
    simp only [RepF] at h
    obtain ⟨v, w, rfl, h1, h2⟩ := h
    simp [RepF.keysK h2]
theorem RepF.getK : ∀ {fs : List (κ × D)} {vs : List (κ × V)} {i : Nat} {p : κ × D}, RepF K I fs vs → fs[i]? = some p → ∃ v, vs[i]? = some (p.1, v) ∧ Rep K I p.2 v
  | [], _, _, _, _, e => by simp at e
  | q :: r, vs, 0, p, h, e => by
    simp only [RepF] at h
    obtain ⟨v, w, rfl, h1, h2⟩ := h
    simp at e; subst e
    exact ⟨v, rfl, h1⟩
  | q :: r, vs, i + 1, p, h, e => by
    simp only [RepF] at h
    obtain ⟨v, w, rfl, h1, h2⟩ := h
    obtain ⟨u, e1, e2⟩ := RepF.getK (i := i) h2 (by simpa using e)
    exact ⟨u, by simpa using e1, e2⟩
theorem RepF.valK {k : κ} : ∀ {fs : List (κ × D)} {vs : List (κ × V)}, RepF K I fs vs → (∀ d, dVal fs k = some d → ∃ v, valV vs k = some v ∧ Rep K I d v) ∧ (dVal fs k = none → valV vs k = none)
  | [], _, h => by
    simp only [RepF] at h
    subst h
    exact ⟨fun d e => by simp [dVal_nil] at e, fun _ => rfl⟩
  | p :: r, vs, h => by
    simp only [RepF] at h
    obtain ⟨v, w, rfl, h1, h2⟩ := h
    have ih := RepF.valK (k := k) h2
    rw [dVal_cons]
    by_cases e : p.1 = k
    · rw [if_pos e, valV_pos (p := (p.1, v)) e]
      exact ⟨fun d z => by cases z; exact ⟨v, rfl, h1⟩, fun z => by cases z⟩
    · rw [if_neg e, valV_neg (p := (p.1, v)) e]
      exact ih
theorem RepF.appK : ∀ {fs gs : List (κ × D)} {vs ws : List (κ × V)}, RepF K I fs vs → RepF K I gs ws → RepF K I (fs ++ gs) (vs ++ ws)
  | [], _, _, _, h, h' => by
    simp only [RepF] at h
    subst h; simpa using h'
  | p :: r, gs, vs, ws, h, h' => by
    simp only [RepF] at h
    obtain ⟨v, w, rfl, h1, h2⟩ := h
    simp only [List.cons_append, RepF]
    exact ⟨v, w ++ ws, rfl, h1, h2.appK h'⟩
theorem RepF.putK {k : κ} {d : D} {v : V} {fs : List (κ × D)} {vs : List (κ × V)} (h : RepF K I fs vs) (h' : Rep K I d v) : RepF K I (dPut fs k d) (L2.putK vs k v) := by
  have ha : (vs.any fun kv => decide (kv.1 = k)) = (fs.any fun kv => decide (kv.1 = k)) := by
    have e : ∀ {α : Type} (l : List (κ × α)), (l.any fun kv => decide (kv.1 = k)) = ((l.map (·.1)).any fun j => decide (j = k)) := fun l => by rw [List.any_map]; rfl
    rw [e, e, h.keysK]
  unfold dPut L2.putK
  rw [ha]
  split
  · clear ha
    rename_i hx
    clear hx
    induction fs generalizing vs with
    | nil =>
      simp only [RepF] at h
      subst h
      exact RepF.nilK
    | cons p r ih =>
      simp only [RepF] at h
      obtain ⟨w, u, rfl, h1, h2⟩ := h
      simp only [List.map_cons]
      by_cases e : p.1 = k
      · rw [if_pos e, if_pos e]
        exact RepF.consK (p := (p.1, d)) h' (ih h2)
      · rw [if_neg e, if_neg e]
        exact RepF.consK h1 (ih h2)
  · exact h.appK (RepF.consK (p := (k, d)) h' RepF.nilK)
end
/-! ### a dict of the store -/
/-- what a dict with keys of ints and texts holds, locked or not -/
def dctOf (S : Store) : D → Option (List (Key × D))
  | .obj a => match S a with
    | some (.dK kvs) => some kvs
    | some (.dZ _ _ kvs) => some kvs
    | _ => none
  | _ => none
end

/-! ### d[k], k in d, d.get(k), d.get(k, x) -/
def dDGet : D2 := fun x y S P => match dctOf S x, keyOf y with
  | some kvs, some k => (match dVal kvs k with
    | some d => P d S
    | none => False)
  | _, _ => False
def dDIn (neg : Bool) : D2 := fun y x S P => match dctOf S x, keyOf y with
  | some kvs, some k => P (.bl (if neg then !(dVal kvs k).isSome else (dVal kvs k).isSome)) S
  | _, _ => False
def dDGet1 (dd dk : DE) : DE := fun ρ S P => dd ρ S fun x S1 => (dctOf S1 x).isSome = true ∧ dk ρ S1 fun y S2 => match dctOf S2 x, keyOf y with
  | some kvs, some k => P ((dVal kvs k).getD .non) S2
  | _, _ => False
def dDGet2 (dd dk dx : DE) : DE := fun ρ S P => dd ρ S fun x S1 => (dctOf S1 x).isSome = true ∧ dk ρ S1 fun y S2 => dx ρ S2 fun z S3 => match dctOf S3 x, keyOf y with
  | some kvs, some k => P ((dVal kvs k).getD z) S3
  | _, _ => False
def dDPut (dd dk dv : DE) : DS := fun DD ρ S => dv ρ S fun z S1 => dd ρ S1 fun x S2 => dk ρ S2 fun y S3 => ∃ a kvs k, x = .obj a ∧ S3 a = some (.dK kvs) ∧ keyOf y = some k ∧ kvs.length < 100000 ∧ DD.nx ρ (supd S3 a (.dK (dPut kvs k z)))
def dDPop1 (dd dk : DE) : DE := fun ρ S P => dd ρ S fun x S1 => (dctOf S1 x).isSome = true ∧ dk ρ S1 fun y S2 => ∃ a kvs k v, x = .obj a ∧ S2 a = some (.dK kvs) ∧ keyOf y = some k ∧ dVal kvs k = some v ∧ P v (supd S2 a (.dK (dWo kvs k)))
def dDPop2 (dd dk dx : DE) : DE := fun ρ S P => dd ρ S fun x S1 => (dctOf S1 x).isSome = true ∧ dk ρ S1 fun y S2 => dx ρ S2 fun z S3 => ∃ a kvs k, x = .obj a ∧ S3 a = some (.dK kvs) ∧ keyOf y = some k ∧
  match dVal kvs k with
  | some v => P v (supd S3 a (.dK (dWo kvs k)))
  | none => P z S3
section
variable {X : Cx} {pos pos' apos cpos : Pos} {o i e f value : Expr} {dd dk dv dx : DE} {n : Nat}
end

/-! ### {} and displays -/
def dNewD : DE := fun _ S P => ∀ p, S p = none → P (.obj p) (supd S p (.dK []))
def dPrs : List (DE × DE) → DSt → Store → (List (D × D) → Store → Prop) → Prop
  | [], _, S, P => P [] S
  | t :: r, ρ, S, P => t.1 ρ S fun k S1 => t.2 ρ S1 fun v S2 => dPrs r ρ S2 fun ps S3 => P ((k, v) :: ps) S3
def dkvsOf : List (D × D) → Option (List (Key × D))
  | [] => some []
  | (x, y) :: r => match keyOf x, dkvsOf r with
    | some k, some ks => some ((k, y) :: ks)
    | _, _ => none
/-- a display of unlike keys -/
def dDisp (prs : List (DE × DE)) : DE := fun ρ S P => dPrs prs ρ S fun ps S1 => match dkvsOf ps with
  | some kvs => kvs.length ≤ 15 ∧ (kvs.map (·.1)).Nodup ∧ ∀ p, S1 p = none → P (.obj p) (supd S1 p (.dK kvs))
  | none => False
section
variable {X : Cx} {pos : Pos} {k v : Expr} {ks : List (Option Expr)} {vs : List Expr} {dk dv : DE} {prs : List (DE × DE)}
end

section
variable {K : PySem.W.Frag} {I F H : Hp} {S : Store}
variable {X : Cx} {st : Stmt} {e : Expr} {t : DS} {d : DE}
end

/-! ### a locked dict walked -/
/-- its keys -/
def dItKeys (d : DE) : DI := fun ρ S P => d ρ S fun x S1 => ∃ a o vs kvs, x = .obj a ∧ S1 a = some (.dZ o vs kvs) ∧ P (kvs.map fun kv => kD kv.1) (some fun S => S a = some (.dZ o vs kvs)) S1
/-- its pairs, its values -/
def dItItems (d : DE) : DI := fun ρ S P => d ρ S fun x S1 => ∃ a o vs kvs, x = .obj a ∧ S1 a = some (.dZ o vs kvs) ∧ P (kvs.map fun kv => .tup [kD kv.1, kv.2]) (some fun S => S a = some (.dZ o vs kvs)) S1
def dItVals (d : DE) : DI := fun ρ S P => d ρ S fun x S1 => ∃ a o vs kvs, x = .obj a ∧ S1 a = some (.dZ o vs kvs) ∧ P (kvs.map fun kv => kv.2) (some fun S => S a = some (.dZ o vs kvs)) S1
section
variable {X : Cx} {tg e : Expr} {d : DE} {apos cpos : Pos}
end
end DL

/-! Dict comprehensions over data: one for, two fors. -/
namespace DL
open PySem PySem.Spec PyProof.Rows L2

/-! ### two fors, by the hand layer's parts -/
section
variable {X : Cx} {kx vx tg iter tg1 iter1 : Expr} {ifs ifs1 : List Expr} {scope : Scope} {pos : Pos}
variable {prog : Program} {w : World} {A : Around} {R : Result → Shared → Prop} {s : Shared} {it acc : Value} {env : Env} {D : Addr}
abbrev nothing : Value → Shared → Prop := fun _ _ => False
end
section
variable {X : Cx} {kx vx tg iter tg1 iter1 : Expr} {ifs ifs1 : List Expr} {scope : Scope} {pos : Pos}
end
end DL

/-! Dict comprehensions as readings; len, list, sorted, dict, update of dicts. -/
namespace DL
open PySem PySem.Spec PyProof.Rows L2

/-! ### {k: v for t in xs if ..} -/
/-- over the data ds: W by the turn and the pairs so far -/
def DcN (t : Tgt) (tt : DT) (dk dv : DE) (P : D → Store → Prop) (ds : List D) (pin : Option (Store → Prop)) (ρ : DSt) (S1 : Store) : Prop :=
  ∃ W : Nat → List (Key × D) → Store → Prop, W 0 [] S1 ∧ (∀ i acc S, W i acc S → PinOk pin S) ∧
  (∀ i d acc S, ds[i]? = some d → W i acc S → ∃ ρ', t.put d (dwipe ρ t.slots) = some ρ' ∧ tt ρ' S fun b S2 => if b = true then dk ρ' S2 fun y S3 => dv ρ' S3 fun z S4 => ∃ k, keyOf y = some k ∧ acc.length < 100000 ∧ W (i + 1) (dPut acc k z) S4 else W (i + 1) acc S2) ∧
  ∀ acc S, W ds.length acc S → ∀ p, S p = none → P (.obj p) (supd S p (.dK acc))
def dDc (di : DI) (t : Tgt) (tt : DT) (dk dv : DE) : DE := fun ρ S P => di ρ S fun ds pin S1 => DcN t tt dk dv P ds pin ρ S1
def Dc2N (t : Tgt) (tt : DT) (di1 : DI) (t1 : Tgt) (tt1 : DT) (dk dv : DE) (P : D → Store → Prop) (ds : List D) (pin : Option (Store → Prop)) (ρ : DSt) (S1 : Store) : Prop :=
  ∃ W : Nat → List (Key × D) → Store → Prop, W 0 [] S1 ∧ (∀ i acc S, W i acc S → PinOk pin S) ∧
  (∀ i d acc S, ds[i]? = some d → W i acc S → ∃ ρ', t.put d (dwipe ρ (t.slots ++ t1.slots)) = some ρ' ∧ tt ρ' S fun b S2 => if b = true then di1 ρ' S2 fun ds1 pin1 S3 =>
    ∃ W1 : Nat → List (Key × D) → Store → Prop, W1 0 acc S3 ∧ (∀ j acc S, W1 j acc S → PinOk pin1 S) ∧
      (∀ j d1 acc1 S4, ds1[j]? = some d1 → W1 j acc1 S4 → ∃ ρ'', t1.put d1 (dwipe ρ' t1.slots) = some ρ'' ∧ tt1 ρ'' S4 fun b S5 => if b = true then dk ρ'' S5 fun y S6 => dv ρ'' S6 fun z S7 => ∃ k, keyOf y = some k ∧ acc1.length < 100000 ∧ W1 (j + 1) (dPut acc1 k z) S7 else W1 (j + 1) acc1 S5) ∧
      ∀ acc1 S4, W1 ds1.length acc1 S4 → W (i + 1) acc1 S4
    else W (i + 1) acc S2) ∧
  ∀ acc S, W ds.length acc S → ∀ p, S p = none → P (.obj p) (supd S p (.dK acc))
def dDc2 (di : DI) (t : Tgt) (tt : DT) (di1 : DI) (t1 : Tgt) (tt1 : DT) (dk dv : DE) : DE := fun ρ S P => di ρ S fun ds pin S1 => Dc2N t tt di1 t1 tt1 dk dv P ds pin ρ S1
section
variable {K : PySem.W.Frag} {I F H : Hp} {S : Store}
end
section
variable {X : Cx} {kx vx tg iter tg1 iter1 : Expr} {ifs ifs1 : List Expr} {scope : Scope} {pos spos : Pos} {di di1 : DI} {t t1 : Tgt} {tt tt1 : DT} {dk dv : DE}
end

/-! ### len(d), list(d), dict(d), dict of pairs, sorted(d), d.update(d) -/
def cLenD : DC := fun xs S P => match xs with
  | [x] => (match dctOf S x with
    | some kvs => P (.int kvs.length) S
    | none => False)
  | _ => False
def cListD : DC := fun xs S P => match xs with
  | [x] => (match dctOf S x with
    | some kvs => P (.lst (kvs.map fun kv => kD kv.1)) S
    | none => False)
  | _ => False
def cListDM : DC := fun xs S P => match xs with
  | [x] => (match dctOf S x with
    | some kvs => ∀ p, S p = none → P (.obj p) (supd S p (.lst (kvs.map fun kv => kD kv.1)))
    | none => False)
  | _ => False
def cDictD : DC := fun xs S P => match xs with
  | [x] => (match dctOf S x with
    | some kvs => ∀ p, S p = none → P (.obj p) (supd S p (.dK kvs))
    | none => False)
  | _ => False
def pairsOf : List D → Option (List (Key × D))
  | [] => some []
  | .tup [x, y] :: r => match keyOf x, pairsOf r with
    | some k, some ks => some ((k, y) :: ks)
    | _, _ => none
  | _ => none
def cDictP : DC := fun xs S P => match xs with
  | [x] => (match (lstOf S x).bind pairsOf with
    | some kvs => kvs.length ≤ 100000 ∧ ∀ p, S p = none → P (.obj p) (supd S p (.dK (dMrg [] kvs)))
    | none => False)
  | _ => False
def dDUpd (dd de : DE) : DE := fun ρ S P => dd ρ S fun x S1 => (∃ a es, x = .obj a ∧ S1 a = some (.dK es)) ∧ de ρ S1 fun y S2 => ∃ a b kvs more, x = .obj a ∧ y = .obj b ∧ a ≠ b ∧ S2 a = some (.dK kvs) ∧ dctOf S2 y = some more ∧ kvs.length + more.length ≤ 100000 ∧
  P .non (supd S2 a (.dK (dMrg kvs more)))
section
variable {X : Cx}
variable {K : PySem.W.Frag}
variable {a e o : Expr} {pos p apos cpos : Pos} {ds : DA} {dd de : DE}
end
end DL

/-! xs[:0:-1], defs with a keyword default. -/
namespace L2
open PySem PySem.Spec PyProof.Rows PySem.W
section
variable {X : Cx} {a : Expr} {ta : TE} {p p2 p1 p3 pos pos2 : Pos}
end
end L2
namespace DL
open PySem PySem.Spec PyProof.Rows L2
def dBack (d : DE) : DE := fun ρ S P => d ρ S fun x S1 => match lstOf S1 x with
  | some ds => P (.lst (ds.drop 1).reverse) S1
  | none => False
section
variable {X : Cx} {a : Expr} {es : List Expr} {da : DE} {ds : DA} {p p1 p2 p3 pos pos2 : Pos}
end
end DL

/-! sorted(d), d a dict of any many ints as keys; sorted(xs) of ints. -/
namespace L2
open PySem PySem.Spec PyProof.Rows PySem.W
end L2
namespace DL
open PySem PySem.Spec PyProof.Rows L2
/-- ints as keys -/
def cSortDB : DC := fun xs S P => match xs with
  | [x] => (match dctOf S x with
    | some kvs => ∃ ks : List Int, kvs.map (·.1) = ks.map Sum.inl ∧ ∀ ys : List Int, ys.Perm ks → ys.Pairwise (· ≤ ·) → P (.lst (ys.map .int)) S
    | none => False)
  | _ => False
/-- sorted(xs) of ints -/
def cSortL : DC := fun xs S P => match xs with
  | [x] => (match (lstOf S x).bind dInts with
    | some ks => ∀ ys : List Int, ys.Perm ks → ys.Pairwise (· ≤ ·) → P (.lst (ys.map .int)) S
    | none => False)
  | _ => False
section
variable {X : Cx} {K : PySem.W.Frag} {a : Expr} {pos p : Pos} {ds : DA}
end
end DL

/-! sorted(set(xs)) of ints. -/
namespace L2
open PySem PySem.Spec PyProof.Rows PySem.W
section
variable {P : Program} {w : World} {A : Around} {E : Value → Shared → Prop} {s : Shared}
end
section
variable {X : Cx} {a : Expr} {ta : TE} {p p2 p1 p3 pos pos2 : Pos}
end
end L2
namespace DL
open PySem PySem.Spec PyProof.Rows L2
section
variable {X : Cx} {a : Expr} {es : List Expr} {da : DE} {ds : DA} {p p1 p2 p3 pos pos2 : Pos}
end
end DL

/-! xs[::-1] of a tuple. -/
namespace L2
open PySem PySem.Spec PyProof.Rows PySem.W
section
variable {X : Cx} {a : Expr} {ta : TE} {p p2 p1 p3 pos pos2 : Pos} {s : Shared} {prog : Program} {w : World} {A : Around} {E : Value → Shared → Prop}
end
end L2
namespace DL
open PySem PySem.Spec PyProof.Rows L2
section
variable {X : Cx} {a : Expr} {da : DE} {p p1 p2 p3 pos : Pos}
end
end DL

/-! Rows by names: sorted of texts, of tuples that begin with unlike texts, of a dict's items. -/
namespace WS
open PySem PySem.W PySem.Calls PyProof.Rows PyProof.V PySem.Spec
/-! ### ranks of texts -/
def below (x y : Str) : Bool := decide (x.cps.toList < y.cps.toList)
/-- how many of some texts are below one -/
def rank (xs : List Str) (x : Str) : Int := (xs.filter fun y => below y x).length
/-! ### tuples that begin with a text -/
def First (h : Heap) (v : Value) (y : Str) : Prop := ∃ (a : Addr) (t : Tok) (rest : List Value), v = .ref a ∧ IsTup h a (Value.str y t :: rest).toArray
def firstTx (h : Heap) (v : Value) : Str := DT.txOf (DT.seqAt0 h (DT.refOf (some v)))
theorem First.tx {h : Heap} {v : Value} {y : Str} (x : First h v y) : firstTx h v = y := by
  obtain ⟨a, t, rest, rfl, h1⟩ := x
  show DT.txOf (DT.seqAt0 h a) = y
  rw [DT.seqAt0_of h1]
  rfl
theorem First.keeps {h h' : Heap} {v : Value} {y : Str} (x : First h v y) (k : ∀ b o, h.get? b = some o → o.cls = .type "tuple" → h'.get? b = some o) : First h' v y := by
  obtain ⟨a, t, rest, e, ⟨o, ho, hc, r⟩⟩ := x
  exact ⟨a, t, rest, e, ⟨o, k _ _ ho hc, hc, r⟩⟩
section
variable {prog : Program} {w : World} {A : Around} {E : Value → Shared → Prop} {s : Shared}
end
end WS
namespace WS
open PySem PySem.W PySem.Calls PyProof.Rows PyProof.V PySem.Spec
section
variable {prog : Program} {w : World} {A : Around} {E : Value → Shared → Prop} {s : Shared}
end
end WS
namespace DL
open PySem PySem.Spec PyProof.Rows L2
section
variable {X : Cx}
end
end DL

/-! sorted(d.items()), d a dict whose keys are texts. -/
namespace DL
open PySem PySem.Spec PyProof.Rows L2
section
variable {X : Cx}
end
end DL

/-! Rows by names, as data: sorted, join, clear, for with a starred target. -/
namespace DL
open PySem PySem.Spec PyProof.Rows L2
def dStrs : List D → Option (List Str)
  | [] => some []
  | .str x :: ds => match dStrs ds with
    | some xs => some (x :: xs)
    | none => none
  | _ => none
/-- sorted(d.items()), fewer than 64 texts as keys -/
def dSortIt (d : DE) : DE := fun ρ S P => d ρ S fun x S1 => ∃ (a : Addr) (ks : List (Str × D)), x = .obj a ∧ S1 a = some (.dK (ks.map fun e => (Sum.inr e.1, e.2))) ∧ ks.length < 64 ∧ (ks.map (·.1)).Nodup ∧
  ∀ ps : List (Str × D), ps.Perm ks → ps.Pairwise (fun a b => WS.below a.1 b.1 = true) → P (.lst (ps.map fun e => .tup [.str e.1, e.2])) S1
section
variable {X : Cx} {K : PySem.W.Frag} {a o : Expr} {pos p apos ip : Pos} {ds : DA} {da db d : DE}
open Classical in
/-! ### xs.clear() -/
def dClear (a : DE) : DE := fun ρ S P => a ρ S fun x S1 => match x with
  | .obj l => (match S1 l with
    | some (.lst ds) => P .non (supd S1 l (.lst []))
    | _ => False)
  | _ => False
/-! ### "..".join(xs) -/
def dJoin (d1 d2 : DE) : DE := fun ρ S P => d1 ρ S fun x S1 => match x with
  | .str z => d2 ρ S1 fun y S2 => match (lstOf S2 y).bind dStrs with
    | some ys => (ys.map (·.length)).sum + ys.length * z.length ≤ 16777216 ∧ P (.str (Str.join z ys)) S2
    | none => False
  | _ => False

end
end DL

/-! A list gives its last. -/
namespace DL
open PySem PySem.Spec PyProof.Rows L2
section
variable {X : Cx} {K : PySem.W.Frag} {a o : Expr} {pos p apos ip : Pos} {ds : DA} {da db d : DE}
end
end DL

/-! Targets that are places of dicts, alone or among others: a, d[k] = x, y. -/
namespace DL
open PySem PySem.Spec PyProof.Rows L2
/-- a target, as data -/
abbrev DG1 := D → DSt → Store → (DSt → Store → Prop) → Prop
section
variable {X : Cx} {a b o i e tg : Expr} {pos pos' : Pos} {dd dk de : DE} {t u : DG1} {n : Nat}
end
end DL

/-! min of a list of pairs of a number and a list of texts: one whose number is least. -/
namespace DL
open PySem PySem.Spec PyProof.Rows L2
section
variable {X : Cx}
end
section
variable {K : PySem.W.Frag}
end
section
variable {X : Cx} {pos p : Pos} {a : Expr} {ds : DA}
end
end DL

/-! d != e of two dicts that are alike. -/
namespace DL
open PySem PySem.Spec PyProof.Rows L2
section
variable {X : Cx}
end
section
variable {X : Cx} {pos : Pos} {a b : Expr} {da db : DE}
end
end DL

/-! min(xs, key=lambda x: ..): the lambda is made, its code object found in the table or laid there. -/
namespace LamD
open PySem PySem.Spec PyProof.Rows L2 LamX NdefX
/-- a lambda's words, its code object; it captures nothing -/
structure LF where
  qual : Str
  params : Arguments
  body : Expr
  scope : Scope
  c : Addr
/-- the object at f is the lambda F -/
def LamO (f : Addr) (F : LF) : HO := .ext fun h => ∃ (pm ctv : Value), h.get? f = some (PySem.W.kla_obj "<lambda>" F.qual F.params F.body F.scope [] pm F.c ctv)
/-- what the making of a lambda does to the heap: its code object found in the table, or laid there -/
structure LamStep (P : Addr) (q : Str) (f : Addr) (F : LF) (H H1 : Hp) : Prop where
  nf : H f = none
  ex : (∃ pos ps, H P = some (.tbl ps) ∧ codeAmong pos ps.toList = some (.ref F.c) ∧ H1 = upd H f (LamO f F)) ∨
    (∃ (pos : Pos) (ps : Array Value), H P = some (.tbl ps) ∧ TriplesOk ps.toList ∧ H F.c = none ∧ F.c ≠ f ∧ H1 = upd (upd (upd H P (.tbl (ps ++ #[rawInt pos.line, rawInt pos.col, .ref F.c]))) F.c (CodeO F.c q)) f (LamO f F))
section
variable {X : Cx} {pins : List (Addr × Obj)} {σ : L2.St} {H : Hp} {s : Shared}
end
end LamD
namespace DL
open PySem PySem.Spec PyProof.Rows L2 LamX LamD
end DL

/-! The law's end where a lambda's table of code objects may grow; a method that makes a lambda. -/
namespace LamD
open PySem PySem.Spec PyProof.Rows L2 LamX
end LamD
namespace DL
open PySem PySem.Spec PyProof.Rows L2 LamX LamD
section
variable {P : Program} {w : World} {K : PySem.W.Frag} {mg : Str → Option Value} {base : Heap}
end
end DL
namespace DL
open PySem PySem.Spec PyProof.Rows L2
section
variable [CT] {X : Cx} {a b e : Expr} {c : Nat} {f g k x y z : Str} {pos p1 p2 p3 p4 p5 p6 pt pt2 : Pos} {da db dc : DE} {kt k2}
end
end DL

/-! Own exception classes over any built-in one: made by their own __init__. -/
namespace XF
open PySem
/-- the __init__ of a built-in exception class, which is BaseException's -/
structure Ix (B initId : String) : Prop where
  slot : Slot B (Str.ofString "__init__") initId
  entry : entryFor table initId = some Builtin.«BaseException.__init__»
  split : splitId initId = some (B, "__init__")
  kind : builtinKind initId = some Manifest.AttrKind.slot
  row : Manifest.signature? initId = some { machinery := Manifest.Machinery.positional, full := "*", short := B, receiver := Manifest.Receiver.self, params := [{ name := "args", kind := Manifest.ParamKind.varPos, required := false }] }
  star : (B != "*") = true
theorem Ix.of {B newId initId : String} {bm : List Value} (F : ExcBaseFacts B newId initId bm) : Ix B initId := ⟨F.init, F.initEntry, F.initSplit, F.initKind, F.initRow, F.noStar⟩
/-- what a built-in exception class is known by: the class N of its __new__, its own __init__, its classes bmB -/
structure Bx (B initId N newId : String) (bmB : List Value) : Prop where
  fb : ∃ initN bmN, ExcBaseFacts N newId initN bmN
  ix : Ix B initId
  sf : StoreFacts B bmB "object.__setattr__" "object"
  ty : typeOf (.type B) = pure (.type "type")
  st : Manifest.isStub B = false
  hi : PySem.W.handedIn (.builtin initId) = true
  cN : bmB.contains (.type N) = true
  cB : bmB.contains (.type B) = true
  nA : bmB.contains (.type "AttributeError") = false
  nN : bmB.contains (.type "NameError") = false
open Builtin Builtin.ObjectAttr PySem.HandSPX
section
variable {M : Model} {A : Around} {E : Value → Shared → Prop} {h : Heap} {g : Array GenState} {d : Drawn} {t : Nat} {os : OsState}
variable {nm q : Str} {C N : Addr} {bs bm bmB : List Value} {hdct : Bool} {sn : List Str} {sub : List Value} {ab : Bool} {col : Option Bool} {dd : Option Addr} {k0 k1 k2 k3 k5 : Option Value} {B BN newId initId : String}
end
section
variable {prog : Program} {w : World} {A : Around} {E : Value → Shared → Prop} {R : Result → Shared → Prop} {h : Heap} {g : Array GenState} {d : Drawn} {t : Nat} {os : OsState}
variable {nm q : Str} {C N : Addr} {bs bm bmB : List Value} {hdct : Bool} {sn : List Str} {sub : List Value} {ab : Bool} {col : Option Bool} {dd : Option Addr} {k0 k1 k2 k3 k5 : Option Value} {B BN newId initId : String}
end
end XF
namespace DG
open PySem PySem.Spec PyProof.Rows L2 XF
/-- an own class over such a one -/
structure Ox (K : PySem.W.Frag) (C : Addr) (B initId BN newId : String) (bmB : List Value) : Prop where
  bx : Bx B initId BN newId bmB
  xi : PySem.W.excInitIn K C bmB newId = true
  xo : PySem.W.excOver K C bmB = true
  hd : PySem.W.hasDictIn K C = true
  sa : PySem.W.findIn K (.ref C) "__setattr__" = some (some (.builtin "object.__setattr__"))
  exC : PySem.W.subIn K (.ref C) (.type "BaseException") = some true
  tyC : PySem.W.typeIn K (.ref C) = some (.type "type")
  kC : PySem.W.keepIn K (.ref C) = true
section
open PySem.W PySem.Calls PySem.HandSPX Builtin Builtin.ObjectAttr
variable {prog : Program} {w : World} {A : Around} {R : Result → Shared → Prop} {hp : Heap} {g : Array GenState} {d : Drawn} {t : Nat} {os : OsState} {B initId BN newId : String} {bmB : List Value}
end
section
variable {X : Cx} {pins : List (Addr × Obj)} {σ : L2.St} {H : Hp} {s : Shared} {a C dx : Addr} {f : Str} {y : V} {u : Value} {Q : Unit → Shared → Prop} {E : Value → Shared → Prop} {A : Around} {B initId BN newId : String} {bmB : List Value}
end
section
variable {X : Cx} {o e : Expr} {es : List Expr} {to te : TE} {ta : TA} {f : Str} {p p' p1 p2 pos : Pos} {B initId BN newId : String} {bmB : List Value} {BS : Str}
end
section
variable {X : Cx} {e : Expr} {es : List Expr} {ta : TA} {p pos : Pos} {B initId BN newId : String} {bmB : List Value}
end
/-! ### the two kinds of such an __init__ -/
/-- self, y: y is kept under the name g -/
def spX1 (K : PySem.W.Frag) (B initId BN newId : String) (bmB : List Value) (g : Str) : Sp := fun vs H Q _ => ∃ (a C : Addr) (v : V), vs = [.ref a, v] ∧ Ox K C B initId BN newId bmB ∧ PySem.W.takerIn K C g = some none ∧ H a = some (exo a C none) ∧
  ∀ dx, H dx = none → dx ≠ a → Q .non (upd (upd H dx (exd dx [(g, v)])) a (exo a C (some dx)))
def spX0 (K : PySem.W.Frag) (B initId BN newId : String) (bmB : List Value) : Sp := fun vs H Q _ => ∃ (a C : Addr), vs = [.ref a] ∧ Ox K C B initId BN newId bmB ∧ H a = some (exo a C none) ∧ Q .non H
section
variable {P : Program} {w : World} {K : PySem.W.Frag} {mg : Str → Option Value} {base : Heap} {B initId BN newId : String} {bmB : List Value} {BS x y g qual : Str} {st : Stmt} {f : Addr} {fd : FuncData}
end
end DG

/-! try / except: what was caught is known from then on. -/
namespace DG
open PySem PySem.Spec PyProof.Rows L2
section
variable {X : Cx} {pins : List (Addr × Obj)} {σ : L2.St} {H : Hp} {s : Shared} {a : Addr} {o : HO}
end
/-- one clause: what its test tells of a class, the name's slot, its suite -/
structure HX where
  mt : Value → Option Bool
  i : Option Nat
  ts : Addr → Value → Option Addr → TS
/-- the test of a clause -/
def TestX (X : Cx) (te : Expr) (mt : Value → Option Bool) : Prop := ∀ (a : Addr) (oe : Obj) (pn : List (Addr × Obj)) (σ : L2.St) (H : Hp) (s : Shared) (Q : Bool → Shared → Prop) (E : Value → Shared → Prop) (b : Bool) (cls : Value), Inv (X.suite a ((a, oe) :: pn)) [] σ H s →
  PySem.W.Looks (model X.prog X.w) s.heap (typeOf (.ref a)) cls → mt cls = some b → (∀ h', s.heap.StaysIn h' → Q b { s with heap := h' }) →
  wpAny (model X.prog X.w) (X.A.mark (some (.ref a))) (eval te X.env) (fun c s₁ => wpAny (model X.prog X.w) (X.A.mark (some (.ref a))) (excMatches (.ref a) c) Q E s₁) E s
section
variable {X : Cx}
theorem Names.suite {x : Str} {c : Value} {a : Addr} {pn : List (Addr × Obj)} (h : Names X x c) : Names (X.suite a pn) x c := h
end
/-- the clauses -/
inductive HdX (X : Cx) : List ExceptHandler → List HX → Prop
  | nil : HdX X [] []
  | only {te : Expr} {mt : Value → Option Bool} {ts : Addr → Value → Option Addr → TS} {b₀ : Stmt} {suite : List Stmt} {pos' : Pos} {hds : List ExceptHandler} {l : List HX} (ht : TestX X te mt)
      (hsu : ∀ (a : Addr) (oe : Obj) (cls : Value) (d : Option Addr) (pn : List (Addr × Obj)), Zc cls d oe → (∃ vs, oe.data = .fields vs) → PSs (X.suite a ((a, oe) :: pn)) (b₀ :: suite) (ts a cls d)) (r : HdX X hds l) :
      HdX X (.ExceptHandler (some te) none (b₀ :: suite) pos' :: hds) (⟨mt, none, ts⟩ :: l)
  | as {te : Expr} {mt : Value → Option Bool} {ts : Addr → Value → Option Addr → TS} {n : Str} {i : Nat} {b₀ : Stmt} {suite : List Stmt} {pos' : Pos} {hds : List ExceptHandler} {l : List HX} (hi : X.N[i]? = some n) (hln : X.env.kindOf n = some .local) (ht : TestX X te mt)
      (hsu : ∀ (a : Addr) (oe : Obj) (cls : Value) (d : Option Addr) (pn : List (Addr × Obj)), Zc cls d oe → (∃ vs, oe.data = .fields vs) → PSs (X.suite a ((a, oe) :: pn)) (b₀ :: suite) (ts a cls d)) (r : HdX X hds l) :
      HdX X (.ExceptHandler (some te) (some n) (b₀ :: suite) pos' :: hds) (⟨mt, some i, ts⟩ :: l)
section
variable {X : Cx} {body : List Stmt} {h₀ : ExceptHandler} {hds : List ExceptHandler} {l : List HX} {pos : Pos} {tb : WX → TS} {Wout : WX}
end
end DG

/-! Data: statements that may raise, defs that may, try. -/
namespace DG
open PySem PySem.Spec PyProof.Rows L2
section
variable {X : Cx} {CX : CXT} {k : Nat} {f C : Addr} {fd : FuncData} {ps : List Str} {sp : Sp} {E : L2.St → XK} {x m : Str} {p pos apos : Pos} {e o : Expr} {es : List Expr} {ta : TE} {t : TA}
end
end DG
namespace DL
open PySem PySem.Spec PyProof.Rows L2
abbrev DX := Nat → Option Addr → DSt → Store → Prop
section
variable [CT] {K : PySem.W.Frag} {I I' F : Hp}
def SeesW (K : PySem.W.Frag) (I F : Hp) (xc : DX) (W : WX) : Prop := ∀ n d ρ S' σ I' H', xc n d ρ S' → Same I I' → Ok K I' S' F H' → RepS K I' ρ σ → W (.ref (CT.at_ n)) d σ H'
theorem SeesW.mono {xc : DX} {W : WX} (h : SeesW K I F xc W) (e : Same I I') : SeesW K I' F xc W := fun n d ρ S' σ I2 H' q e2 => h n d ρ S' σ I2 H' q (e.trans e2)
theorem SeesW.no {W : WX} : SeesW K I F (fun _ _ _ _ => False) W := fun _ _ _ _ _ _ _ h => h.elim
end
section
variable [CT]
variable {X : Cx} {W : WX} {pos : Pos} {st : Stmt} {sts : List Stmt} {t u : DS} {e : Expr} {de : DE} {dc : DT}
/-- the class number n, called x, is made of one thing, kept as g -/
structure Mk1 (P : Program) (w : World) (K : PySem.W.Frag) (mg : Str → Option Value) (base : Heap) (n : Nat) (x g : Str) : Prop where
  m : mg x = some (.ref (CT.at_ n))
  ex : ∃ B initId BN newId bmB f fd y, DG.Ox K (CT.at_ n) B initId BN newId bmB ∧ PySem.W.findIn K (.ref (CT.at_ n)) "__init__" = some (some (.ref f)) ∧ PySem.W.typeIn K (.ref f) = some (.type "function") ∧
    DG.FnG P w K mg base CX0 1 f fd ["self", y] (DG.spX1 K B initId BN newId bmB g) ∧ Binds K fd ["self", y] [] ∧ PySem.W.takerIn K (CT.at_ n) g = some none
structure Mk0 (P : Program) (w : World) (K : PySem.W.Frag) (mg : Str → Option Value) (base : Heap) (n : Nat) (x : Str) : Prop where
  m : mg x = some (.ref (CT.at_ n))
  ex : ∃ B initId BN newId bmB f fd, DG.Ox K (CT.at_ n) B initId BN newId bmB ∧ PySem.W.findIn K (.ref (CT.at_ n)) "__init__" = some (some (.ref f)) ∧ PySem.W.typeIn K (.ref f) = some (.type "function") ∧
    DG.FnG P w K mg base CX0 1 f fd ["self"] (DG.spX0 K B initId BN newId bmB) ∧ Binds K fd ["self"] []
end
/-! ### defs that may raise -/
abbrev DPX := Nat → Option Addr → Store → Prop
abbrev DSpX := List D → Store → (D → Store → Prop) → DPX → Prop
section
variable [CT]
def SeesE (K : PySem.W.Frag) (I F : Hp) (px : DPX) (E : XK) : Prop := ∀ n d S' I' H', px n d S' → Same I I' → Ok K I' S' F H' → E (.ref (CT.at_ n)) d H'
def upSpX (K : PySem.W.Frag) (d : DSpX) : Sp := fun vs H Q E => ∃ ds I S F P px, RepL K I ds vs ∧ Ok K I S F H ∧ d ds S P px ∧ Sees K I F P Q ∧ SeesE K I F px E
abbrev FnX (P : Program) (w : World) (K : PySem.W.Frag) (mg : Str → Option Value) (base : Heap) (k : Nat) (f : Addr) (fd : FuncData) (ps : List Str) (sp : DSpX) : Prop := DG.FnG P w K mg base (L2.CX P w) k f fd ps (upSpX K sp)
/-! ### calls of such -/
abbrev DEX := DSt → Store → (D → Store → Prop) → DPX → Prop
structure DoesX (P : Program) (w : World) (K : PySem.W.Frag) (mg : Str → Option Value) (base : Heap) (k : Nat) (x : Str) (ps : List Str) (f : Addr) (fd : FuncData) (sp : DSpX) : Prop where
  g : mg x = some (.ref f)
  kp : PySem.W.keepIn K (.ref f) = true
  b : Binds K fd ps []
  ok : FnX P w K mg base k f fd ps sp
structure DoesMX (P : Program) (w : World) (K : PySem.W.Frag) (mg : Str → Option Value) (base : Heap) (k : Nat) (c : Nat) (m : Str) (ps : List Str) (f : Addr) (fd : FuncData) (sp : DSpX) : Prop where
  cl : Cls K (CT.at_ c)
  mt : Meth K (CT.at_ c) m f
  b : Binds K fd ps []
  ok : FnX P w K mg base k f fd ps sp
variable {X : Cx} {W : WX} {pos apos p : Pos} {e o a : Expr} {es : List Expr} {da : DE} {ds : DA} {k j c : Nat} {x m : Str} {ps : List Str} {f : Addr} {fd : FuncData} {sp : DSpX} {de : DEX}
/-! ### try -/
/-- a clause: the classes it takes, its name's slot, its suite by the exception's place and its dict's -/
structure HD where
  ms : List Nat
  i : Option Nat
  su : Addr → Option Addr → DS
inductive HdD (X : Cx) (ns : List Nat) : List ExceptHandler → List HD → Prop
  | nil : HdD X ns [] []
  | only {te : Expr} {mt : Value → Option Bool} {ms : List Nat} {su : DS} {b₀ : Stmt} {suite : List Stmt} {pos' : Pos} {hds : List ExceptHandler} {l : List HD} (ht : DG.TestX X te mt) (hm : ∀ n, n ∈ ns → mt (.ref (CT.at_ n)) = some (decide (n ∈ ms)))
      (hsu : ∀ (a : Addr) (oe : Obj) (pn : List (Addr × Obj)), JSs (X.suite a ((a, oe) :: pn)) (b₀ :: suite) su) (r : HdD X ns hds l) :
      HdD X ns (.ExceptHandler (some te) none (b₀ :: suite) pos' :: hds) (⟨ms, none, fun _ _ => su⟩ :: l)
  | as {te : Expr} {mt : Value → Option Bool} {ms : List Nat} {su : Addr → Option Addr → DS} {nm : Str} {i : Nat} {b₀ : Stmt} {suite : List Stmt} {pos' : Pos} {hds : List ExceptHandler} {l : List HD} (hi : X.N[i]? = some nm) (hln : X.env.kindOf nm = some .local)
      (ht : DG.TestX X te mt) (hm : ∀ n, n ∈ ns → mt (.ref (CT.at_ n)) = some (decide (n ∈ ms)))
      (hsu : ∀ (a : Addr) (oe : Obj) (n : Nat) (d : Option Addr) (pn : List (Addr × Obj)), n ∈ ns → Zc (.ref (CT.at_ n)) d oe → (∃ vs, oe.data = .fields vs) → JSs (X.suite a ((a, oe) :: pn)) (b₀ :: suite) (su a d)) (r : HdD X ns hds l) :
      HdD X ns (.ExceptHandler (some te) (some nm) (b₀ :: suite) pos' :: hds) (⟨ms, some i, su⟩ :: l)
end
end DL

/-! What is asked of caught errors: their fields, isinstance. -/
namespace DL
open PySem PySem.Spec PyProof.Rows L2
/-- what the written part says of an own exception class -/
structure XkC (K : PySem.W.Frag) (C : Addr) : Prop where
  f : XfC K C
  cl : (PySem.W.clsIn K C).isSome = true
  ha : PySem.W.findIn K (.ref C) "__class__" = some (some (.builtin "object.__class__"))
  hn : PySem.W.specialIn K (.builtin "object.__class__") "__get__" = some (some (.builtin "getset_descriptor.__get__"))
  ht : PySem.W.takesIn K (.builtin "object.__class__") = some true
  hm : PySem.W.mroIn K C (.type "object") = some true
section
variable [CT] {X : Cx}
structure IxC (K : PySem.W.Frag) (u : Value) (tab : List (Nat × Bool)) : Prop where
  n : PySem.W.kitOne K (.type "NoneType") u = some false
  t : ∀ n b, tab.lookup n = some b → PySem.W.kitOne K (.ref (CT.at_ n)) u = some b ∧ XkC K (CT.at_ n)
end
section
variable [CT] {K : PySem.W.Frag} {u : Value} {tab : List (Nat × Bool)}
end
end DL


/-! Sets of keys: set comprehensions, set(list of texts), how many there are. -/
namespace L2
open PySem PySem.Spec PyProof.Rows PpSet
section
variable {κ : Type} [DecidableEq κ] {l : List κ} {k z : κ}
end
/-! ### set(list of texts) -/
section
variable {prog : Program} {w : World} {A : Around} {Rs : Result → Shared → Prop} {it : Addr} {fq fw : List Addr} {Gs : Array GenState → Array GenState → Prop} {n : Nat} {P : Nat → Value → Prop} {Sts : Nat → Shared → Prop}
end
section
variable {prog : Program} {w : World} {A : Around} {E0 : Value → Shared → Prop} {s : Shared}
set_option maxHeartbeats 8000000 in
end
section
variable {X : Cx}
end
section
variable {X : Cx}
end
end L2

namespace DL
open PySem PySem.Spec PyProof.Rows L2
section
variable {X : Cx} {pos p p2 q : Pos} {a : Expr} {da : DE}
end
section
variable {X : Cx} {K : PySem.W.Frag} {a o : Expr} {pos p apos ip : Pos} {ds : DA} {da db d : DE}
open Classical in
end
end DL

/-! isinstance of a caught one by several own classes at once. -/
namespace DL
open PySem PySem.Spec PyProof.Rows L2
section
variable [CT] {X : Cx}
end
end DL

/-! len(o) of an own instance; a new list that may change or not; sorted(..) as a list that changes. -/
namespace DL
open PySem PySem.Spec PyProof.Rows L2
section
variable {prog : Program} {w : World} {A : Around} {E : Value → Shared → Prop} {s : Shared} {K : PySem.W.Frag} {x C f : Addr} {ox : Obj} {od : Option Obj}
end
section
variable [CT] {X : Cx}
def dLenO (c : Nat) (sp : DSp) (a : DE) : DE := fun ρ S P => a ρ S fun x S1 => ∃ p fs, x = .obj p ∧ S1 p = some (.ins (CT.at_ c) fs) ∧ sp [.obj p] S1 fun y S2 => ∃ i : Int, y = .int i ∧ 0 ≤ i ∧ i < 2 ^ 63 ∧ P (.int i) S2
end
section
variable {X : Cx} {K : PySem.W.Frag} {a e : Expr} {pos p : Pos} {ds : DA} {d : DE}
/-- z[lo:hi] of a text -/
def dSlT (d : DE) (lo hi : DO) : DE := fun ρ S P => d ρ S fun x S1 => lo ρ S1 fun l S2 => hi ρ S2 fun u S3 => match x with
  | .str z => z.length ≤ 100000 ∧ P (.str (cutS z l u)) S3
  | _ => False
end
end DL

/-! try: suite / finally: suite, where nothing raises. -/
namespace DL
open PySem PySem.Spec PyProof.Rows L2
/-! ### == and != of own instances -/
section
open PySem.W
variable {prog : Program} {w : World} {A : Around} {E : Value → Shared → Prop} {s : Shared} {K : PySem.W.Frag} {x C f L : Addr} {h₀ : Heap} {m : Str → Option Value} {ox : Obj} {od : Option Obj}
end
section
variable [CT] {X : Cx}
variable {pos : Pos} {a b : Expr} {da db : DE} {c k j : Nat} {ps : List Str} {f : Addr} {fd : FuncData} {sp : DSp}
end
/-! ### isinstance(o, C), of the class C itself -/
structure IsiC (K : PySem.W.Frag) (C : Addr) : Prop where
  ha : PySem.W.findIn K (.ref C) "__class__" = some (some (.builtin "object.__class__"))
  hn : PySem.W.specialIn K (.builtin "object.__class__") "__get__" = some (some (.builtin "getset_descriptor.__get__"))
  ht : PySem.W.takesIn K (.builtin "object.__class__") = some true
  hm : PySem.W.mroIn K C (.type "object") = some true
section
variable [CT] {X : Cx}
end
end DL

/-! sorted(..) of texts, alike ones too. -/
namespace DL
open PySem PySem.Spec PyProof.Rows L2
section
variable {X : Cx} {K : PySem.W.Frag} {a e : Expr} {pos p : Pos} {ds : DA} {d : DE}
end
/-! ### o.m(k = v, ..) -/
section
variable [CT] {X : Cx} {o : Expr} {c : Nat} {m : Str} {pos apos : Pos} {da : DE} {dk : DA} {k j : Nat} {ps ks : List Str} {f : Addr} {fd : FuncData} {sp : DSp} {perm : List Nat} {kws : List Keyword}
end
end DL

/-! A text, walked sign by sign. -/
namespace DL
open PySem PySem.Spec PyProof.Rows L2
section
variable {X : Cx} {K : PySem.W.Frag} {tg a e : Expr} {pos p : Pos} {da : DE}
end
end DL

/-! sorted(d, reverse=b) of a dict of few texts: its keys in some order. -/
namespace DL
open PySem PySem.Spec PyProof.Rows L2
section
variable {X : Cx}
end
section
variable [CT] {X : Cx}
variable {pos : Pos} {a b : Expr} {da db : DE} {c k j : Nat} {ps : List Str} {f : Addr} {fd : FuncData} {sp : DSp}
end
end DL

/-! list(d.items()); x or y of numbers and None. -/
namespace DL
open PySem PySem.Spec PyProof.Rows L2
section
variable {X : Cx} {K : PySem.W.Frag} {a b e o : Expr} {rest : List Expr} {pos p apos ip : Pos} {da db d : DE}
open Classical in
end
end DL

/-! d | e of dicts. -/
namespace DL
open PySem PySem.Spec PyProof.Rows L2
section
variable {prog : Program} {w : World} {K : Type} [DecidableEq K]
end
section
variable {X : Cx} {K : PySem.W.Frag}
variable {a b : Expr} {pos : Pos} {da db : DE}
end
end DL

/-! d |= e of dicts. -/
namespace DL
open PySem PySem.Spec PyProof.Rows L2
section
variable {prog : Program} {w : World} {K : Type} [DecidableEq K]
end
section
variable {X : Cx} {K : PySem.W.Frag}
variable {e : Expr} {pos : Pos} {de : DE}
end
end DL

/-! tuple * int, 0 and 1 too. -/
namespace L2
open PySem PySem.Spec PyProof.Rows
section
variable {X : Cx}
end
end L2
namespace DL
open PySem PySem.Spec PyProof.Rows L2
section
variable {X : Cx} {pos : Pos} {a b : Expr} {da db : DE}
end
end DL

/-! text > text -/
namespace DL
open PySem PySem.Spec PyProof.Rows L2
section
variable {X : Cx} {pos : Pos} {a b : Expr} {da db : DE}
end
end DL

/-! Dicts whose keys are tuples made in the run. -/
namespace DL
open PySem PySem.Spec PyProof.Rows L2
/-! ### tuples made in the run -/
theorem rep_new_tq {K : PySem.W.Frag} {I : Hp} {p : Addr} {xs : List V} {ds : List D} (n : I p = none) (r : RepL K I ds xs) : Rep K (upd I p (.tup xs)) (.tq ds) (.ref p) := by
  simp only [Rep]
  exact ⟨p, xs, rfl, upd_same, r.mono (same_new n)⟩
mutual
def weakD : D → D
  | .tq ds => .tup (weakL ds)
  | .tup ds => .tup (weakL ds)
  | x => x
def weakL : List D → List D
  | [] => []
  | d :: ds => weakD d :: weakL ds
end
theorem weakD_int (i : Int) : weakD (.int i) = .int i := by unfold weakD; rfl
theorem weakD_str (i : Str) : weakD (.str i) = .str i := by unfold weakD; rfl
theorem weakD_non : weakD .non = .non := by unfold weakD; rfl
theorem weakD_bl (b : Bool) : weakD (.bl b) = .bl b := by unfold weakD; rfl
theorem weakD_obj (b : Addr) : weakD (.obj b) = .obj b := by unfold weakD; rfl
theorem weakD_lst (b : List D) : weakD (.lst b) = .lst b := by unfold weakD; rfl
theorem weakD_tq (ds : List D) : weakD (.tq ds) = .tup (weakL ds) := by rw [weakD]
theorem weakD_tup (ds : List D) : weakD (.tup ds) = .tup (weakL ds) := by rw [weakD]
theorem weakL_nil : weakL [] = [] := by rw [weakL]
theorem weakL_cons (d : D) (ds : List D) : weakL (d :: ds) = weakD d :: weakL ds := by rw [weakL]
theorem weakL_map {α : Type} {f : α → D} (h : ∀ a, weakD (f a) = f a) : ∀ l : List α, weakL (l.map f) = l.map f
  | [] => weakL_nil
  | a :: l => by rw [List.map_cons, weakL_cons, h, weakL_map h l]
theorem weakL_ints (l : List Int) : weakL (l.map .int) = l.map .int := weakL_map weakD_int l
mutual
theorem rep_weakD {K : PySem.W.Frag} {I : Hp} : ∀ (x : D) (v : V), Rep K I x v → Rep K I (weakD x) v
  | .tq ds, v, r => by
    obtain ⟨a, xs, rfl, h, rl⟩ := r.tq_of
    rw [weakD_tq]
    simp only [Rep]
    exact ⟨a, xs, rfl, .inl h, rep_weakL ds xs rl⟩
  | .tup ds, v, r => by
    obtain ⟨a, xs, rfl, h, rl⟩ := r.tup_of
    rw [weakD_tup]
    simp only [Rep]
    exact ⟨a, xs, rfl, h, rep_weakL ds xs rl⟩
  | .non, v, r => by rw [weakD_non]; exact r
  | .bl _, v, r => by rw [weakD_bl]; exact r
  | .int _, v, r => by rw [weakD_int]; exact r
  | .str _, v, r => by rw [weakD_str]; exact r
  | .obj _, v, r => by rw [weakD_obj]; exact r
  | .lst _, v, r => by rw [weakD_lst]; exact r
  | .ty _, v, r => by unfold weakD; exact r
  | .ext _, v, r => by unfold weakD; exact r
theorem rep_weakL {K : PySem.W.Frag} {I : Hp} : ∀ (ds : List D) (vs : List V), RepL K I ds vs → RepL K I (weakL ds) vs
  | [], vs, r => by rw [weakL_nil]; exact r
  | d :: ds, vs, r => by
    simp only [RepL] at r
    obtain ⟨v, w, rfl, h1, h2⟩ := r
    rw [weakL_cons]
    simp only [RepL]
    exact ⟨v, w, rfl, rep_weakD d v h1, rep_weakL ds w h2⟩
end
/-- a tuple, wherever it came from -/
def dWk (d : DE) : DE := fun ρ S P => d ρ S fun x S1 => P (weakD x) S1
def dTupQ (a : DA) : DE := fun ρ S P => a ρ S fun xs S1 => xs.length ≤ 100000 ∧ P (.tq xs) S1
/-- tuple(a list) -/
def cTupleQ : DC := fun xs S P => match xs with
  | [x] => match lstOf S x with
    | some ds => P (.tq ds) S
    | none => False
  | _ => False
section
variable {X : Cx} {pos : Pos} {e : Expr} {d : DE} {es : List Expr} {ds : DA}
theorem je_wk (h : JE X e d) : JE X e (dWk d) := je_of h fun σ H Q h0_ => El54 h0_ fun ρ I S F P rs ok hd q => ⟨ρ, I, S, F, _, rs, ok, hd, fun x S1 v I1 H1 h1 e1 ok1 r1 => q _ _ _ _ _ h1 e1 ok1 (rep_weakD _ _ r1)⟩
theorem i_tupleQ {K : PySem.W.Frag} : ImpC K (fun xs H Q => ∃ p ys, xs = [.ref p] ∧ ((SqL K H p ys ∧ ∀ l, H l = none → Q (.ref l) (upd H l (.tup ys))) ∨ (SqT K H p ys ∧ Q (.ref p) H))) cTupleQ := by
  intro xs vs I S F H P Q ok r h q
  unfold cTupleQ at h
  split at h
  · rename_i x
    split at h
    · rename_i ds e
      obtain ⟨v, rfl, rv⟩ := r.inv1
      obtain ⟨a, xs, rfl, hs, rl⟩ := lst_sq ok rv e
      exact ⟨a, xs, rfl, .inl ⟨hs, fun l hl => q _ _ _ _ _ h (same_new (ok.freshI hl)) (ok.newI hl) (rep_new_tq (ok.freshI hl) rl)⟩⟩
    · exact h.elim
  · exact h.elim
end
/-! ### keys -/
def tkOf : D → Option (List Key)
  | .tq ds => keysOf ds
  | _ => none
section
variable {K : PySem.W.Frag} {I I' F H : Hp} {S : Store}
theorem tk_rep {x : D} {v : V} {k : List Key} (r : Rep K I x v) (h : tkOf x = some k) : ∃ b, v = .ref b ∧ I b = some (.tup (k.map kV)) := by
  cases x with
  | tq ds =>
    obtain ⟨a, xs, rfl, hs, rl⟩ := r.tq_of
    exact ⟨a, rfl, by rw [hs, keysOf_rep rl h]⟩
  | _ => simp [tkOf] at h
def tctOf (S : Store) : D → Option (List (List Key × D))
  | .obj a => match S a with
    | some (.dT kvs) => some kvs
    | some (.dU _ _ kvs) => some kvs
    | _ => none
  | _ => none
theorem tct_dU {S : Store} {a : Addr} {o : Obj} {vs : List (List Key × V)} {kvs : List (List Key × D)} (h : S a = some (.dU o vs kvs)) : tctOf S (.obj a) = some kvs := by simp only [tctOf, h]
theorem tct_rd (ok : Ok K I S F H) {x : D} {v : V} {kvs : List (List Key × D)} (r : Rep K I x v) (h : tctOf S x = some kvs) : ∃ a vs, v = .ref a ∧ Rd H a (.dT vs) ∧ RepF K I kvs vs := by
  cases x with
  | obj a =>
    unfold tctOf at h
    cases e : S a with
    | none => simp [e] at h
    | some m =>
      cases m with
      | dT es =>
        simp [e] at h; subst h
        obtain ⟨_, vs, q, rf⟩ := ok.s a _ e
        exact ⟨a, vs, r.obj_of, .inl q, rf⟩
      | dU o ws es =>
        simp [e] at h; subst h
        obtain ⟨_, q, rf⟩ := ok.s a _ e
        exact ⟨a, ws, r.obj_of, .inr ⟨o, q⟩, rf⟩
      | _ => simp [e] at h
  | _ => simp [tctOf] at h
theorem Ok.dtAt (ok : Ok K I S F H) {a : Addr} {kvs : List (List Key × D)} (e : S a = some (.dT kvs)) : ∃ vs, H a = some (.dT vs) ∧ RepF K I kvs vs := (ok.s a _ e).2
theorem Ok.writeT (ok : Ok K I S F H) {a : Addr} {m : MO} {vs vs0 : List (List Key × V)} {kvs : List (List Key × D)} (e : S a = some m) (hh : H a = some (.dT vs0)) (r : RepF K I kvs vs) : Ok K I (supd S a (.dT kvs)) F (upd H a (.dT vs)) :=
  ok.write e (fun y z => by rw [hh] at z; cases z) ⟨vs, upd_same, r⟩
theorem Ok.newT (h : Ok K I S F H) {p : Addr} {vs : List (List Key × V)} {kvs : List (List Key × D)} (n : H p = none) (r : RepF K I kvs vs) : Ok K I (supd S p (.dT kvs)) F (upd H p (.dT vs)) := by
  refine ⟨fun a x e => ?_, fun a m e => ?_, fun a x e => ?_⟩
  · rw [upd_ne (ne_of_none (h.i a x e) n)]; exact h.i a x e
  · unfold supd at e
    by_cases q : a = p
    · subst q
      rw [if_pos rfl] at e; cases e
      exact ⟨h.freshI n, vs, upd_same, r⟩
    · rw [if_neg q] at e
      obtain ⟨h1, h2⟩ := h.s a m e
      refine ⟨h1, h2.mono (Same.refl I) (upd_ne q) fun dx q => ?_⟩
      rw [upd_ne (ne_of_none q n)]; exact q
  · obtain ⟨h1, h2, h3, h4⟩ := h.f a x e
    have ne : a ≠ p := ne_of_none h1 n
    exact ⟨by rw [upd_ne ne]; exact h1, h2, by unfold supd; rw [if_neg ne]; exact h3, h4⟩
/-- a tuple of the heap, known as data -/
theorem Ok.adopt (h : Ok K I S F H) {q : Addr} {xs : List V} (e : H q = some (.tup xs)) : ∃ I', Same I I' ∧ I' q = some (.tup xs) ∧ Ok K I' S F H := by
  cases c : I q with
  | some o =>
    have := h.i q o c
    rw [e] at this; cases this
    exact ⟨I, Same.refl I, c, h⟩
  | none =>
    refine ⟨upd I q (.tup xs), same_new c, upd_same, fun a x ea => ?_, fun a m ea => ?_, fun a x ea => ?_⟩
    · by_cases z : a = q
      · subst z
        rw [L2.upd_same] at ea; cases ea
        exact e
      · rw [upd_ne z] at ea; exact h.i a x ea
    · obtain ⟨h1, h2⟩ := h.s a m ea
      have ne : a ≠ q := by
        intro z; subst z
        cases m with
        | lst ds => obtain ⟨ys, hy, _⟩ := h2; rw [e] at hy; cases hy
        | ins C fs => obtain ⟨dx, vs, hy, _⟩ := h2; rw [e] at hy; cases hy
        | dK kvs => obtain ⟨ys, hy, _⟩ := h2; rw [e] at hy; cases hy
        | dZ o vs kvs => obtain ⟨hy, _⟩ := h2; rw [e] at hy; cases hy
        | dT kvs => obtain ⟨ys, hy, _⟩ := h2; rw [e] at hy; cases hy
        | dU o vs kvs => obtain ⟨hy, _⟩ := h2; rw [e] at hy; cases hy
        | exc C d => have hy := h2; simp only [RepM] at hy; rw [e] at hy; cases hy
        | xdD fs => obtain ⟨ys, hy, _⟩ := h2; rw [e] at hy; cases hy
        | tab z => obtain ⟨ys, hy, _⟩ := h2; rw [e] at hy; cases hy
      exact ⟨by rw [upd_ne ne]; exact h1, h2.mono (same_new c) rfl fun dx q => q⟩
    · obtain ⟨h1, h2, h3, h4⟩ := h.f a x ea
      have ne : a ≠ q := by
        intro z; subst z
        rw [e] at h1; cases h1
        exact h4.2 _ rfl
      exact ⟨h1, by rw [upd_ne ne]; exact h2, h3, h4⟩
end
/-! ### d[k], k in d, d[k] = x -/
def dTGet : D2 := fun x y S P => match tctOf S x, tkOf y with
  | some kvs, some k => (match dVal kvs k with
    | some d => P d S
    | none => False)
  | _, _ => False
def dTIn (neg : Bool) : D2 := fun y x S P => match tctOf S x, tkOf y with
  | some kvs, some k => P (.bl (if neg then !(dVal kvs k).isSome else (dVal kvs k).isSome)) S
  | _, _ => False
def dTPut (dd dk dv : DE) : DS := fun DD ρ S => dv ρ S fun z S1 => dd ρ S1 fun x S2 => dk ρ S2 fun y S3 => ∃ a kvs k, x = .obj a ∧ S3 a = some (.dT kvs) ∧ tkOf y = some k ∧ kvs.length < 100000 ∧ DD.nx ρ (supd S3 a (.dT (dPut kvs k z)))
theorem getT_of {K : PySem.W.Frag} {I F H : Hp} {S : Store} {x y : D} {v w : V} {kvs : List (List Key × D)} {k : List Key} (ok : Ok K I S F H) (r1 : Rep K I x v) (r2 : Rep K I y w) (h3 : tctOf S x = some kvs) (h4 : tkOf y = some k) :
    ∃ a o, v = .ref a ∧ DGet H a w o ∧ (∀ d, dVal kvs k = some d → ∃ u, o = some u ∧ Rep K I d u) ∧ (dVal kvs k = none → o = none) ∧ o.isSome = (dVal kvs k).isSome := by
  obtain ⟨a, vs, rfl, hd, rf⟩ := tct_rd ok r1 h3
  obtain ⟨b, rfl, hb⟩ := tk_rep r2 h4
  have z := rf.valK (k := k)
  refine ⟨a, valV vs k, rfl, .inr ⟨vs, k, b, hd, rfl, ok.i _ _ hb, rfl⟩, z.1, z.2, ?_⟩
  cases e : dVal kvs k with
  | none => rw [z.2 e]; rfl
  | some d => obtain ⟨u, hu, _⟩ := z.1 d e; rw [hu]; rfl
section
variable {X : Cx} {pos pos' apos cpos : Pos} {o i e f value : Expr} {dd dk dv dx : DE} {n : Nat}
theorem je_tget (hr : DG.RoomG n X.A) (ho : JE X o dd) (hi : JE X i dk) (hs : NoSl i := by first | exact fun _ _ => rfl | (intro _ _; rfl)) : JE X (.Subscript o i pos) (dOp dTGet dd dk) :=
  je_of (pe_dget (by have := hr.r.un; omega) ho hi hs) fun σ H Q h0_ => El54 h0_ fun ρ I S F P rs ok h q => ⟨ρ, I, S, F, _, rs, ok, h, fun x S1 v I1 H1 h1 e1 ok1 r1 => ⟨ρ, I1, S1, F, _, rs.mono e1, ok1, h1, fun y S2 w I2 H2 h2 e2 ok2 r2 => by
    unfold dTGet at h2
    split at h2
    · rename_i kvs k h3 h4
      obtain ⟨a, ov, rfl, g, z1, _, _⟩ := getT_of ok2 (r1.mono e2) r2 h3 h4
      split at h2
      · rename_i d h5
        obtain ⟨u, rfl, ru⟩ := z1 d h5
        exact ⟨a, u, rfl, g, q _ _ _ _ _ h2 (e1.trans e2) ok2 ru⟩
      · exact h2.elim
    · exact h2.elim⟩⟩
theorem js_tput (hr : DG.RoomG n X.A) (ho : JE X o dd) (hi : JE X i dk) (hv : JE X value dv) (hs : swapsWith value (some (.Subscript o i pos')) pos.line X.env = pure false := by rfl) : JS X (.Assign [.Subscript o i pos'] value pos) (dTPut dd dk dv) :=
  js_of (ps_dput (by have := hr.r.un; omega) ho hi hv hs) fun D σ H h0_ => El54 h0_ fun ρ I S F DD rs ok h q => ⟨ρ, I, S, F, _, rs, ok, h, fun z S1 zv I1 H1 h1 e1 ok1 r1 => ⟨ρ, I1, S1, F, _, rs.mono e1, ok1, h1, fun x S2 v I2 H2 h2 e2 ok2 r2 =>
    ⟨ρ, I2, S2, F, _, rs.mono (e1.trans e2), ok2, h2, fun y S3 w I3 H3 ⟨a, kvs, k, ex, es, ek, hl, h3⟩ e3 ok3 r3 => by
      subst ex
      obtain ⟨vs, hh, rf⟩ := ok3.dtAt es
      obtain ⟨b, rfl, hb⟩ := tk_rep r3 ek
      have hl2 : vs.length < sizeLine := by rw [rf.lenK]; exact Nat.lt_of_lt_of_le hl (by decide)
      exact ⟨a, upd H3 a (.dT (L2.putK vs k zv)), (r2.mono e3).obj_of, DPut.t hh (ok3.i _ _ hb) hl2, q.nx _ _ _ _ _ h3 ((e1.trans e2).trans e3) (ok3.writeT es hh (rf.putK ((r1.mono e2).mono e3))) (rs.mono ((e1.trans e2).trans e3))⟩⟩⟩⟩
end
/-! ### {}, {k: v}, len(d), list(d) -/
def dTNew : DE := fun _ S P => ∀ p, S p = none → P (.obj p) (supd S p (.dT []))
def dTOne (dk dv : DE) : DE := fun ρ S P => dk ρ S fun x S1 => dv ρ S1 fun y S2 => ∃ k, tkOf x = some k ∧ ∀ p, S2 p = none → P (.obj p) (supd S2 p (.dT [(k, y)]))
section
variable {X : Cx} {pos : Pos} {ke ve : Expr} {dk dv : DE} {n : Nat}
theorem je_tnew : JE X (.Dict [] [] pos) dTNew := je_of pe_dnewT fun σ H Q h0_ => El54 h0_ fun ρ I S F P rs ok h q => fun p hp =>
  q _ _ _ _ _ (h p (ok.freshS hp)) (Same.refl I) (ok.newT hp RepF.nilK) (by simp only [Rep])
end
/-! ### a dict that is only read from here on -/
def tFrzT (t : TE) : TE := fun σ H Q => t σ H fun x H1 => ∃ a, x = .ref a ∧ ((∃ kvs, H1 a = some (.dT kvs) ∧ ∀ o, Q x (upd H1 a (.frz o (.dT kvs)))) ∨ Q x H1)
theorem pe_frzT {X : Cx} {e : Expr} {t : TE} (h : PE X e t) : PE X e (tFrzT t) := ⟨fun pins s σ H Q I hw => thn (h.run pins s σ H _ I hw) fun u s1 ⟨x, H1, I1, rx, a, ex, q⟩ => by
  rcases q with ⟨kvs, ha, q⟩ | q
  · obtain ⟨od, I2⟩ := I1.lock ha True.intro
    exact ⟨x, _, I2, rx, q od⟩
  · exact ⟨x, _, I1, rx, q⟩⟩
def dFrzT (d : DE) : DE := fun ρ S P => d ρ S fun x S1 => ∃ a kvs, x = .obj a ∧ ((S1 a = some (.dT kvs) ∧ ∀ o vs, P (.obj a) (supd S1 a (.dU o vs kvs))) ∨ ((∃ o vs, S1 a = some (.dU o vs kvs)) ∧ P (.obj a) S1))
/-- its keys, its pairs -/
def tkD (k : List Key) : D := .tq (k.map kD)
def dTKeys (d : DE) : DI := fun ρ S P => d ρ S fun x S1 => ∃ a o vs kvs, x = .obj a ∧ S1 a = some (.dU o vs kvs) ∧ P (kvs.map fun kv => tkD kv.1) (some fun S => S a = some (.dU o vs kvs)) S1
def dTItems (d : DE) : DI := fun ρ S P => d ρ S fun x S1 => ∃ a o vs kvs, x = .obj a ∧ S1 a = some (.dU o vs kvs) ∧ P (kvs.map fun kv => .tup [tkD kv.1, kv.2]) (some fun S => S a = some (.dU o vs kvs)) S1
theorem repL_kD {K : PySem.W.Frag} {I : Hp} : ∀ k : List Key, RepL K I (k.map kD) (k.map kV)
  | [] => RepL.nil
  | k :: r => RepL.cons (kD_rep k) (repL_kD r)
section
variable {P : Program} {w : World} {K : PySem.W.Frag} {d : Addr} {o : Obj} {es : Array DictEntry} {ep : Nat}
end
section
variable {X : Cx} {tg e : Expr} {td : TE} {apos cpos : Pos}
end
section
variable {X : Cx} {tg e : Expr} {d : DE} {apos cpos : Pos}
theorem je_frzT (h : JE X e d) : JE X e (dFrzT d) := je_of (pe_frzT h) fun σ H Q h0_ => El54 h0_ fun ρ I S F P rs ok hd q => ⟨ρ, I, S, F, _, rs, ok, hd, fun x S1 v I1 H1 ⟨a, kvs, ex, h1⟩ e1 ok1 r1 => by
  subst ex
  refine ⟨a, r1.obj_of, ?_⟩
  rcases h1 with ⟨es, h1⟩ | ⟨_, h1⟩
  · obtain ⟨vs, hh, rf⟩ := ok1.dtAt es
    refine .inl ⟨vs, hh, fun o => ?_⟩
    have ok2 : Ok X.K I1 (supd S1 a (.dU o vs kvs)) F (upd H1 a (.frz o (.dT vs))) := ok1.write es (fun y z => by rw [hh] at z; cases z) ⟨upd_same, rf⟩
    exact q _ _ _ _ _ (h1 o vs) e1 ok2 (by simp only [Rep]; exact r1.obj_of)
  · exact .inr (q _ _ _ _ _ h1 e1 ok1 r1)⟩
theorem ji_keysT (he : JE X e d) : JI X tg e (dTKeys d) := ji_of (pi_keys he) fun σ H R h0_ => El54 h0_ fun ρ I S F P rs ok h q => ⟨ρ, I, S, F, _, rs, ok, h, fun x S1 v I1 H1 ⟨a, o, vs, kvs, ex, es, h1⟩ e1 ok1 r1 => by
  subst ex
  obtain ⟨_, hh, rf⟩ := ok1.s a _ es
  refine ⟨a, o, r1.obj_of, .inr ⟨vs, hh, q _ _ _ _ _ _ h1 e1 ok1 ⟨fun I2 S2 F2 H2 e2 ok2 pk i d hd => ?_, fun I2 S2 F2 H2 e2 ok2 pk i hi => ?_⟩⟩⟩
  · obtain ⟨_, hh2, rf2⟩ := ok2.s a _ (show S2 a = _ from pk)
    rw [List.getElem?_map] at hd
    cases e3 : kvs[i]? with
    | none => rw [e3] at hd; cases hd
    | some p =>
      rw [e3] at hd
      cases hd
      obtain ⟨u, hu, _⟩ := rf2.getK e3
      refine ⟨⟨hh2, by rw [List.getElem?_eq_some_iff] at hu; exact hu.1⟩, fun y H3 hy => ?_⟩
      obtain ⟨rfl, k, w, b, hk, rfl, hb⟩ := hy
      rw [hu] at hk
      cases hk
      obtain ⟨I3, e3, hb3, ok3⟩ := ok2.adopt hb
      refine ⟨I3, e3, ok3, ?_⟩
      unfold tkD
      simp only [Rep]
      exact ⟨b, _, rfl, hb3, repL_kD _⟩
  · obtain ⟨_, hh2, rf2⟩ := ok2.s a _ (show S2 a = _ from pk)
    refine ⟨hh2, ?_⟩
    rw [rf2.lenK]
    rw [List.length_map] at hi
    omega⟩
end
/-- len(d) -/
def cLenT : DC := fun xs S P => match xs with
  | [.obj a] => match S a with
    | some (.dT kvs) => P (.int kvs.length) S
    | _ => False
  | _ => False
/-- list(d): its keys -/
def cListT : DC := fun xs S P => match xs with
  | [x] => match tctOf S x with
    | some kvs => P (.lst (kvs.map fun kv => tkD kv.1)) S
    | none => False
  | _ => False
theorem Ok.adopts {K : PySem.W.Frag} {I F H : Hp} {S : Store} (h : Ok K I S F H) : ∀ {kvs : List (List Key × V)} {bs : List Addr}, Paired (fun (p : List Key × V) b => H b = some (.tup (p.1.map kV))) kvs bs → ∃ I', Same I I' ∧ Ok K I' S F H ∧ RepL K I' (kvs.map fun kv => tkD kv.1) (bs.map V.ref)
  | _, _, .nil => ⟨I, Same.refl I, h, RepL.nil⟩
  | _, _, .cons hb t => by
    obtain ⟨I1, e1, ok1, r1⟩ := Ok.adopts h t
    obtain ⟨I2, e2, hb2, ok2⟩ := ok1.adopt hb
    refine ⟨I2, e1.trans e2, ok2, RepL.cons ?_ (r1.mono e2)⟩
    unfold tkD
    simp only [Rep]
    exact ⟨_, _, rfl, hb2, repL_kD _⟩
theorem i_listT {K : PySem.W.Frag} : ImpC K (fun xs H Q => ∃ d kvs, xs = [V.ref d] ∧ Rd H d (.dT kvs) ∧ ∀ p bs, H p = none → IsKeys H kvs bs → Q (.ref p) (upd H p (.lst (bs.map V.ref)))) cListT := by
  intro xs vs I S F H P Q ok r h q
  unfold cListT at h
  split at h
  · split at h
    · rename_i x _ kvs e
      obtain ⟨v, rfl, rv⟩ := r.inv1
      obtain ⟨a, ws, rfl, hd, rf⟩ := tct_rd ok rv e
      refine ⟨a, ws, rfl, hd, fun p bs hp hk => ?_⟩
      obtain ⟨I1, e1, ok1, r1⟩ := ok.adopts hk
      have ek : (kvs.map fun kv => tkD kv.1) = ws.map fun kv => tkD kv.1 := by
        have := congrArg (List.map tkD) rf.keysK
        rw [List.map_map, List.map_map] at this
        exact this.symm
      rw [ek] at h
      exact q _ _ _ _ _ h (e1.trans (same_new (ok1.freshI hp))) (ok1.newI hp) (rep_new_lst (ok1.freshI hp) r1)
    · exact h.elim
  · exact h.elim
section
variable {X : Cx} {a : Expr} {p pos : Pos} {ds : DA}
theorem je_listT (hm : X.mg "list" = none) (hc : X.calm = true) (ha : JA X [a] ds) (hg : Gl X "list" := by rfl) (hs : starEach [a] X.env = [(false, eval a X.env)] := by rfl) : JE X (.Call (.Name "list" p) [a] [] pos) (dCB cListT ds) := je_callTy (call_list_dT hc) i_listT hg hm b_list ha (hs := hs) (hpl := by rfl)
theorem je_tupCQ (hm : X.mg "tuple" = none) (ha : JA X [a] ds) (hg : Gl X "tuple" := by rfl) (hs : starEach [a] X.env = [(false, eval a X.env)] := by rfl) : JE X (.Call (.Name "tuple" p) [a] [] pos) (dCB cTupleQ ds) := je_callTy call_tuple_of i_tupleQ hg hm b_tuple ha (hs := hs) (hpl := by rfl)
end
end DL

/-! fractions as data, their sizes -/
namespace Lb
open PySem PySem.Spec PyProof.Rows L2 DL

theorem supd_same0 {S : Store} {p : Addr} {m : MO} : supd S p m p = some m := by unfold supd; rw [if_pos rfl]
theorem put_nm {i : Nat} {x : D} {ρ : DSt} : Tgt.put (.nm i) x ρ = some (ρ.set i (some x)) := by simp only [Tgt.put]
theorem put_tp {ts : List Tgt} {xs : List D} {ρ : DSt} : Tgt.put (.tp ts) (.tup xs) ρ = Tgt.putL ts xs ρ := by simp only [Tgt.put]
theorem put_tl {ts : List Tgt} {xs : List D} {ρ : DSt} : Tgt.put (.tp ts) (.lst xs) ρ = Tgt.putL ts xs ρ := by simp only [Tgt.put]
theorem putL_nil {ρ : DSt} : Tgt.putL [] [] ρ = some ρ := by simp only [Tgt.putL]
theorem putL_cons {t : Tgt} {ts : List Tgt} {x : D} {xs : List D} {ρ : DSt} : Tgt.putL (t :: ts) (x :: xs) ρ = (t.put x ρ).bind fun ρ' => Tgt.putL ts xs ρ' := by simp only [Tgt.putL]
def encR (q : Rat) : D := .tup [.int q.num, .int (q.den : Int)]
/-- so many bits at most -/
def Sz (n : Nat) (q : Rat) : Prop := q.num.natAbs < 2 ^ n ∧ q.den < 2 ^ n
theorem Sz.mono {n m : Nat} {q : Rat} (h : Sz n q) (hm : n ≤ m) : Sz m q := ⟨Nat.lt_of_lt_of_le h.1 (Nat.pow_le_pow_right (by decide) hm), Nat.lt_of_lt_of_le h.2 (Nat.pow_le_pow_right (by decide) hm)⟩
theorem sz_int {n : Nat} {k : Int} (h : k.natAbs < 2 ^ n) (h1 : 1 ≤ n := by decide) : Sz n (k : Rat) := ⟨h, by show 1 < 2 ^ n; exact Nat.one_lt_two_pow (by omega)⟩
theorem frac_num {a b : Int} (hb : b ≠ 0) : ((a : Rat) / (b : Rat)).num = b.sign * a / (Int.gcd a b : Int) ∧ (((a : Rat) / (b : Rat)).den : Int) = (b.natAbs : Int) / (Int.gcd a b : Int) := by
  rw [← Rat.divInt_eq_div, Rat.num_divInt, Rat.den_divInt, if_neg hb, Int.gcd_comm b a]
  exact ⟨rfl, by simp⟩
theorem gcd_pos_r {a b : Int} (hb : b ≠ 0) : 0 < (Int.gcd a b : Int) := by
  have := Int.gcd_pos_of_ne_zero_right a hb
  omega
theorem natAbs_div_le (a : Int) (g : Int) (hg : 0 < g) : (a / g).natAbs ≤ a.natAbs := by
  exact Int.natAbs_ediv_le_natAbs a g
/-- the size of a quotient of whole numbers -/
theorem sz_frac {n : Nat} {a b : Int} (hb : b ≠ 0) (h1 : a.natAbs < 2 ^ n) (h2 : b.natAbs < 2 ^ n) : Sz n ((a : Rat) / (b : Rat)) := by
  obtain ⟨e1, e2⟩ := frac_num (a := a) hb
  have hg := gcd_pos_r (a := a) hb
  have hdvd : (Int.gcd a b : Int) ∣ a := Int.gcd_dvd_left a b
  refine ⟨?_, ?_⟩
  · rw [e1]
    refine Nat.lt_of_le_of_lt (natAbs_div_le _ _ hg) ?_
    rw [Int.natAbs_mul]
    have : b.sign.natAbs ≤ 1 := by
      rcases Int.lt_trichotomy b 0 with h | h | h
      · simp [Int.sign_eq_neg_one_of_neg h]
      · exact absurd h hb
      · simp [Int.sign_eq_one_of_pos h]
    calc b.sign.natAbs * a.natAbs ≤ 1 * a.natAbs := Nat.mul_le_mul_right _ this
      _ < 2 ^ n := by omega
  · have : (((a : Rat) / (b : Rat)).den : Int).natAbs ≤ b.natAbs := by
      rw [e2]
      exact Nat.le_trans (natAbs_div_le _ _ hg) (by simp)
    omega
theorem rat_eq (q : Rat) : q = (q.num : Rat) / ((q.den : Int) : Rat) := by
  rw [← Rat.divInt_eq_div, Rat.num_divInt_den]
theorem den_ne (q : Rat) : ((q.den : Int) : Rat) ≠ 0 := by
  have : (q.den : Int) ≠ 0 := by have := q.den_pos; omega
  intro h
  exact this (by exact_mod_cast h)
theorem rat_add (q r : Rat) : q + r = ((q.num * (r.den : Int) + r.num * (q.den : Int) : Int) : Rat) / (((q.den : Int) * (r.den : Int) : Int) : Rat) := by
  rw [← Rat.divInt_eq_div, Rat.add_def', ← Rat.divInt_ofNat, Int.natCast_mul]
theorem rat_sub (q r : Rat) : q - r = ((q.num * (r.den : Int) - r.num * (q.den : Int) : Int) : Rat) / (((q.den : Int) * (r.den : Int) : Int) : Rat) := by
  rw [← Rat.divInt_eq_div, Rat.sub_def', ← Rat.divInt_ofNat, Int.natCast_mul]
theorem rat_mul (q r : Rat) : q * r = ((q.num * r.num : Int) : Rat) / (((q.den : Int) * (r.den : Int) : Int) : Rat) := by
  rw [← Rat.divInt_eq_div, Rat.mul_def', ← Rat.divInt_ofNat, Int.natCast_mul]
theorem rat_div (q r : Rat) (h : r ≠ 0) : q / r = ((q.num * (r.den : Int) : Int) : Rat) / (((q.den : Int) * r.num : Int) : Rat) := by
  have hr : (r.num : Rat) ≠ 0 := by
    intro z
    exact h (Rat.num_eq_zero.mp (by exact_mod_cast z))
  have h1 := den_ne q
  have h2 := den_ne r
  have e1 := rat_eq q
  have e2 := rat_eq r
  generalize hqn : (q.num : Rat) = qn at *
  generalize hqd : ((q.den : Int) : Rat) = qd at *
  generalize hrn : (r.num : Rat) = rn at *
  generalize hrd : ((r.den : Int) : Rat) = rd at *
  rw [Rat.intCast_mul, Rat.intCast_mul, hqn, hqd, hrn, hrd, e1, e2]
  grind
theorem pow_bound {a b n m : Nat} (h1 : a < 2 ^ n) (h2 : b < 2 ^ m) : a * b < 2 ^ (n + m) := by
  rw [Nat.pow_add]
  exact Nat.mul_lt_mul'' h1 h2
theorem den_nz (q : Rat) : (q.den : Int) ≠ 0 := by have := q.den_pos; omega
theorem add_bound {q r : Rat} {n m : Nat} (h1 : Sz n q) (h2 : Sz m r) (s : Int) (hs : s.natAbs = 1) : (q.num * (r.den : Int) + s * (r.num * (q.den : Int))).natAbs < 2 ^ (n + m + 1) ∧ ((q.den : Int) * (r.den : Int)).natAbs < 2 ^ (n + m + 1) := by
  have a1 := pow_bound h1.1 h2.2
  have a2 := pow_bound h2.1 h1.2
  have a3 := pow_bound h1.2 h2.2
  have e : 2 ^ (n + m + 1) = 2 * 2 ^ (n + m) := by rw [Nat.pow_succ]; omega
  have e2 : 2 ^ (m + n) = 2 ^ (n + m) := by rw [Nat.add_comm]
  rw [e2] at a2
  constructor
  · refine Nat.lt_of_le_of_lt (Int.natAbs_add_le _ _) ?_
    rw [Int.natAbs_mul, Int.natAbs_mul, Int.natAbs_mul, hs]
    simp only [Int.natAbs_natCast, Nat.one_mul]
    omega
  · rw [Int.natAbs_mul]
    simp only [Int.natAbs_natCast]
    omega
theorem sz_add {q r : Rat} {n m : Nat} (h1 : Sz n q) (h2 : Sz m r) : Sz (n + m + 1) (q + r) := by
  rw [rat_add]
  have := add_bound h1 h2 1 rfl
  exact sz_frac (Int.mul_ne_zero (den_nz q) (den_nz r)) (by simpa using this.1) this.2
theorem sz_sub {q r : Rat} {n m : Nat} (h1 : Sz n q) (h2 : Sz m r) : Sz (n + m + 1) (q - r) := by
  rw [rat_sub]
  have := add_bound h1 h2 (-1) rfl
  exact sz_frac (Int.mul_ne_zero (den_nz q) (den_nz r)) (by
    have e : q.num * (r.den : Int) - r.num * (q.den : Int) = q.num * (r.den : Int) + -1 * (r.num * (q.den : Int)) := by omega
    rw [e]; exact this.1) this.2
theorem mul_bound {q r : Rat} {n m : Nat} (h1 : Sz n q) (h2 : Sz m r) : (q.num * r.num).natAbs < 2 ^ (n + m) ∧ ((q.den : Int) * (r.den : Int)).natAbs < 2 ^ (n + m) := by
  constructor
  · rw [Int.natAbs_mul]; exact pow_bound h1.1 h2.1
  · rw [Int.natAbs_mul]; simp only [Int.natAbs_natCast]; exact pow_bound h1.2 h2.2
theorem sz_mul {q r : Rat} {n m : Nat} (h1 : Sz n q) (h2 : Sz m r) : Sz (n + m) (q * r) := by
  rw [rat_mul]
  have := mul_bound h1 h2
  exact sz_frac (Int.mul_ne_zero (den_nz q) (den_nz r)) this.1 this.2
theorem div_bound {q r : Rat} {n m : Nat} (h1 : Sz n q) (h2 : Sz m r) : (q.num * (r.den : Int)).natAbs < 2 ^ (n + m) ∧ ((q.den : Int) * r.num).natAbs < 2 ^ (n + m) := by
  constructor
  · rw [Int.natAbs_mul]; exact pow_bound h1.1 h2.2
  · rw [Int.natAbs_mul]; simp only [Int.natAbs_natCast]; exact pow_bound h1.2 h2.1
theorem num_nz {r : Rat} (h : r ≠ 0) : r.num ≠ 0 := fun z => h (Rat.num_eq_zero.mp z)
theorem sz_div {q r : Rat} {n m : Nat} (h : r ≠ 0) (h1 : Sz n q) (h2 : Sz m r) : Sz (n + m) (q / r) := by
  rw [rat_div _ _ h]
  have := div_bound h1 h2
  exact sz_frac (Int.mul_ne_zero (den_nz q) (num_nz h)) this.1 this.2
theorem log_lt {a n : Nat} (h : a < 2 ^ n) (hn : 0 < n) : a.log2 < n := PySem.Flt.log2_lt_of hn h
theorem mulB {i j : Int} {n m : Nat} (h1 : i.natAbs < 2 ^ n) (h2 : j.natAbs < 2 ^ m) (h : n + m ≤ 900000) : MulB i j := by
  refine .inr ?_
  unfold CMulW
  have a := log_lt (n := n + 1) (Nat.lt_trans h1 (Nat.pow_lt_pow_right (by decide) (by omega))) (by omega)
  have b := log_lt (n := m + 1) (Nat.lt_trans h2 (Nat.pow_lt_pow_right (by decide) (by omega))) (by omega)
  omega
theorem mulS {i j : Int} (h : -(2 ^ 64) < i ∧ i < 2 ^ 64 := by omega) : MulB i j := .inl (.inl h)
theorem mulS2 {i j : Int} (h : -(2 ^ 64) < j ∧ j < 2 ^ 64 := by omega) : MulB i j := .inl (.inr h)
theorem divB {j : Int} {n : Nat} (h0 : j ≠ 0) (h1 : j.natAbs < 2 ^ n) (h : n ≤ 8999) : DivB j := by
  have a := log_lt (n := n + 1) (Nat.lt_trans h1 (Nat.pow_lt_pow_right (by decide) (by omega))) (by omega)
  exact ⟨h0, by omega⟩
theorem divS {j : Int} (h0 : j ≠ 0) (h : j.natAbs < 2 ^ 60 := by omega) : DivB j := divB (n := 60) h0 h (by decide)

/-! powers of a base -/
theorem zpow_of_nat (b : Rat) (n : Nat) : b ^ (n : Int) = b ^ n := rfl
theorem intpow_cast (b : Int) (n : Nat) : ((b ^ n : Int) : Rat) = (b : Rat) ^ n := by
  induction n with
  | zero => simp
  | succ n ih => rw [Int.pow_succ, Rat.pow_succ, Rat.intCast_mul, ih]
theorem encR_zpow_nn (b : Int) (k : Int) (h : 0 ≤ k) : encR ((b : Rat) ^ k) = .tup [.int (b ^ k.toNat), .int 1] := by
  have : (b : Rat) ^ k = ((b ^ k.toNat : Int) : Rat) := by
    rw [intpow_cast, ← zpow_of_nat]
    congr 1; omega
  rw [this]; rfl
theorem encR_zpow_neg (b : Int) (k : Int) (hb : 0 < b) (h : k < 0) : encR ((b : Rat) ^ k) = .tup [.int 1, .int (b ^ (-k).toNat)] := by
  have hp : 0 < b ^ (-k).toNat := Int.pow_pos hb
  have : (b : Rat) ^ k = ((1 : Int) : Rat) / ((b ^ (-k).toNat : Int) : Rat) := by
    rw [intpow_cast, ← zpow_of_nat]
    have e : k = -(((-k).toNat : Nat) : Int) := by omega
    conv => lhs; rw [e, Rat.zpow_neg]
    simp [Rat.div_def]
  obtain ⟨e1, e2⟩ := frac_num (a := 1) (b := b ^ (-k).toNat) (by omega)
  unfold encR
  rw [this, e1, e2]
  have s : (b ^ (-k).toNat).sign = 1 := Int.sign_eq_one_of_pos hp
  have g1 : Int.gcd 1 (b ^ (-k).toNat) = 1 := by simp
  rw [s, g1]
  have e3 : ((b ^ (-k).toNat).natAbs : Int) = b ^ (-k).toNat := by omega
  rw [e3]
  simp
theorem sz_zpow {b k : Int} (hb : 0 < b) (hb2 : b ≤ 16) : Sz (4 * k.natAbs + 1) ((b : Rat) ^ k) := by
  have key : ∀ n : Nat, (b ^ n).natAbs < 2 ^ (4 * n + 1) := fun n => by
    rw [Int.natAbs_pow]
    have h1 : b.natAbs ≤ 2 ^ 4 := by omega
    calc b.natAbs ^ n ≤ (2 ^ 4) ^ n := Nat.pow_le_pow_left h1 n
      _ = 2 ^ (4 * n) := by rw [Nat.pow_mul]
      _ < 2 ^ (4 * n + 1) := Nat.pow_lt_pow_right (by decide) (by omega)
  by_cases h : 0 ≤ k
  · have e := encR_zpow_nn b k h
    unfold encR at e
    simp only [D.tup.injEq, List.cons.injEq, D.int.injEq, and_true] at e
    have hk : k.toNat = k.natAbs := by omega
    refine ⟨by rw [e.1, hk]; exact key _, ?_⟩
    have : ((b : Rat) ^ k).den = 1 := by omega
    rw [this]
    exact Nat.one_lt_two_pow (by omega)
  · have e := encR_zpow_neg b k hb (by omega)
    unfold encR at e
    simp only [D.tup.injEq, List.cons.injEq, D.int.injEq, and_true] at e
    have hk : (-k).toNat = k.natAbs := by omega
    refine ⟨by rw [e.1]; exact Nat.one_lt_two_pow (by omega), ?_⟩
    have h2 := key k.natAbs
    rw [hk] at e
    have h3 : ((((b : Rat) ^ k).den : Int)).natAbs < 2 ^ (4 * k.natAbs + 1) := by rw [e.2]; exact h2
    omega
theorem atI_0 {α : Type} (a : α) (l : List α) : atI (a :: l) 0 = some a := by
  unfold atI ixN
  rw [if_pos (by decide), if_pos (by simp only [List.length_cons]; omega)]
  rfl
theorem atI_1 {α : Type} (a b : α) (l : List α) : atI (a :: b :: l) 1 = some b := by
  unfold atI ixN
  rw [if_pos (by decide), if_pos (by simp only [List.length_cons]; omega)]
  rfl
theorem atI_2 {α : Type} (a b c : α) (l : List α) : atI (a :: b :: c :: l) 2 = some c := by
  unfold atI ixN
  rw [if_pos (by decide), if_pos (by simp only [List.length_cons]; omega)]
  rfl
theorem atI_3 {α : Type} (a b c d : α) (l : List α) : atI (a :: b :: c :: d :: l) 3 = some d := by
  unfold atI ixN
  rw [if_pos (by decide), if_pos (by simp only [List.length_cons]; omega)]
  rfl
theorem eqB_ii {i j : Int} : dEqB (.int i) (.int j) = some (decide (i = j)) := rfl
theorem eqB_bb {i j : Bool} : dEqB (.bl i) (.bl j) = some (decide (i = j)) := rfl
theorem eqB_ss {i j : Str} : dEqB (.str i) (.str j) = some (decide (i = j)) := rfl
theorem eqB_nn : dEqB .non .non = some true := rfl
theorem eqB_ni {j : Int} : dEqB .non (.int j) = some false := rfl
theorem eqB_in {j : Int} : dEqB (.int j) .non = some false := rfl
theorem eqB_ns {j : Str} : dEqB .non (.str j) = some false := rfl
theorem eqB_sn {j : Str} : dEqB (.str j) .non = some false := rfl
theorem eqB_is {i : Int} {j : Str} : dEqB (.int i) (.str j) = some false := rfl
theorem eqB_si {i : Int} {j : Str} : dEqB (.str j) (.int i) = some false := rfl
theorem eqB_nb {j : Bool} : dEqB .non (.bl j) = some false := rfl
theorem eqB_bn {j : Bool} : dEqB (.bl j) .non = some false := rfl
theorem map_toNat_inj : ∀ (l m : List Char), l.map Char.toNat = m.map Char.toNat → l = m
  | [], [], _ => rfl
  | [], _ :: _, h => by simp at h
  | _ :: _, [], h => by simp at h
  | a :: l, b :: m, h => by
    simp only [List.map_cons, List.cons.injEq] at h
    rw [map_toNat_inj l m h.2, Char.toNat_inj.mp h.1]
theorem ofString_inj (a b : String) : (Str.ofString a = Str.ofString b) = (a = b) := by
  apply propext
  constructor
  · intro h
    rw [Str.ofString_eq_toList, Str.ofString_eq_toList] at h
    have h : List.map Char.toNat a.toList = List.map Char.toNat b.toList := congrArg (fun z : Str => z.cps.toList) h
    have : a.toList = b.toList := map_toNat_inj _ _ h
    exact String.ext this
  · intro h; rw [h]
local macro_rules | `(tactic| walk_at "dgo") => `(tactic| try simp only [dSeq, dSet, dPar, dOp, dUn, dVar, dC, dCB, dCons, dNil, dTup, dLst, dLstM, dIfS, dIf, dTest, dNot, dAnd, dOr, dAndV, dOrV, dNotV, dRet, dRetN, dEnd, dNext, dAdd, dSub, dMul, dFdiv, dMod, dPow, dNeg, dLt, dLe, dGt, dGe, dEq, dNe, eqB_ii, eqB_bb, eqB_ss, eqB_nn, eqB_ni, eqB_in, eqB_ns, eqB_sn, eqB_is, eqB_si, eqB_nb, eqB_bn, dIx, dIn, dIsN, dNotN, DL.isNon, cAbs, cMax2, cMin2, cInt, cLen, cList, cTuple, dIsB, dNotB, dPar3, ForN, LcN, pinOf, pin2, dEnum2, dAppend, supd_same0, isi_non_int, isi_non_bool, isi_non_str, isi_non_list, isi_non_tuple, isi_non_lt, isi_bl_int, isi_bl_bool, isi_bl_str, isi_bl_list, isi_bl_tuple, isi_bl_lt, isi_int_int, isi_int_bool, isi_int_str, isi_int_list, isi_int_tuple, isi_int_lt, isi_str_int, isi_str_bool, isi_str_str, isi_str_list, isi_str_tuple, isi_str_lt, isi_lst_int, isi_lst_bool, isi_lst_str, isi_lst_list, isi_lst_tuple, isi_lst_lt, isi_tup_int, isi_tup_bool, isi_tup_str, isi_tup_list, isi_tup_tuple, isi_tup_lt, dAug, dIAdd, dIMul, dDrop, dSl, dPart, dNoPart, dRevL, dCallK, dChainR, dAsg, put_nm, put_tp, put_tl, putL_nil, putL_cons, Option.bind, seqOf, lstOf, dFor, dLc, dLcM, dItSeq, dZip, dZipS, dEnum, dRng1, dRng2, dYes, dwipe, Tgt.slots, Tgt.slotsL,
  atI_0, atI_1, atI_2, atI_3, List.getElem?_cons_zero, List.getElem?_cons_succ, List.set_cons_zero, List.set_cons_succ, decide_eq_true_eq, List.length_cons, List.length_nil, List.cons_append, List.nil_append, List.append_nil, ofString_inj, String.reduceEq, decide_true, decide_false, reduceIte, Bool.false_eq_true, Bool.not_true, Bool.not_false, eqFlat, isFlat, List.any_cons, List.any_nil, List.all_cons, List.all_nil, Bool.or_false, Bool.or_true, Bool.false_or, Bool.true_or, Bool.and_true, Bool.true_and, true_and, and_true, Nat.reduceAdd, Nat.reduceLeDiff, Int.reduceLT, Int.reduceLE, Int.reduceNeg])
/-! ### fractions -/
def sp_common : DSp := fun ds S P => ∃ a b : Int, ds = [.int a, .int b] ∧ 0 ≤ a ∧ 0 ≤ b ∧ P (.int (Int.gcd a b)) S
def rd_common : DS :=
  (dSeq (dWhile (dTest (dOp dGt (dVar 1) (dC (.int 0)))) (dPar 0 1 (dCons (dVar 1) (dCons (dOp dMod (dVar 0) (dVar 1)) dNil))))
  (dRet (dVar 0)))
def goal_common : Prop := ∀ (x0 x1 : D) (S : Store) (P : D → Store → Prop), sp_common [x0, x1] S P → rd_common (dEnd P) [some x0, some x1] S
theorem len_common : ∀ ds S P, sp_common ds S P → ds.length = 2 := by
  rintro ds S P ⟨a, b, rfl, _⟩; rfl
theorem gcd_step (c d : Int) (h : 0 < d) : Int.gcd d (c % d) = Int.gcd c d := by
  have hc : Int.gcd d (c % d) = Int.gcd d c := by
    have e : c = d * (c / d) + c % d := by have := Int.emod_add_mul_ediv c d; omega
    conv => rhs; rw [e]
    simp
  rw [hc, Int.gcd_comm]
theorem vc_common : goal_common := by
  rintro x0 x1 S P ⟨a, b, e, ha, hb, h⟩
  cases e
  unfold rd_common
  walk_at "dgo"
  refine ⟨fun m ρ S' => ∃ c d : Int, m = d.toNat ∧ ρ = [some (.int c), some (.int d)] ∧ S' = S ∧ 0 ≤ c ∧ 0 ≤ d ∧ Int.gcd c d = Int.gcd a b, ⟨_, a, b, rfl, rfl, rfl, ha, hb, rfl⟩, ?_⟩
  rintro m ρ S' ⟨c, d, rfl, rfl, rfl, hc, hd, hg⟩
  walk_at "dgo"
  split
  · rename_i h0
    have h1 := Int.emod_nonneg c (b := d) (by omega)
    have h2 := Int.emod_lt_of_pos c h0
    exact ⟨h0, (c % d).toNat, by omega, d, c % d, rfl, rfl, hd, h1, by rw [← hg]; exact gcd_step c d h0⟩
  · have : d = 0 := by omega
    subst this
    have e : (c : Int) = (Int.gcd a b : Int) := by
      rw [← hg, Int.gcd_zero_right]; omega
    rw [e]; exact h
def sp_frac : DSp := fun ds S P => ∃ a b : Int, ds = [.int a, .int b] ∧ b ≠ 0 ∧ a.natAbs < 2 ^ 8900 ∧ b.natAbs < 2 ^ 8900 ∧ P (encR ((a : Rat) / (b : Rat))) S
def rd_frac : DS :=
  (dSeq (dSet 2 (dCB sp_common (dCons (dCB cAbs (dCons (dVar 0) dNil)) (dCons (dCB cAbs (dCons (dVar 1) dNil)) dNil))))
  (dSeq (dSet 2 (dIf (dTest (dOp dGt (dVar 1) (dC (.int 0)))) (dVar 2) (dUn dNeg (dVar 2))))
  (dRet (dTup (dCons (dOp dFdiv (dVar 0) (dVar 2)) (dCons (dOp dFdiv (dVar 1) (dVar 2)) dNil))))))
def goal_frac : Prop := ∀ (x0 x1 : D) (S : Store) (P : D → Store → Prop), sp_frac [x0, x1] S P → rd_frac (dEnd P) [some x0, some x1, none] S
theorem len_frac : ∀ ds S P, sp_frac ds S P → ds.length = 2 := by
  rintro ds S P ⟨a, b, rfl, _⟩; rfl
theorem abs_if (a : Int) : (if a < 0 then -a else a) = (a.natAbs : Int) := by split <;> omega
theorem gcd_abs (a b : Int) : Int.gcd (a.natAbs : Int) (b.natAbs : Int) = Int.gcd a b := by simp [Int.gcd]
theorem gcd_le_r {a b : Int} (hb : b ≠ 0) : Int.gcd a b ≤ b.natAbs := Nat.le_of_dvd (by omega) (by have := Int.natAbs_dvd_natAbs.mpr (Int.gcd_dvd_right a b); simpa using this)
theorem fdiv_dvd {a g k : Int} (hg : g ≠ 0) (e : a = g * k) : a.fdiv g = k := by
  subst e
  exact Int.mul_fdiv_cancel_left k hg
theorem encR_frac {a b : Int} (hb : b ≠ 0) : encR ((a : Rat) / (b : Rat)) = .tup [.int (b.sign * a / (Int.gcd a b : Int)), .int ((b.natAbs : Int) / (Int.gcd a b : Int))] := by
  obtain ⟨e1, e2⟩ := frac_num (a := a) hb
  unfold encR
  rw [e1, e2]
theorem vc_frac : goal_frac := by
  rintro x0 x1 S P ⟨a, b, e, hb, h1, h2, h⟩
  cases e
  unfold rd_frac
  walk_at "dgo"
  refine ⟨_, _, rfl, by rw [abs_if]; omega, by rw [abs_if]; omega, ?_⟩
  rw [abs_if, abs_if, gcd_abs]
  have hg := gcd_pos_r (a := a) hb
  obtain ⟨k, ek⟩ : (Int.gcd a b : Int) ∣ a := Int.gcd_dvd_left a b
  obtain ⟨l, el⟩ : (Int.gcd a b : Int) ∣ b := Int.gcd_dvd_right a b
  have hgl := gcd_le_r (a := a) hb
  rw [encR_frac hb] at h
  generalize hG : (Int.gcd a b : Int) = g at *
  have hgs : g.natAbs < 2 ^ 8900 := by omega
  walk_at "dgo"
  by_cases hp : 0 < b
  · rw [if_pos hp]
    refine ⟨divB (n := 8900) (by omega) hgs (by decide), divB (n := 8900) (by omega) hgs (by decide), ?_⟩
    rw [Int.sign_eq_one_of_pos hp, Int.one_mul] at h
    have e1 : a.fdiv g = a / g := by rw [Int.fdiv_eq_ediv_of_nonneg _ (by omega)]
    have e2 : b.fdiv g = (b.natAbs : Int) / g := by
      rw [Int.fdiv_eq_ediv_of_nonneg _ (by omega)]
      congr 1; omega
    rw [e1, e2]; exact h
  · rw [if_neg hp]
    refine ⟨divB (n := 8900) (by omega) (by rw [Int.natAbs_neg]; exact hgs) (by decide), divB (n := 8900) (by omega) (by rw [Int.natAbs_neg]; exact hgs) (by decide), ?_⟩
    rw [Int.sign_eq_neg_one_of_neg (show b < 0 by omega)] at h
    have e1 : a.fdiv (-g) = -1 * a / g := by
      rw [fdiv_dvd (k := -k) (by omega) (by rw [Int.neg_mul_neg]; exact ek)]
      rw [show -1 * a = g * (-k) by rw [ek]; simp [Int.mul_neg]]
      rw [Int.mul_ediv_cancel_left _ (by omega)]
    have e2 : b.fdiv (-g) = (b.natAbs : Int) / g := by
      rw [fdiv_dvd (k := -l) (by omega) (by rw [Int.neg_mul_neg]; exact el)]
      rw [show (b.natAbs : Int) = g * (-l) by rw [Int.mul_neg, ← el]; omega]
      rw [Int.mul_ediv_cancel_left _ (by omega)]
    rw [e1, e2]; exact h
theorem bound_mono {x : Nat} {n m : Nat} (h : x < 2 ^ n) (hm : n ≤ m := by decide) : x < 2 ^ m := Nat.lt_of_lt_of_le h (Nat.pow_le_pow_right (by decide) hm)
/-- two fractions of moderate size -/
def sp_plus : DSp := fun ds S P => ∃ q r : Rat, ds = [encR q, encR r] ∧ Sz 4000 q ∧ Sz 4000 r ∧ P (encR (q + r)) S
def rd_plus : DS :=
  (dRet (dCB sp_frac (dCons (dOp dAdd (dOp dMul (dOp dIx (dVar 0) (dC (.int 0))) (dOp dIx (dVar 1) (dC (.int 1)))) (dOp dMul (dOp dIx (dVar 1) (dC (.int 0))) (dOp dIx (dVar 0) (dC (.int 1))))) (dCons (dOp dMul (dOp dIx (dVar 0) (dC (.int 1))) (dOp dIx (dVar 1) (dC (.int 1)))) dNil))))
def goal_plus : Prop := ∀ (x0 x1 : D) (S : Store) (P : D → Store → Prop), sp_plus [x0, x1] S P → rd_plus (dEnd P) [some x0, some x1] S
theorem len_plus : ∀ ds S P, sp_plus ds S P → ds.length = 2 := by
  rintro ds S P ⟨a, b, rfl, _⟩; rfl
theorem szmul {q : Rat} {r : Rat} {n m : Nat} (h1 : Sz n q) (h2 : Sz m r) (h : n + m ≤ 900000) : MulB q.num (r.den : Int) := mulB h1.1 (by simpa using h2.2) h
theorem szmulN {q : Rat} {r : Rat} {n m : Nat} (h1 : Sz n q) (h2 : Sz m r) (h : n + m ≤ 900000) : MulB q.num r.num := mulB h1.1 h2.1 h
theorem szmulD {q : Rat} {r : Rat} {n m : Nat} (h1 : Sz n q) (h2 : Sz m r) (h : n + m ≤ 900000) : MulB (q.den : Int) (r.den : Int) := mulB (by simpa using h1.2) (by simpa using h2.2) h
theorem szmulDN {q : Rat} {r : Rat} {n m : Nat} (h1 : Sz n q) (h2 : Sz m r) (h : n + m ≤ 900000) : MulB (q.den : Int) r.num := mulB (by simpa using h1.2) h2.1 h
theorem vc_plus : goal_plus := by
  rintro x0 x1 S P ⟨q, r, e, h1, h2, h⟩
  cases e
  unfold rd_plus encR
  walk_at "dgo"
  obtain ⟨b1, b2⟩ := add_bound h1 h2 1 rfl
  refine ⟨szmul h1 h2 (by decide), szmul h2 h1 (by decide), szmulD h1 h2 (by decide), _, _, rfl, Int.mul_ne_zero (den_nz q) (den_nz r), bound_mono (by rw [Int.one_mul] at b1; exact b1), bound_mono b2, ?_⟩
  rw [← rat_add]; exact h
def sp_minus : DSp := fun ds S P => ∃ q r : Rat, ds = [encR q, encR r] ∧ Sz 4000 q ∧ Sz 4000 r ∧ P (encR (q - r)) S
def rd_minus : DS :=
  (dRet (dCB sp_frac (dCons (dOp dSub (dOp dMul (dOp dIx (dVar 0) (dC (.int 0))) (dOp dIx (dVar 1) (dC (.int 1)))) (dOp dMul (dOp dIx (dVar 1) (dC (.int 0))) (dOp dIx (dVar 0) (dC (.int 1))))) (dCons (dOp dMul (dOp dIx (dVar 0) (dC (.int 1))) (dOp dIx (dVar 1) (dC (.int 1)))) dNil))))
def goal_minus : Prop := ∀ (x0 x1 : D) (S : Store) (P : D → Store → Prop), sp_minus [x0, x1] S P → rd_minus (dEnd P) [some x0, some x1] S
theorem len_minus : ∀ ds S P, sp_minus ds S P → ds.length = 2 := by
  rintro ds S P ⟨a, b, rfl, _⟩; rfl
theorem vc_minus : goal_minus := by
  rintro x0 x1 S P ⟨q, r, e, h1, h2, h⟩
  cases e
  unfold rd_minus encR
  walk_at "dgo"
  obtain ⟨b1, b2⟩ := add_bound h1 h2 (-1) rfl
  refine ⟨szmul h1 h2 (by decide), szmul h2 h1 (by decide), szmulD h1 h2 (by decide), _, _, rfl, Int.mul_ne_zero (den_nz q) (den_nz r), bound_mono (by
    have e : q.num * (r.den : Int) - r.num * (q.den : Int) = q.num * (r.den : Int) + -1 * (r.num * (q.den : Int)) := by omega
    rw [e]; exact b1), bound_mono b2, ?_⟩
  rw [← rat_sub]; exact h
def sp_times : DSp := fun ds S P => ∃ q r : Rat, ds = [encR q, encR r] ∧ Sz 4000 q ∧ Sz 4000 r ∧ P (encR (q * r)) S
def rd_times : DS :=
  (dRet (dCB sp_frac (dCons (dOp dMul (dOp dIx (dVar 0) (dC (.int 0))) (dOp dIx (dVar 1) (dC (.int 0)))) (dCons (dOp dMul (dOp dIx (dVar 0) (dC (.int 1))) (dOp dIx (dVar 1) (dC (.int 1)))) dNil))))
def goal_times : Prop := ∀ (x0 x1 : D) (S : Store) (P : D → Store → Prop), sp_times [x0, x1] S P → rd_times (dEnd P) [some x0, some x1] S
theorem len_times : ∀ ds S P, sp_times ds S P → ds.length = 2 := by
  rintro ds S P ⟨a, b, rfl, _⟩; rfl
theorem vc_times : goal_times := by
  rintro x0 x1 S P ⟨q, r, e, h1, h2, h⟩
  cases e
  unfold rd_times encR
  walk_at "dgo"
  obtain ⟨b1, b2⟩ := mul_bound h1 h2
  refine ⟨szmulN h1 h2 (by decide), szmulD h1 h2 (by decide), _, _, rfl, Int.mul_ne_zero (den_nz q) (den_nz r), bound_mono b1, bound_mono b2, ?_⟩
  rw [← rat_mul]; exact h
def sp_over : DSp := fun ds S P => ∃ q r : Rat, ds = [encR q, encR r] ∧ r ≠ 0 ∧ Sz 4000 q ∧ Sz 4000 r ∧ P (encR (q / r)) S
def rd_over : DS :=
  (dRet (dCB sp_frac (dCons (dOp dMul (dOp dIx (dVar 0) (dC (.int 0))) (dOp dIx (dVar 1) (dC (.int 1)))) (dCons (dOp dMul (dOp dIx (dVar 0) (dC (.int 1))) (dOp dIx (dVar 1) (dC (.int 0)))) dNil))))
def goal_over : Prop := ∀ (x0 x1 : D) (S : Store) (P : D → Store → Prop), sp_over [x0, x1] S P → rd_over (dEnd P) [some x0, some x1] S
theorem len_over : ∀ ds S P, sp_over ds S P → ds.length = 2 := by
  rintro ds S P ⟨a, b, rfl, _⟩; rfl
theorem vc_over : goal_over := by
  rintro x0 x1 S P ⟨q, r, e, h0, h1, h2, h⟩
  cases e
  unfold rd_over encR
  walk_at "dgo"
  obtain ⟨b1, b2⟩ := div_bound h1 h2
  refine ⟨szmul h1 h2 (by decide), szmulDN h1 h2 (by decide), _, _, rfl, Int.mul_ne_zero (den_nz q) (num_nz h0), bound_mono b1, bound_mono b2, ?_⟩
  rw [← rat_div _ _ h0]; exact h
def sp_is_below : DSp := fun ds S P => ∃ q r : Rat, ds = [encR q, encR r] ∧ Sz 400000 q ∧ Sz 400000 r ∧ P (.bl (decide (q < r))) S
def rd_is_below : DS :=
  (dRet (dOp dLt (dOp dMul (dOp dIx (dVar 0) (dC (.int 0))) (dOp dIx (dVar 1) (dC (.int 1)))) (dOp dMul (dOp dIx (dVar 1) (dC (.int 0))) (dOp dIx (dVar 0) (dC (.int 1))))))
def goal_is_below : Prop := ∀ (x0 x1 : D) (S : Store) (P : D → Store → Prop), sp_is_below [x0, x1] S P → rd_is_below (dEnd P) [some x0, some x1] S
theorem len_is_below : ∀ ds S P, sp_is_below ds S P → ds.length = 2 := by
  rintro ds S P ⟨a, b, rfl, _⟩; rfl
theorem vc_is_below : goal_is_below := by
  rintro x0 x1 S P ⟨q, r, e, h1, h2, h⟩
  cases e
  unfold rd_is_below encR
  walk_at "dgo"
  refine ⟨szmul h1 h2 (by decide), szmul h2 h1 (by decide), ?_⟩
  have e : decide (q < r) = decide (q.num * (r.den : Int) < r.num * (q.den : Int)) := by
    congr 1
    exact propext (Rat.lt_iff q r)
  rw [← e]; exact h
def sp_lesser : DSp := fun ds S P => ∃ q r : Rat, ds = [encR q, encR r] ∧ Sz 400000 q ∧ Sz 400000 r ∧ P (encR (min q r)) S
def rd_lesser : DS :=
  (dRet (dIf (dTest (dCB sp_is_below (dCons (dVar 1) (dCons (dVar 0) dNil)))) (dVar 1) (dVar 0)))
def goal_lesser : Prop := ∀ (x0 x1 : D) (S : Store) (P : D → Store → Prop), sp_lesser [x0, x1] S P → rd_lesser (dEnd P) [some x0, some x1] S
theorem len_lesser : ∀ ds S P, sp_lesser ds S P → ds.length = 2 := by
  rintro ds S P ⟨a, b, rfl, _⟩; rfl
theorem min_if (q r : Rat) : min q r = if r < q then r else q := by
  rw [Rat.instMin.eq_1] <;> first | rfl | grind
theorem vc_lesser : goal_lesser := by
  rintro x0 x1 S P ⟨q, r, e, h1, h2, h⟩
  cases e
  unfold rd_lesser
  walk_at "dgo"
  refine ⟨_, _, rfl, h2, h1, ?_⟩
  walk_at "dgo"
  rw [min_if] at h
  split
  · rename_i hh; rw [if_pos hh] at h; exact h
  · rename_i hh; rw [if_neg hh] at h; exact h
def sp_greater : DSp := fun ds S P => ∃ q r : Rat, ds = [encR q, encR r] ∧ Sz 400000 q ∧ Sz 400000 r ∧ P (encR (max q r)) S
def rd_greater : DS :=
  (dRet (dIf (dTest (dCB sp_is_below (dCons (dVar 0) (dCons (dVar 1) dNil)))) (dVar 1) (dVar 0)))
def goal_greater : Prop := ∀ (x0 x1 : D) (S : Store) (P : D → Store → Prop), sp_greater [x0, x1] S P → rd_greater (dEnd P) [some x0, some x1] S
theorem len_greater : ∀ ds S P, sp_greater ds S P → ds.length = 2 := by
  rintro ds S P ⟨a, b, rfl, _⟩; rfl
theorem max_if (q r : Rat) : max q r = if q < r then r else q := by
  rw [Rat.instMax.eq_1] <;> first | rfl | grind
theorem vc_greater : goal_greater := by
  rintro x0 x1 S P ⟨q, r, e, h1, h2, h⟩
  cases e
  unfold rd_greater
  walk_at "dgo"
  refine ⟨_, _, rfl, h1, h2, ?_⟩
  walk_at "dgo"
  rw [max_if] at h
  split
  · rename_i hh; rw [if_pos hh] at h; exact h
  · rename_i hh; rw [if_neg hh] at h; exact h
def sp_power : DSp := fun ds S P => ∃ b k : Int, ds = [.int b, .int k] ∧ 0 < b ∧ b ≤ 16 ∧ k.natAbs ≤ 900 ∧ P (encR ((b : Rat) ^ k)) S
def rd_power : DS :=
  (dSeq (dSet 2 (dC (.int 1)))
  (dSeq (dFor (dRng1 (dCons (dCB cAbs (dCons (dVar 1) dNil)) dNil)) (.nm 3) (dAug 2 dIMul (dVar 0)))
  (dRet (dIf (dTest (dOp dGe (dVar 1) (dC (.int 0)))) (dTup (dCons (dVar 2) (dCons (dC (.int 1)) dNil))) (dTup (dCons (dC (.int 1)) (dCons (dVar 2) dNil)))))))
def goal_power : Prop := ∀ (x0 x1 : D) (S : Store) (P : D → Store → Prop), sp_power [x0, x1] S P → rd_power (dEnd P) [some x0, some x1, none, none] S
theorem len_power : ∀ ds S P, sp_power ds S P → ds.length = 2 := by
  rintro ds S P ⟨a, b, rfl, _⟩; rfl
theorem vc_power : goal_power := by
  rintro x0 x1 S P ⟨b, k, e, h1, h2, h3, h⟩
  cases e
  unfold rd_power
  walk_at "dgo"
  rw [abs_if]
  refine ⟨by omega, by omega, fun i ρ S' => ∃ z, ρ = [some (.int b), some (.int k), some (.int (b ^ i)), z] ∧ S' = S, ⟨none, by simp, rfl⟩, ?_, ?_⟩
  · rintro i d ρ S' hd ⟨z, rfl, rfl⟩
    refine ⟨_, rfl, ?_⟩
    walk_at "dgo"
    refine ⟨mulS2, some d, ?_⟩
    rw [Int.pow_succ]
  · rintro ρ S' ⟨z, rfl, rfl⟩
    rw [rng_len]
    walk_at "dgo"
    by_cases hk : 0 ≤ k
    · rw [if_pos hk]
      rw [encR_zpow_nn b k hk] at h
      rw [show ((k.natAbs : Int)).toNat = k.toNat by omega]; exact h
    · rw [if_neg hk]
      rw [encR_zpow_neg b k h1 (by omega)] at h
      rw [show ((k.natAbs : Int)).toNat = (-k).toNat by omega]; exact h
/-! ### draws -/
def BoxAt (S : Store) (p : Addr) (n : Nat) : Prop := ∃ a s t : Int, S p = some (.lst [.int a, .int s, .int t]) ∧ 0 ≤ a ∧ 0 ≤ s ∧ s < 2 ^ 62 ∧ 0 ≤ t ∧ t ≤ n
def Drew (S S' : Store) (p : Addr) (n : Nat) : Prop := ∃ a s t : Int, S' = supd S p (.lst [.int a, .int s, .int t]) ∧ 0 ≤ a ∧ 0 ≤ s ∧ s < 2 ^ 62 ∧ 0 ≤ t ∧ t ≤ n
theorem supd_same {S : Store} {p : Addr} {m : MO} : supd S p m p = some m := by unfold supd; rw [if_pos rfl]
theorem supd_ne {S : Store} {p q : Addr} {m : MO} (h : q ≠ p) : supd S p m q = S q := by unfold supd; rw [if_neg h]
theorem supd_supd {S : Store} {p : Addr} {m m' : MO} : supd (supd S p m) p m' = supd S p m' := by
  funext q; unfold supd; split <;> rfl
theorem Drew.box {S S' : Store} {p : Addr} {n : Nat} (h : Drew S S' p n) : BoxAt S' p n := by
  obtain ⟨a, s, t, rfl, h⟩ := h
  exact ⟨a, s, t, supd_same, h⟩
theorem Drew.trans {S S1 S2 : Store} {p : Addr} {n m : Nat} (h : Drew S S1 p n) (h2 : Drew S1 S2 p m) : Drew S S2 p m := by
  obtain ⟨a, s, t, rfl, _⟩ := h
  obtain ⟨a, s, t, rfl, h⟩ := h2
  exact ⟨a, s, t, supd_supd, h⟩
theorem Drew.other {S S' : Store} {p q : Addr} {n : Nat} (h : Drew S S' p n) (hq : q ≠ p) : S' q = S q := by
  obtain ⟨a, s, t, rfl, _⟩ := h
  exact supd_ne hq
theorem Drew.mono {S S' : Store} {p : Addr} {n m : Nat} (h : Drew S S' p n) (hm : n ≤ m) : Drew S S' p m := by
  obtain ⟨a, s, t, e, h1, h2, h3, h4, h5⟩ := h
  exact ⟨a, s, t, e, h1, h2, h3, h4, by omega⟩
theorem BoxAt.mono {S : Store} {p : Addr} {n m : Nat} (h : BoxAt S p n) (hm : n ≤ m) : BoxAt S p m := by
  obtain ⟨a, s, t, e, h1, h2, h3, h4, h5⟩ := h
  exact ⟨a, s, t, e, h1, h2, h3, h4, by omega⟩
theorem BoxAt.refl {S : Store} {p : Addr} {n : Nat} (h : BoxAt S p n) : Drew S S p n := by
  obtain ⟨a, s, t, e, h⟩ := h
  refine ⟨a, s, t, ?_, h⟩
  funext q; unfold supd; split
  · rename_i z; rw [z, e]
  · rfl
def sp_Lcell_at : DSp := fun ds S P => ∃ (ns : List Int) (k : Int), ds = [.ext (ns.map .int), .int k] ∧ 0 ≤ k ∧ ∀ c, P (.int c) S
def rd_Lcell_at : DS :=
  (dSeq (dIfS (dTest (dOp dLt (dVar 1) (dCB cLen (dCons (dVar 0) dNil)))) (dRet (dOp dIx (dVar 0) (dVar 1))) dNext)
  (dRet (dC (.int 0))))
def goal_Lcell_at : Prop := ∀ (x0 x1 : D) (S : Store) (P : D → Store → Prop), sp_Lcell_at [x0, x1] S P → rd_Lcell_at (dEnd P) [some x0, some x1] S
theorem len_Lcell_at : ∀ ds S P, sp_Lcell_at ds S P → ds.length = 2 := by
  rintro ds S P ⟨a, b, rfl, _⟩; rfl
theorem atI_at {α : Type} {l : List α} {k : Int} (h0 : 0 ≤ k) (h1 : k < (l.length : Int)) : atI l k = l[k.toNat]? := by
  unfold atI ixN
  rw [if_pos h0, if_pos h1]
  rfl
theorem vc_Lcell_at : goal_Lcell_at := by
  rintro x0 x1 S P ⟨ns, k, e, h0, h⟩
  cases e
  unfold rd_Lcell_at
  walk_at "dgo"
  split
  · rename_i hk
    rw [atI_at h0 hk]
    rw [List.length_map] at hk
    have : k.toNat < ns.length := by omega
    rw [List.getElem?_map, List.getElem?_eq_getElem this]
    exact h _
  · exact h _
def sp_Lbox : DSp := fun ds S P => ∃ (ns : List Int) (k : Int), ds = [.ext (ns.map .int), .int k] ∧ 0 ≤ k ∧ k ≤ 1000 ∧ ∀ p S', S p = none → Drew S S' p 0 → P (.obj p) S'
def rd_Lbox : DS :=
  (dSeq (dSet 2 (dCB sp_Lcell_at (dCons (dVar 0) (dCons (dVar 1) dNil))))
  (dRet (dLstM (dCons (dOp dMul (dCB cAbs (dCons (dVar 2) dNil)) (dCB cInt (dCons (dOp dGe (dCB cAbs (dCons (dVar 2) dNil)) (dOp dPow (dC (.int 10)) (dC (.int 18)))) dNil))) (dCons (dOp dAdd (dOp dAdd (dOp dMod (dVar 2) (dC (.int 2305843009213693951))) (dOp dMul (dC (.int 39373)) (dVar 1))) (dC (.int 17))) (dCons (dC (.int 0)) dNil))))))
def goal_Lbox : Prop := ∀ (x0 x1 : D) (S : Store) (P : D → Store → Prop), sp_Lbox [x0, x1] S P → rd_Lbox (dEnd P) [some x0, some x1, none] S
theorem len_Lbox : ∀ ds S P, sp_Lbox ds S P → ds.length = 2 := by
  rintro ds S P ⟨a, b, rfl, _⟩; rfl
theorem vc_Lbox : goal_Lbox := by
  rintro x0 x1 S P ⟨ns, k, e, h0, h1, h⟩
  cases e
  unfold rd_Lbox
  walk_at "dgo"
  refine ⟨ns, k, rfl, h0, fun c => ?_⟩
  walk_at "dgo"
  refine ⟨⟨by decide, by decide, by decide⟩, mulS2 (by (repeat' split) <;> decide), mulS, fun p hp => h p _ hp ⟨_, _, 0, rfl, ?_, ?_, ?_, by decide, by decide⟩⟩
  · rw [abs_if]
    split <;> simp
  · have := Int.emod_nonneg c (show (2305843009213693951 : Int) ≠ 0 by decide)
    omega
  · have := Int.emod_lt_of_pos c (show (0 : Int) < 2305843009213693951 by decide)
    omega
def sp_Ltake : DSp := fun ds S P => ∃ (p : Addr) (size : Int) (n : Nat), ds = [.obj p, .int size] ∧ 0 < size ∧ size ≤ 2 ^ 40 ∧ BoxAt S p n ∧ n ≤ 1000000000 ∧ ∀ x S', 0 ≤ x → x < size → Drew S S' p (n + 1) → P (.int x) S'
def rd_Ltake : DS :=
  (dSeq (dIfS (dTest (dOp dGt (dOp dIx (dVar 0) (dC (.int 0))) (dC (.int 0)))) (dSeq (dSet 2 (dOp dMod (dOp dIx (dVar 0) (dC (.int 0))) (dVar 1)))
  (dSeq (dSetIx (dOp dFdiv (dOp dIx (dVar 0) (dC (.int 0))) (dVar 1)) (dVar 0) (dC (.int 0)))
  (dRet (dVar 2)))) dNext)
  (dSeq (dSetIx (dOp dAdd (dOp dIx (dVar 0) (dC (.int 2))) (dC (.int 1))) (dVar 0) (dC (.int 2)))
  (dSeq (dSet 3 (dOp dMod (dOp dMul (dOp dAdd (dOp dIx (dVar 0) (dC (.int 1))) (dOp dMul (dC (.int 48271)) (dOp dIx (dVar 0) (dC (.int 2))))) (dOp dAdd (dC (.int 39373)) (dOp dIx (dVar 0) (dC (.int 2))))) (dC (.int 2147483647))))
  (dSeq (dSet 4 (dOp dMod (dOp dMul (dOp dAdd (dOp dAdd (dVar 3) (dOp dIx (dVar 0) (dC (.int 2)))) (dOp dFdiv (dOp dIx (dVar 0) (dC (.int 1))) (dC (.int 1000003)))) (dOp dAdd (dOp dMod (dVar 3) (dC (.int 40009))) (dC (.int 7)))) (dC (.int 2147483629))))
  (dRet (dOp dMod (dOp dFdiv (dOp dMod (dOp dAdd (dOp dMul (dVar 4) (dC (.int 48271))) (dVar 3)) (dC (.int 2147483587))) (dC (.int 64))) (dVar 1)))))))
def goal_Ltake : Prop := ∀ (x0 x1 : D) (S : Store) (P : D → Store → Prop), sp_Ltake [x0, x1] S P → rd_Ltake (dEnd P) [some x0, some x1, none, none, none] S
theorem len_Ltake : ∀ ds S P, sp_Ltake ds S P → ds.length = 2 := by
  rintro ds S P ⟨a, b, n, rfl, _⟩; rfl
theorem vc_Ltake : goal_Ltake := by
  rintro x0 x1 S P ⟨p, size, n, e, h0, h1, ⟨a, s, t, eb, b1, b2, b3, b4, b5⟩, hn, h⟩
  cases e
  unfold rd_Ltake dSetIx
  walk_at "dgo"
  simp only [eb]
  walk_at "dgo"
  have hx : ∀ y : Int, 0 ≤ y % size ∧ y % size < size := fun y => ⟨Int.emod_nonneg y (by omega), Int.emod_lt_of_pos y h0⟩
  split
  · rename_i ha
    refine ⟨h0, divS (by omega) (by omega), ?_⟩
    have e0 : ixN (0 + 1 + 1 + 1) 0 = some 0 := rfl
    simp only [e0, List.set_cons_zero]
    walk_at "dgo"
    exact h _ _ (hx a).1 (hx a).2 ⟨_, _, _, rfl, by rw [Int.fdiv_eq_ediv_of_nonneg _ (by omega)]; exact Int.ediv_nonneg b1 (by omega), b2, b3, b4, by omega⟩
  · have e2 : ixN (0 + 1 + 1 + 1) 2 = some 2 := rfl
    simp only [e2, List.set_cons_zero, List.set_cons_succ]
    walk_at "dgo"
    try simp only [supd_same]
    walk_at "dgo"
    have ht : t ≤ 1000000000 := by
      have hn2 : n ≤ 1000000000 := hn
      omega
    generalize hy1 : (s + 48271 * (t + 1)) * (39373 + (t + 1)) = y1
    have m1 : 0 ≤ y1 % 2147483647 ∧ y1 % 2147483647 < 2147483647 := ⟨Int.emod_nonneg _ (by decide), Int.emod_lt_of_pos _ (by decide)⟩
    generalize y1 % 2147483647 = z1 at *
    have hd : 0 ≤ s.fdiv 1000003 ∧ s.fdiv 1000003 ≤ s := by
      rw [Int.fdiv_eq_ediv_of_nonneg _ (by decide)]
      constructor
      · exact Int.ediv_nonneg b2 (by decide)
      · exact Int.ediv_le_self _ b2
    generalize s.fdiv 1000003 = z2 at *
    have m2 : 0 ≤ z1 % 40009 ∧ z1 % 40009 < 40009 := ⟨Int.emod_nonneg _ (by decide), Int.emod_lt_of_pos _ (by decide)⟩
    generalize z1 % 40009 = z3 at *
    generalize hy2 : (z1 + (t + 1) + z2) * (z3 + 7) = y2
    have m3 : 0 ≤ y2 % 2147483629 ∧ y2 % 2147483629 < 2147483629 := ⟨Int.emod_nonneg _ (by decide), Int.emod_lt_of_pos _ (by decide)⟩
    generalize y2 % 2147483629 = z4 at *
    refine ⟨mulS, mulS (by omega), divS (by decide) (by decide), mulS (by omega), mulS (by omega), divS (by decide) (by decide), h0, ?_⟩
    exact h _ _ (hx _).1 (hx _).2 ⟨_, _, _, rfl, b1, b2, b3, by omega, by omega⟩
def sp_Lof : DSp := fun ds S P => ∃ (p : Addr) (y : D) (xs : List D) (n : Nat), ds = [.obj p, y] ∧ (y = .lst xs ∨ y = .tup xs) ∧ 0 < xs.length ∧ xs.length ≤ 100000 ∧ BoxAt S p n ∧ n ≤ 1000000000 ∧ ∀ x S', x ∈ xs → Drew S S' p (n + 1) → P x S'
def rd_Lof : DS :=
  (dRet (dOp dIx (dVar 1) (dCB sp_Ltake (dCons (dVar 0) (dCons (dCB cLen (dCons (dVar 1) dNil)) dNil)))))
def goal_Lof : Prop := ∀ (x0 x1 : D) (S : Store) (P : D → Store → Prop), sp_Lof [x0, x1] S P → rd_Lof (dEnd P) [some x0, some x1] S
theorem len_Lof : ∀ ds S P, sp_Lof ds S P → ds.length = 2 := by
  rintro ds S P ⟨a, b, xs, n, rfl, _⟩; rfl
theorem vc_Lof : goal_Lof := by
  rintro x0 x1 S P ⟨p, y, xs, n, e, hy, h0, h1, hb, hn, h⟩
  cases e
  unfold rd_Lof
  rcases hy with rfl | rfl
  all_goals
    walk_at "dgo"
    refine ⟨p, _, n, rfl, by omega, by omega, hb, hn, fun x S' hx1 hx2 hd => ?_⟩
    walk_at "dgo"
    have hl : x.toNat < xs.length := by omega
    rw [atI_at hx1 hx2, List.getElem?_eq_getElem hl]
    exact h _ _ (List.getElem_mem hl) hd
/-! ### the law's own fractions -/
def sp_Lfrac : DSp := fun ds S P => ∃ a b : Int, ds = [.int a, .int b] ∧ b ≠ 0 ∧ a.natAbs < 2 ^ 8900 ∧ b.natAbs < 2 ^ 8900 ∧ P (encR ((a : Rat) / (b : Rat))) S
def rd_Lfrac : DS :=
  (dSeq (dPar 2 3 (dCons (dCB cAbs (dCons (dVar 0) dNil)) (dCons (dCB cAbs (dCons (dVar 1) dNil)) dNil)))
  (dSeq (dWhile (dTest (dOp dGt (dVar 3) (dC (.int 0)))) (dPar 2 3 (dCons (dVar 3) (dCons (dOp dMod (dVar 2) (dVar 3)) dNil))))
  (dSeq (dSet 4 (dIf (dTest (dOp dGt (dVar 1) (dC (.int 0)))) (dC (.int 1)) (dUn dNeg (dC (.int 1)))))
  (dRet (dTup (dCons (dOp dFdiv (dOp dMul (dVar 4) (dVar 0)) (dVar 2)) (dCons (dOp dFdiv (dCB cAbs (dCons (dVar 1) dNil)) (dVar 2)) dNil)))))))
def goal_Lfrac : Prop := ∀ (x0 x1 : D) (S : Store) (P : D → Store → Prop), sp_Lfrac [x0, x1] S P → rd_Lfrac (dEnd P) [some x0, some x1, none, none, none] S
theorem len_Lfrac : ∀ ds S P, sp_Lfrac ds S P → ds.length = 2 := by
  rintro ds S P ⟨a, b, rfl, _⟩; rfl
theorem vc_Lfrac : goal_Lfrac := by
  rintro x0 x1 S P ⟨a, b, e, hb, h1, h2, h⟩
  cases e
  unfold rd_Lfrac dWhile
  walk_at "dgo"
  rw [abs_if, abs_if]
  refine ⟨fun m ρ S' => ∃ c d : Int, m = d.toNat ∧ ρ = [some (.int a), some (.int b), some (.int c), some (.int d), none] ∧ S' = S ∧ 0 ≤ c ∧ 0 ≤ d ∧ Int.gcd c d = Int.gcd a b, ⟨_, _, _, rfl, rfl, rfl, by omega, by omega, gcd_abs a b⟩, ?_⟩
  rintro m ρ S' ⟨c, d, rfl, rfl, rfl, hc, hd, hg⟩
  walk_at "dgo"
  split
  · rename_i h0
    have h1 := Int.emod_nonneg c (b := d) (by omega)
    have h2 := Int.emod_lt_of_pos c h0
    exact ⟨h0, (c % d).toNat, by omega, d, c % d, rfl, rfl, hd, h1, by rw [← hg]; exact gcd_step c d h0⟩
  · have : d = 0 := by omega
    subst this
    have e : (c : Int) = (Int.gcd a b : Int) := by
      rw [← hg, Int.gcd_zero_right]; omega
    have hg0 := gcd_pos_r (a := a) hb
    have hgl := gcd_le_r (a := a) hb
    have hdv : DivB c := divB (n := 8900) (by omega) (by omega) (by decide)
    rw [encR_frac hb] at h
    rw [abs_if]
    have hfin : P (D.tup [.int ((b.sign * a).fdiv c), .int ((b.natAbs : Int).fdiv c)]) S' := by
      rw [Int.fdiv_eq_ediv_of_nonneg _ (by omega), Int.fdiv_eq_ediv_of_nonneg _ (by omega), e]
      exact h
    by_cases hp : 0 < b
    · rw [if_pos hp]
      rw [Int.sign_eq_one_of_pos hp] at hfin
      exact ⟨mulS, hdv, hdv, hfin⟩
    · rw [if_neg hp]
      rw [Int.sign_eq_neg_one_of_neg (show b < 0 by omega)] at hfin
      exact ⟨mulS, hdv, hdv, hfin⟩
def sp_Lplus : DSp := sp_plus
def rd_Lplus : DS :=
  (dRet (dCB sp_Lfrac (dCons (dOp dAdd (dOp dMul (dOp dIx (dVar 0) (dC (.int 0))) (dOp dIx (dVar 1) (dC (.int 1)))) (dOp dMul (dOp dIx (dVar 1) (dC (.int 0))) (dOp dIx (dVar 0) (dC (.int 1))))) (dCons (dOp dMul (dOp dIx (dVar 0) (dC (.int 1))) (dOp dIx (dVar 1) (dC (.int 1)))) dNil))))
def goal_Lplus : Prop := ∀ (x0 x1 : D) (S : Store) (P : D → Store → Prop), sp_Lplus [x0, x1] S P → rd_Lplus (dEnd P) [some x0, some x1] S
theorem len_Lplus : ∀ ds S P, sp_Lplus ds S P → ds.length = 2 := len_plus
theorem vc_Lplus : goal_Lplus := vc_plus
def sp_Ltimes : DSp := sp_times
def rd_Ltimes : DS :=
  (dRet (dCB sp_Lfrac (dCons (dOp dMul (dOp dIx (dVar 0) (dC (.int 0))) (dOp dIx (dVar 1) (dC (.int 0)))) (dCons (dOp dMul (dOp dIx (dVar 0) (dC (.int 1))) (dOp dIx (dVar 1) (dC (.int 1)))) dNil))))
def goal_Ltimes : Prop := ∀ (x0 x1 : D) (S : Store) (P : D → Store → Prop), sp_Ltimes [x0, x1] S P → rd_Ltimes (dEnd P) [some x0, some x1] S
theorem len_Ltimes : ∀ ds S P, sp_Ltimes ds S P → ds.length = 2 := len_times
theorem vc_Ltimes : goal_Ltimes := vc_times
def sp_Lbelow : DSp := sp_is_below
def rd_Lbelow : DS :=
  (dRet (dOp dLt (dOp dMul (dOp dIx (dVar 0) (dC (.int 0))) (dOp dIx (dVar 1) (dC (.int 1)))) (dOp dMul (dOp dIx (dVar 1) (dC (.int 0))) (dOp dIx (dVar 0) (dC (.int 1))))))
def goal_Lbelow : Prop := ∀ (x0 x1 : D) (S : Store) (P : D → Store → Prop), sp_Lbelow [x0, x1] S P → rd_Lbelow (dEnd P) [some x0, some x1] S
theorem len_Lbelow : ∀ ds S P, sp_Lbelow ds S P → ds.length = 2 := len_is_below
theorem vc_Lbelow : goal_Lbelow := vc_is_below
def sp_Lpower : DSp := sp_power
def rd_Lpower : DS :=
  (dSeq (dSet 2 (dC (.int 1)))
  (dSeq (dFor (dRng1 (dCons (dCB cAbs (dCons (dVar 1) dNil)) dNil)) (.nm 3) (dSet 2 (dOp dMul (dVar 2) (dVar 0))))
  (dRet (dIf (dTest (dOp dGe (dVar 1) (dC (.int 0)))) (dTup (dCons (dVar 2) (dCons (dC (.int 1)) dNil))) (dTup (dCons (dC (.int 1)) (dCons (dVar 2) dNil)))))))
def goal_Lpower : Prop := ∀ (x0 x1 : D) (S : Store) (P : D → Store → Prop), sp_Lpower [x0, x1] S P → rd_Lpower (dEnd P) [some x0, some x1, none, none] S
theorem len_Lpower : ∀ ds S P, sp_Lpower ds S P → ds.length = 2 := len_power
theorem vc_Lpower : goal_Lpower := by
  rintro x0 x1 S P ⟨b, k, e, h1, h2, h3, h⟩
  cases e
  unfold rd_Lpower
  walk_at "dgo"
  rw [abs_if]
  refine ⟨by omega, by omega, fun i ρ S' => ∃ z, ρ = [some (.int b), some (.int k), some (.int (b ^ i)), z] ∧ S' = S, ⟨none, by simp, rfl⟩, ?_, ?_⟩
  · rintro i d ρ S' hd ⟨z, rfl, rfl⟩
    refine ⟨_, rfl, ?_⟩
    walk_at "dgo"
    refine ⟨mulS2, some d, ?_⟩
    rw [Int.pow_succ]
  · rintro ρ S' ⟨z, rfl, rfl⟩
    rw [rng_len]
    walk_at "dgo"
    by_cases hk : 0 ≤ k
    · rw [if_pos hk]
      rw [encR_zpow_nn b k hk] at h
      rw [show ((k.natAbs : Int)).toNat = k.toNat by omega]; exact h
    · rw [if_neg hk]
      rw [encR_zpow_neg b k h1 (by omega)] at h
      rw [show ((k.natAbs : Int)).toNat = (-k).toNat by omega]; exact h
/-! ### powers and order -/
theorem ratpos {b : Int} (h : 0 < b) : (0 : Rat) < (b : Rat) := Rat.intCast_pos.mpr h
/-! ### the least power that is enough -/
def IsLp (b room : Int) (need : Rat) (d : Int) : Prop := need ≤ (b : Rat) ^ d * (room : Rat) ∧ (b : Rat) ^ (d - 1) * (room : Rat) < need
/-! ### list comprehensions -/
/-- over the data of some things, the data of others, nothing drawn -/
theorem lc_mapA {α : Type} {t : Tgt} {de : DE} {P : D → Store → Prop} {xs : List α} {ρ : DSt} {S : Store} (f g : α → D) (hl : xs.length ≤ 100000)
    (h : ∀ a, a ∈ xs → ∃ ρ', t.put (f a) (dwipe ρ t.slots) = some ρ' ∧ ∀ Q : D → Store → Prop, Q (g a) S → de ρ' S Q) (q : P (.lst (xs.map g)) S) : LcB t dYes de P (xs.map f) ρ S := by
  refine ⟨by simpa using hl, fun i acc S' => acc = (xs.take i).map g ∧ S' = S, ⟨rfl, rfl⟩, ?_, ?_⟩
  · rintro i d acc S' hd ⟨rfl, rfl⟩
    rw [List.getElem?_map] at hd
    cases e : xs[i]? with
    | none => rw [e] at hd; cases hd
    | some a =>
      rw [e] at hd
      cases hd
      obtain ⟨ρ', h1, h2⟩ := h a (List.mem_of_getElem? e)
      refine ⟨ρ', h1, ?_⟩
      simp only [dYes, reduceIte]
      refine h2 _ ⟨?_, rfl⟩
      rw [List.take_add_one, e]
      simp
  · rintro acc S' ⟨rfl, rfl⟩
    rw [List.length_map, List.take_length]
    exact q
/-- each item by itself, with draws on the way: R of each, St between -/
theorem lc_st {t : Tgt} {de : DE} {P : D → Store → Prop} {ds : List D} {ρ : DSt} {S : Store} (R : Nat → D → Prop) (St : Nat → Store → Prop) (hl : ds.length ≤ 100000) (h0 : St 0 S)
    (h : ∀ (i : Nat) (d : D) (S' : Store), ds[i]? = some d → St i S' → ∃ ρ', t.put d (dwipe ρ t.slots) = some ρ' ∧ ∀ Q : D → Store → Prop, (∀ y S'', R i y → St (i + 1) S'' → Q y S'') → de ρ' S' Q)
    (q : ∀ ys S', ys.length = ds.length → (∀ i y, ys[i]? = some y → R i y) → St ds.length S' → P (.lst ys) S') : LcB t dYes de P ds ρ S := by
  refine ⟨hl, fun i acc S' => acc.length = i ∧ (∀ j y, acc[j]? = some y → R j y) ∧ St i S', ⟨rfl, by simp, h0⟩, ?_, ?_⟩
  · rintro i d acc S' hd ⟨rfl, hr, hs⟩
    obtain ⟨ρ', h1, h2⟩ := h _ d S' hd hs
    refine ⟨ρ', h1, ?_⟩
    simp only [dYes, reduceIte]
    refine h2 _ fun y S'' r s => ⟨by simp, fun j z hz => ?_, s⟩
    by_cases hj : j < acc.length
    · rw [List.getElem?_append_left hj] at hz
      exact hr j z hz
    · rw [List.getElem?_append_right (by omega)] at hz
      have hj2 : j = acc.length := by
        have := (List.getElem?_eq_some_iff.mp hz).1
        simp at this
        omega
      subst hj2
      simp at hz
      exact hz ▸ r
  · rintro acc S' ⟨h1, h2, h3⟩
    exact q acc S' h1 h2 h3
/-- lists of data with a property are data of things -/
theorem ex_map {α : Type} {f : α → D} {R : α → Prop} : ∀ {ys : List D}, (∀ y, y ∈ ys → ∃ a, y = f a ∧ R a) → ∃ as : List α, ys = as.map f ∧ ∀ a, a ∈ as → R a
  | [], _ => ⟨[], rfl, by simp⟩
  | y :: ys, h => by
    obtain ⟨a, rfl, ra⟩ := h y (by simp)
    obtain ⟨as, rfl, ras⟩ := ex_map (f := f) (R := R) (ys := ys) (fun z hz => h z (by simp [hz]))
    exact ⟨a :: as, rfl, fun b hb => by
      rcases List.mem_cons.mp hb with rfl | hb
      · exact ra
      · exact ras b hb⟩
/-! ### draws, only the box looked at -/
theorem take_ok {p : Addr} {n : Nat} {size : Int} {S : Store} {P : D → Store → Prop} (hb : BoxAt S p n) (h0 : 0 < size) (h1 : size ≤ 2 ^ 40) (hn : n ≤ 1000000000) (h : ∀ x S', 0 ≤ x → x < size → BoxAt S' p (n + 1) → P (.int x) S') : sp_Ltake [.obj p, .int size] S P :=
  ⟨p, size, n, rfl, h0, h1, hb, hn, fun x S' a b d => h x S' a b d.box⟩
theorem of_lst {p : Addr} {n : Nat} {xs : List D} {S : Store} {P : D → Store → Prop} (hb : BoxAt S p n) (h0 : 0 < xs.length) (h1 : xs.length ≤ 100000) (hn : n ≤ 1000000000) (h : ∀ x S', x ∈ xs → BoxAt S' p (n + 1) → P x S') : sp_Lof [.obj p, .lst xs] S P :=
  ⟨p, _, xs, n, rfl, .inl rfl, h0, h1, hb, hn, fun x S' a d => h x S' a d.box⟩
/-- numbers of a list, all with a property -/
theorem of_ints {p : Addr} {n : Nat} {ns : List Int} {S : Store} {P : D → Store → Prop} (R : Int → Prop) (hb : BoxAt S p n) (h0 : 0 < ns.length) (h1 : ns.length ≤ 100000) (hn : n ≤ 1000000000) (hr : ∀ z, z ∈ ns → R z) (h : ∀ z S', R z → BoxAt S' p (n + 1) → P (.int z) S') : sp_Lof [.obj p, .lst (ns.map .int)] S P :=
  of_lst hb (by simpa using h0) (by simpa using h1) hn fun x S' hx hb' => by
    obtain ⟨z, hz, rfl⟩ := List.mem_map.mp hx
    exact h z S' (hr z hz) hb'
/-- all things of a list comprehension with a property -/
theorem all_ints {ys : List D} {R : Int → Prop} (h : ∀ (i : Nat) (y : D), ys[i]? = some y → ∃ z, y = D.int z ∧ R z) : ∃ ns : List Int, ys = ns.map .int ∧ ∀ z, z ∈ ns → R z :=
  ex_map fun y hy => by
    obtain ⟨i, hi⟩ := List.mem_iff_getElem?.mp hy
    exact h i y hi
/-! ### the greatest of a list -/
def maxI (ms : List Int) : Int := ms.foldr (fun a b => max a b) 0
theorem maxI_mem : ∀ {ms : List Int}, ms ≠ [] → (∀ m ∈ ms, 0 ≤ m) → maxI ms ∈ ms
  | [a], _, h => by
    have e : maxI [a] = max a 0 := rfl
    have := h a (by simp)
    rw [e]; simp; omega
  | a :: b :: r, _, h => by
    have e : maxI (a :: b :: r) = max a (maxI (b :: r)) := rfl
    have ih := maxI_mem (ms := b :: r) (by simp) (fun m hm => h m (by simp [hm]))
    rcases Int.le_total a (maxI (b :: r)) with q | q
    · have : max a (maxI (b :: r)) = maxI (b :: r) := by omega
      rw [e, this]
      exact List.mem_cons_of_mem _ ih
    · have : max a (maxI (b :: r)) = a := by omega
      rw [e, this]; simp
/-! ### kinds, sources, widths -/
inductive Kd where
  | sum (ws : List Int) (o : Int)
  | least
  | most
  | times
  | over (k : Int)
def Kd.d : Kd → D
  | .sum ws o => .tup [.str "sum", .tup (ws.map .int), .int o]
  | .least => .tup [.str "least"]
  | .most => .tup [.str "most"]
  | .times => .tup [.str "times"]
  | .over k => .tup [.str "over", .int k]
def abI (a : Int) : Int := if a < 0 then -a else a
def sumW (ws ms : List Int) : Int := (List.zipWith (fun w m => abI w * m) ws ms).sum
def Kd.wide (b : Int) (ss : List (Int × Int)) : Kd → Rat
  | .sum ws o => ((sumW ws (ss.map (·.2)) : Int) : Rat) / (o : Rat)
  | .times => match ss with
    | [(e0, m0), (e1, m1)] => ((m0 * m1 : Int) : Rat) / ((b - 1 : Int) : Rat) * ((b : Rat) ^ e0 + (b : Rat) ^ e1)
    | _ => 0
  | .over k => match ss with
    | [(e0, m0), (_, m1)] => ((m0 : Int) : Rat) * (b : Rat) ^ k * (((1 : Int) : Rat) + ((m1 : Int) : Rat) / ((b - 1 : Int) : Rat) * (b : Rat) ^ k * (b : Rat) ^ e0)
    | _ => 0
  | _ => ((maxI (ss.map (·.2)) : Int) : Rat)
def Kd.Ok (ss : List (Int × Int)) : Kd → Prop
  | .sum ws o => ws.length = ss.length ∧ 0 < o ∧ o < 2 ^ 20 ∧ ∀ w ∈ ws, w ≠ 0 ∧ w.natAbs ≤ 100
  | .times => ss.length = 2
  | .over k => ss.length = 2 ∧ 0 ≤ k ∧ k ≤ 6
  | _ => True
structure SsOk (b : Int) (ss : List (Int × Int)) : Prop where
  b0 : 2 ≤ b
  b1 : b ≤ 16
  n0 : 1 ≤ ss.length
  n1 : ss.length ≤ 8
  each : ∀ q ∈ ss, (-30 ≤ q.1 ∧ q.1 ≤ 30) ∧ 1 ≤ q.2 ∧ q.2 ≤ 60
theorem sumW_bound : ∀ (ws ms : List Int) (n : Nat), ws.length ≤ n → (∀ w ∈ ws, w ≠ 0 ∧ w.natAbs ≤ 100) → (∀ m ∈ ms, 1 ≤ m ∧ m ≤ 60) → 0 ≤ sumW ws ms ∧ sumW ws ms ≤ 6000 * (n : Int) ∧ (ws ≠ [] → ms ≠ [] → 0 < sumW ws ms)
  | [], ms, n, _, _, _ => by
    have e : sumW [] ms = 0 := by unfold sumW; simp
    rw [e]; exact ⟨by omega, by omega, fun h => absurd rfl h⟩
  | w :: ws, [], n, _, _, _ => by
    have e : sumW (w :: ws) [] = 0 := by unfold sumW; simp
    rw [e]; exact ⟨by omega, by omega, fun _ h => absurd rfl h⟩
  | w :: ws, m :: ms, n, hn, hw, hm => by
    have e : sumW (w :: ws) (m :: ms) = abI w * m + sumW ws ms := by unfold sumW; simp
    obtain ⟨i1, i2, i3⟩ := sumW_bound ws ms (n - 1) (by simp at hn; omega) (fun x hx => hw x (by simp [hx])) (fun x hx => hm x (by simp [hx]))
    obtain ⟨w0, w1⟩ := hw w (by simp)
    obtain ⟨m0, m1⟩ := hm m (by simp)
    have a0 : 1 ≤ abI w ∧ abI w ≤ 100 := by unfold abI; split <;> omega
    have p1 : 1 * 1 ≤ abI w * m := Int.mul_le_mul a0.1 m0 (by decide) (by omega)
    have p2 : abI w * m ≤ 100 * 60 := Int.mul_le_mul a0.2 m1 (by omega) (by decide)
    have hn1 : 1 ≤ n := by simp at hn; omega
    rw [e]
    exact ⟨by omega, by omega, fun _ _ => by omega⟩
theorem div_pos' {x y : Rat} (hx : 0 < x) (hy : 0 < y) : 0 < x / y := by
  rw [Rat.div_def]
  exact Rat.mul_pos hx (Rat.inv_pos.mpr hy)
theorem SsOk.mosts {b : Int} {ss : List (Int × Int)} (h : SsOk b ss) : ∀ m ∈ ss.map (·.2), 1 ≤ m ∧ m ≤ 60 := fun m hm => by
  obtain ⟨q, hq, rfl⟩ := List.mem_map.mp hm
  exact (h.each q hq).2
theorem SsOk.max {b : Int} {ss : List (Int × Int)} (h : SsOk b ss) : 1 ≤ maxI (ss.map (·.2)) ∧ maxI (ss.map (·.2)) ≤ 60 := by
  have hne : ss.map (·.2) ≠ [] := by
    have n0 := h.n0
    intro z
    have z2 : ss = [] := by simpa using z
    rw [z2] at n0
    exact absurd n0 (by decide)
  exact h.mosts _ (maxI_mem hne fun m hm => by have := h.mosts m hm; omega)
section
variable {b : Int} {ss : List (Int × Int)}
theorem SsOk.bp (h : SsOk b ss) : (0 : Rat) < (b : Rat) := ratpos (by have := h.b0; omega)
theorem SsOk.cp (h : SsOk b ss) : (0 : Rat) < ((b - 1 : Int) : Rat) := ratpos (by have := h.b0; omega)
theorem SsOk.cne (h : SsOk b ss) : (b - 1 : Int) ≠ 0 := by have := h.b0; omega
theorem SsOk.sb (h : SsOk b ss) {e : Int} (h1 : -30 ≤ e) (h2 : e ≤ 30) : Sz 121 ((b : Rat) ^ e) := (sz_zpow (k := e) (by have := h.b0; omega) (by have := h.b1; omega)).mono (by omega)
theorem SsOk.sf (h : SsOk b ss) {m : Int} (hm : m.natAbs < 2 ^ 12) : Sz 12 ((m : Rat) / ((b - 1 : Int) : Rat)) := sz_frac h.cne hm (by have := h.b0; have := h.b1; omega)
theorem mm_bound {m0 m1 : Int} (h0 : 1 ≤ m0 ∧ m0 ≤ 60) (h1 : 1 ≤ m1 ∧ m1 ≤ 60) : (m0 * m1).natAbs < 2 ^ 12 := by
  rw [Int.natAbs_mul]
  have := Nat.mul_le_mul (show m0.natAbs ≤ 60 by omega) (show m1.natAbs ≤ 60 by omega)
  omega
theorem SsOk.wide (h : SsOk b ss) {kd : Kd} (hk : kd.Ok ss) : 0 < kd.wide b ss ∧ Sz 398 (kd.wide b ss) := by
  have mx := h.max
  have mr : (0 : Rat) < ((maxI (ss.map (·.2)) : Int) : Rat) ∧ Sz 398 ((maxI (ss.map (·.2)) : Int) : Rat) := ⟨ratpos (by omega), (sz_int (n := 6) (by omega)).mono (by decide)⟩
  cases kd with
  | least => exact mr
  | most => exact mr
  | sum ws o =>
    obtain ⟨h1, h2, h3, h4⟩ := hk
    obtain ⟨s0, s1, s2⟩ := sumW_bound ws (ss.map (·.2)) 8 (by have := h.n1; omega) h4 h.mosts
    have s3 := s2 (by
      intro z; subst z
      have := h.n0; simp at h1; omega) (by
      have n0 := h.n0
      intro z
      have z2 : ss = [] := by simpa using z
      rw [z2] at n0
      exact absurd n0 (by decide))
    refine ⟨div_pos' (ratpos s3) (ratpos h2), (sz_frac (n := 20) (by omega) ?_ ?_).mono (by decide)⟩
    · omega
    · omega
  | times =>
    match ss, hk, h with
    | [(e0, m0), (e1, m1)], _, h =>
      obtain ⟨q0, q1⟩ := h.each (e0, m0) (by simp)
      obtain ⟨r0, r1⟩ := h.each (e1, m1) (by simp)
      simp only at q0 q1 r0 r1
      have p0 := Rat.zpow_pos (n := e0) h.bp
      have p1 := Rat.zpow_pos (n := e1) h.bp
      have mmp : (0 : Rat) < ((m0 * m1 : Int) : Rat) := ratpos (Int.mul_pos (by omega) (by omega))
      exact ⟨Rat.mul_pos (div_pos' mmp h.cp) (by grind), (sz_mul (h.sf (mm_bound q1 r1)) (sz_add (h.sb q0.1 q0.2) (h.sb r0.1 r0.2))).mono (by decide)⟩
  | over k =>
    obtain ⟨hl, k0, k1⟩ := hk
    match ss, hl, h with
    | [(e0, m0), (e1, m1)], _, h =>
      obtain ⟨q0, q1⟩ := h.each (e0, m0) (by simp)
      obtain ⟨r0, r1⟩ := h.each (e1, m1) (by simp)
      simp only at q0 q1 r0 r1
      have p0 := Rat.zpow_pos (n := e0) h.bp
      have pk := Rat.zpow_pos (n := k) h.bp
      have m0p : (0 : Rat) < (m0 : Rat) := ratpos (by omega)
      have m1p : (0 : Rat) < (m1 : Rat) := ratpos (by omega)
      have := Rat.mul_pos (Rat.mul_pos (div_pos' m1p h.cp) pk) p0
      have one : ((1 : Int) : Rat) = 1 := rfl
      have sk : Sz 25 ((b : Rat) ^ k) := (sz_zpow (k := k) (by have := h.b0; omega) (by have := h.b1; omega)).mono (by omega)
      have n0 : Sz 12 (m0 : Rat) := sz_int (by omega)
      have f1 := h.sf (m := m1) (by omega)
      have o1 : Sz 1 ((1 : Int) : Rat) := sz_int (by decide)
      exact ⟨Rat.mul_pos (Rat.mul_pos m0p pk) (by rw [one]; grind), (sz_mul (sz_mul n0 sk) (sz_add o1 (sz_mul (sz_mul f1 sk) (h.sb q0.1 q0.2)))).mono (by decide)⟩
/-- twice the width -/
def Kd.need (b : Int) (ss : List (Int × Int)) (kd : Kd) : Rat := ((2 : Int) : Rat) * kd.wide b ss
theorem SsOk.need (h : SsOk b ss) {kd : Kd} (hk : kd.Ok ss) : 0 < kd.need b ss ∧ Sz 400 (kd.need b ss) :=
  ⟨Rat.mul_pos (by decide) (h.wide hk).1, (sz_mul (sz_int (n := 2) (k := 2) (by decide)) (h.wide hk).2).mono (by decide)⟩
end
theorem IsLp.up {b room d : Int} {q : Rat} (hb : 1 ≤ b) (h : IsLp b room q d) : IsLp b room (q * (b : Rat)) (d + 1) := by
  have hp : (0 : Rat) < (b : Rat) := ratpos (by omega)
  have hn : (b : Rat) ≠ 0 := by grind
  have e2 : (b : Rat) ^ (d + 1 - 1) = (b : Rat) ^ (d - 1) * (b : Rat) := by
    rw [← Rat.zpow_add_one hn]; congr 1; omega
  obtain ⟨h1, h2⟩ := h
  constructor
  · rw [Rat.zpow_add_one hn]
    have := Rat.mul_le_mul_of_nonneg_right h1 (Rat.le_of_lt hp)
    grind
  · rw [e2]
    have := Rat.mul_lt_mul_of_pos_right h2 hp
    grind
/-- what told_lag is asked about -/
inductive TKd where
  | kd (k : Kd)
  | loose (xs : List D)
  | told (x : D)
  | choose
  | moved (k : Int)
def TKd.d : TKd → D
  | .kd k => k.d
  | .loose xs => .tup [.str "loose", .tup xs]
  | .told x => .tup [.str "told", x]
  | .choose => .tup [.str "choose"]
  | .moved k => .tup [.str "moved", .int k]
def TKd.Ok (b : Int) (ss : List (Int × Int)) (most : Int) : TKd → Prop
  | .kd k => SsOk b ss ∧ k.Ok ss ∧ b ≤ 2 * most ∧ most ≤ 60
  | _ => True
theorem zipD_map {α β : Type} (f : α → D) (g : β → D) : ∀ (xs : List α) (ys : List β), zipD (xs.map f) (ys.map g) = (xs.zip ys).map fun p => .tup [f p.1, g p.2]
  | [], _ => by simp [zipD]
  | _ :: _, [] => by simp [zipD]
  | x :: xs, y :: ys => by
    have := zipD_map f g xs ys
    unfold zipD at this ⊢
    simp [this]
theorem dBools_mapF {α : Type} (F : α → Bool) (xs : List α) : dBools (xs.map fun a => .bl (F a)) = some (xs.map F) := by
  have := dBools_map (xs.map F)
  rwa [List.map_map] at this
/-! ### plain data -/
inductive Plain : Nat → D → Prop
  | non {n} : Plain n .non
  | bl {n b} : Plain n (.bl b)
  | int {n i} : Plain n (.int i)
  | str {n z} : Plain n (.str z)
  | lst {n ds} (hl : ds.length ≤ 100000) (h : ∀ y, y ∈ ds → Plain n y) : Plain (n + 1) (.lst ds)
  | tup {n ds} (hl : ds.length ≤ 100000) (h : ∀ y, y ∈ ds → Plain n y) : Plain (n + 1) (.tup ds)
theorem Plain.mono {n : Nat} {x : D} (h : Plain n x) : ∀ {m : Nat}, n ≤ m → Plain m x := by
  induction h with
  | non => intro m _; exact .non
  | bl => intro m _; exact .bl
  | int => intro m _; exact .int
  | str => intro m _; exact .str
  | lst hl h ih => intro m hm; cases m with
    | zero => omega
    | succ m => exact .lst hl fun y hy => ih y hy (by omega)
  | tup hl h ih => intro m hm; cases m with
    | zero => omega
    | succ m => exact .tup hl fun y hy => ih y hy (by omega)
/-! ### the same -/
def spr_Lsame : Nat → DSp
  | 0 => fun _ _ _ => False
  | n + 1 => fun ds S P => ∃ x, ds = [x, x] ∧ Plain n x ∧ P (.bl true) S
def sp_Lsame : DSp := spr_Lsame 6
def rd_Lsame (sp_Lsame : DSp) : DS :=
  (dSeq (dIfS (dTest (dCB cIsi (dCons (dVar 1) (dCons (dTup (dCons (dC (.ty "list")) (dCons (dC (.ty "tuple")) dNil))) dNil)))) (dSeq (dIfS (dOr (dTest (dOp dNe (dCB cIsi (dCons (dVar 0) (dCons (dC (.ty "list")) dNil))) (dCB cIsi (dCons (dVar 1) (dCons (dC (.ty "list")) dNil))))) (dTest (dOp dNe (dCB cIsi (dCons (dVar 0) (dCons (dC (.ty "tuple")) dNil))) (dCB cIsi (dCons (dVar 1) (dCons (dC (.ty "tuple")) dNil)))))) (dRet (dC (.bl false))) dNext)
  (dRet (dAndV (dOp dEq (dCB cLen (dCons (dVar 0) dNil)) (dCB cLen (dCons (dVar 1) dNil))) (dCB cAll (dCons (dLc (dZip (dCons (dVar 0) (dCons (dVar 1) dNil))) (.tp [(.nm 2), (.nm 3)]) dYes (dCB sp_Lsame (dCons (dVar 2) (dCons (dVar 3) dNil)))) dNil))))) dNext)
  (dSeq (dIfS (dOr (dTest (dOp dNe (dCB cIsi (dCons (dVar 0) (dCons (dC (.ty "bool")) dNil))) (dCB cIsi (dCons (dVar 1) (dCons (dC (.ty "bool")) dNil))))) (dTest (dOp dNe (dCB cIsi (dCons (dVar 0) (dCons (dC (.ty "int")) dNil))) (dCB cIsi (dCons (dVar 1) (dCons (dC (.ty "int")) dNil)))))) (dRet (dC (.bl false))) dNext)
  (dRet (dOp dEq (dVar 0) (dVar 1)))))
def goal_Lsame : Prop := ∀ (n : Nat) (x0 x1 : D) (S : Store) (P : D → Store → Prop), spr_Lsame (n + 1) [x0, x1] S P → rd_Lsame (spr_Lsame n) (dEnd P) [some x0, some x1, none, none] S
theorem z_Lsame : ∀ ds S P, spr_Lsame 0 ds S P → False := fun _ _ _ h => h
theorem len_Lsame : ∀ n ds S P, spr_Lsame n ds S P → ds.length = 2
  | 0, _, _, _, h => h.elim
  | n + 1, _, _, _, ⟨x, rfl, _⟩ => rfl
theorem zipD_self (ds : List D) : zipD ds ds = ds.map fun d => .tup [d, d] := by
  unfold zipD
  induction ds with
  | nil => rfl
  | cons d ds ih => simp [ih]
theorem all_same {t : Tgt} {de : DE} {P : D → Store → Prop} {ds : List D} {f : D → D} {ρ : DSt} {S : Store} (hl : ds.length ≤ 100000)
    (h : ∀ d, d ∈ ds → ∃ ρ', t.put (f d) (dwipe ρ t.slots) = some ρ' ∧ ∀ Q : D → Store → Prop, Q (.bl true) S → de ρ' S Q) (q : P (.bl true) S) : LcB t dYes de (fun x S1 => cAll [x] S1 P) (ds.map f) ρ S := by
  refine lc_mapA f (fun _ => .bl true) hl h ?_
  unfold cAll
  simp only [lstOf, Option.bind]
  have e : (ds.map fun _ => D.bl true) = (ds.map fun _ => true).map D.bl := by rw [List.map_map]; rfl
  rw [e, dBools_map]
  have e2 : (ds.map fun _ => true).all id = true := by simp
  simp only [e2]
  exact q
theorem vc_Lsame : goal_Lsame := by
  rintro n x0 x1 S P ⟨x, e, hp, h⟩
  cases e
  unfold rd_Lsame
  cases hp with
  | non => walk_at "dgo"; exact h
  | bl => walk_at "dgo"; exact h
  | int => walk_at "dgo"; exact h
  | str => walk_at "dgo"; exact h
  | lst hl hy =>
    walk_at "dgo"
    rw [zipD_self]
    refine all_same hl (fun d hd => ⟨_, rfl, fun Q q => ?_⟩) h
    walk_at "dgo"
    exact ⟨d, rfl, hy d hd, q⟩
  | tup hl hy =>
    walk_at "dgo"
    rw [zipD_self]
    refine all_same hl (fun d hd => ⟨_, rfl, fun Q q => ?_⟩) h
    walk_at "dgo"
    exact ⟨d, rfl, hy d hd, q⟩
theorem dcut_len (xs : List D) (lo hi : Option Int) : (dcut xs lo hi).length ≤ xs.length := by
  unfold dcut
  rw [List.length_take, List.length_drop]
  omega
/-- plain, of a text so long at most -/
def Gd (n c : Nat) (x : D) : Prop := Plain n x ∧ Rpd (n + 1) c x
theorem Gd.mono {n c n' c' : Nat} {x : D} (h : Gd n c x) (h1 : n ≤ n') (h2 : c ≤ c') : Gd n' c' x := ⟨h.1.mono h1, h.2.mono (by omega) h2⟩
theorem gd_non : Gd 0 13 .non := ⟨.non, rp_non⟩
theorem gd_bl {b : Bool} : Gd 0 13 (.bl b) := ⟨.bl, rp_bl⟩
theorem gd_int {i : Int} (h : i.natAbs < 10 ^ 12 := by omega) : Gd 0 13 (.int i) := ⟨.int, rp_int h⟩
theorem gd_str {z : Str} (h : (reprText z).length ≤ 13 := by decide +kernel) : Gd 0 13 (.str z) := ⟨.str, rp_str h⟩
theorem gd_tup {n c : Nat} (k : Nat) {ds : List D} (h : ∀ y, y ∈ ds → Gd n c y) (hl : ds.length ≤ k) (hk : k ≤ 100000 := by decide) : Gd (n + 1) (k * (c + 2) + 3) (.tup ds) := ⟨.tup (by omega) fun y hy => (h y hy).1, rp_tup (fun y hy => (h y hy).2) hl⟩
theorem gd_lst {n c : Nat} (k : Nat) {ds : List D} (h : ∀ y, y ∈ ds → Gd n c y) (hl : ds.length ≤ k) (hk : k ≤ 100000 := by decide) : Gd (n + 1) (k * (c + 2) + 3) (.lst ds) := ⟨.lst (by omega) fun y hy => (h y hy).1, rp_lst (fun y hy => (h y hy).2) hl⟩
/-! ### rows -/
structure Rw where
  e : Int
  m : Int
  fs : List Int
def Rw.d (r : Rw) : D := .tup [.int r.e, .int r.m, .tup (r.fs.map .int)]
/-- rows as they are drawn -/
structure Rw.Drawn (b : Int) (r : Rw) : Prop where
  e0 : -12 ≤ r.e
  e1 : r.e ≤ 12
  m0 : b ≤ 2 * r.m
  m1 : r.m ≤ 60
  l : r.fs.length ≤ 60
  f : ∀ f, f ∈ r.fs → -r.m ≤ f ∧ f ≤ r.m
def sp_Lmost : DSp := fun ds S P => ∃ (p : Addr) (n : Nat) (b : Int), ds = [.obj p, .int b] ∧ BoxAt S p n ∧ n ≤ 100000000 ∧ 2 ≤ b ∧ b ≤ 16 ∧ ∀ m S', b ≤ 2 * m → m ≤ 60 → BoxAt S' p (n + 3) → P (.int m) S'
def rd_Lmost : DS :=
  (dSeq (dSet 2 (dOp dFdiv (dOp dAdd (dVar 1) (dC (.int 1))) (dC (.int 2))))
  (dRet (dCB sp_Lof (dCons (dVar 0) (dCons (dLst (dCons (dVar 2) (dCons (dVar 2) (dCons (dCB cMax2 (dCons (dVar 2) (dCons (dOp dSub (dVar 1) (dC (.int 1))) dNil))) (dCons (dOp dAdd (dVar 2) (dCB sp_Ltake (dCons (dVar 0) (dCons (dC (.int 3)) dNil)))) (dCons (dOp dAdd (dVar 2) (dCB sp_Ltake (dCons (dVar 0) (dCons (dOp dSub (dC (.int 61)) (dVar 2)) dNil)))) dNil)))))) dNil)))))
def goal_Lmost : Prop := ∀ (x0 x1 : D) (S : Store) (P : D → Store → Prop), sp_Lmost [x0, x1] S P → rd_Lmost (dEnd P) [some x0, some x1, none] S
theorem len_Lmost : ∀ ds S P, sp_Lmost ds S P → ds.length = 2 := by
  rintro ds S P ⟨a, b, c, rfl, _⟩; rfl
theorem half_fdiv (b : Int) : (b + 1).fdiv 2 = (b + 1) / 2 := Int.fdiv_eq_ediv_of_nonneg _ (by decide)
theorem vc_Lmost : goal_Lmost := by
  rintro x0 x1 S P ⟨p, n, b, e, hb, hn, b0, b1, h⟩
  cases e
  unfold rd_Lmost
  walk_at "dgo"
  refine ⟨divS (by decide) (by decide), ?_⟩
  rw [half_fdiv]
  generalize hh : (b + 1) / 2 = half
  refine take_ok hb (by decide) (by decide) (by omega) fun x S1 x0 x1 hb1 => ?_
  walk_at "dgo"
  refine take_ok hb1 (by omega) (by omega) (by omega) fun y S2 y0 y1 hb2 => ?_
  walk_at "dgo"
  refine of_ints (ns := [half, half, (if b - 1 > half then b - 1 else half), half + x, half + y]) (fun z => b ≤ 2 * z ∧ z ≤ 60) hb2 (by simp) (by simp) (by omega) ?_ fun z S3 hz hb3 => h z S3 hz.1 hz.2 hb3
  intro z hz
  simp only [List.mem_cons, List.not_mem_nil, or_false] at hz
  rcases hz with rfl | rfl | rfl | rfl | rfl
  · omega
  · omega
  · split <;> omega
  · omega
  · omega
def sp_Lfigures : DSp := fun ds S P => ∃ (p : Addr) (n : Nat) (m k : Int), ds = [.obj p, .int m, .int k] ∧ BoxAt S p n ∧ n ≤ 100000000 ∧ 1 ≤ m ∧ m ≤ 60 ∧ 0 ≤ k ∧ k ≤ 60 ∧ ∀ (fs : List Int) S', fs.length = k.toNat → (∀ f, f ∈ fs → -m ≤ f ∧ f ≤ m) → BoxAt S' p (n + 61) → P (.tup (fs.map .int)) S'
def rd_Lfigures : DS :=
  (dSeq (dSet 3 (dCB sp_Ltake (dCons (dVar 0) (dCons (dC (.int 5)) dNil))))
  (dSeq (dIfS (dTest (dOp dLt (dVar 3) (dC (.int 2)))) (dRet (dCB cTuple (dCons (dOp dMul (dLst (dCons (dOp dIx (dLst (dCons (dVar 1) (dCons (dUn dNeg (dVar 1)) dNil))) (dVar 3)) dNil)) (dVar 2)) dNil))) dNext)
  (dSeq (dIfS (dTest (dOp dEq (dVar 3) (dC (.int 2)))) (dRet (dCB cTuple (dCons (dLc (dRng1 (dCons (dVar 2) dNil)) (.nm 4) dYes (dOp dSub (dCB sp_Ltake (dCons (dVar 0) (dCons (dC (.int 3)) dNil))) (dC (.int 1)))) dNil))) dNext)
  (dRet (dCB cTuple (dCons (dLc (dRng1 (dCons (dVar 2) dNil)) (.nm 4) dYes (dOp dSub (dCB sp_Ltake (dCons (dVar 0) (dCons (dOp dAdd (dOp dMul (dC (.int 2)) (dVar 1)) (dC (.int 1))) dNil))) (dVar 1))) dNil))))))
def goal_Lfigures : Prop := ∀ (x0 x1 x2 : D) (S : Store) (P : D → Store → Prop), sp_Lfigures [x0, x1, x2] S P → rd_Lfigures (dEnd P) [some x0, some x1, some x2, none, none] S
theorem len_Lfigures : ∀ ds S P, sp_Lfigures ds S P → ds.length = 3 := by
  rintro ds S P ⟨a, b, c, d, rfl, _⟩; rfl
theorem flat_rep {α : Type} (a : α) : ∀ n : Nat, (List.replicate n [a]).flatten = List.replicate n a
  | 0 => rfl
  | n + 1 => by rw [List.replicate_succ, List.flatten_cons, flat_rep a n]; rfl
/-- figures one by one by draws -/
theorem draw_figs {t : Tgt} {de : DE} {P : D → Store → Prop} {p : Addr} {n k : Nat} {ρ : DSt} {S : Store} {lo : Int} (R : Int → Prop) (hb : BoxAt S p n) (hk : k ≤ 100)
    (h : ∀ (d : D) (j : Nat) S', j < k → BoxAt S' p (n + j) → ∃ ρ', t.put d (dwipe ρ t.slots) = some ρ' ∧ ∀ Q : D → Store → Prop, (∀ z S'', R z → BoxAt S'' p (n + j + 1) → Q (.int z) S'') → de ρ' S' Q)
    (q : ∀ (fs : List Int) S', fs.length = k → (∀ f, f ∈ fs → R f) → BoxAt S' p (n + k) → P (.lst (fs.map .int)) S') : LcB t dYes de P (rng lo k) ρ S := by
  refine lc_st (fun _ y => ∃ z : Int, y = .int z ∧ R z) (fun i S' => BoxAt S' p (n + i)) (by rw [rng_len]; omega) hb (fun i d S' hd hs => ?_) fun ys S' hl hy hs => ?_
  · obtain ⟨ρ', h1, h2⟩ := h d i S' (rng_get hd).1 hs
    exact ⟨ρ', h1, fun Q hq => h2 Q fun z S'' hz hb' => hq _ _ ⟨z, rfl, hz⟩ hb'⟩
  · obtain ⟨fs, rfl, hfs⟩ := all_ints hy
    rw [rng_len] at hl hs
    rw [List.length_map] at hl
    exact q fs S' hl hfs hs
theorem vc_Lfigures : goal_Lfigures := by
  rintro x0 x1 x2 S P ⟨p, n, m, k, e, hb, hn, m0, m1, k0, k1, h⟩
  cases e
  unfold rd_Lfigures
  walk_at "dgo"
  refine take_ok hb (by decide) (by decide) (by omega) fun x S1 x0 x1 hb1 => ?_
  walk_at "dgo"
  split
  · walk_at "dgo"
    have hx : x = 0 ∨ x = 1 := by omega
    have rep : ∀ z : Int, (-m ≤ z ∧ z ≤ m) → P (.tup (List.replicate k.toNat (D.int z))) S1 := fun z hz => by
      have := h (List.replicate k.toNat z) S1 (by simp) (fun f hf => by rw [List.eq_of_mem_replicate hf]; exact hz) (hb1.mono (by omega))
      rwa [List.map_replicate] at this
    rcases hx with rfl | rfl
    · walk_at "dgo"
      rw [flat_rep]
      exact ⟨by omega, by omega, by omega, rep m (by omega)⟩
    · walk_at "dgo"
      rw [flat_rep]
      exact ⟨by omega, by omega, by omega, rep (-m) (by omega)⟩
  · walk_at "dgo"
    split
    · refine ⟨by omega, by omega, ?_⟩
      refine draw_figs (fun z => -m ≤ z ∧ z ≤ m) hb1 (by omega) (fun d j S' hj hs => ⟨_, rfl, fun Q hq => ?_⟩) fun fs S' hl hf hs => ?_
      · walk_at "dgo"
        refine take_ok hs (by decide) (by decide) (by omega) fun y S2 y0 y1 hb2 => ?_
        walk_at "dgo"
        exact hq _ _ (by omega) hb2
      · walk_at "dgo"
        exact h fs S' hl hf (hs.mono (by omega))
    · refine ⟨by omega, by omega, ?_⟩
      refine draw_figs (fun z => -m ≤ z ∧ z ≤ m) hb1 (by omega) (fun d j S' hj hs => ⟨_, rfl, fun Q hq => ?_⟩) fun fs S' hl hf hs => ?_
      · walk_at "dgo"
        refine ⟨mulS, ?_⟩
        refine take_ok hs (by omega) (by omega) (by omega) fun y S2 y0 y1 hb2 => ?_
        walk_at "dgo"
        exact hq _ _ (by omega) hb2
      · walk_at "dgo"
        exact h fs S' hl hf (hs.mono (by omega))
theorem BoxAt.other {S : Store} {p q : Addr} {n : Nat} {m : MO} (h : BoxAt S p n) (hq : p ≠ q) : BoxAt (supd S q m) p n := by
  obtain ⟨a, s, t, e, h⟩ := h
  exact ⟨a, s, t, by rw [supd_ne hq]; exact e, h⟩
theorem BoxAt.ne {S : Store} {p q : Addr} {n : Nat} (h : BoxAt S p n) (hq : S q = none) : p ≠ q := by
  obtain ⟨a, s, t, e, h⟩ := h
  intro z; rw [z, hq] at e; cases e
theorem all_bools {t : Tgt} {de : DE} {P : D → Store → Prop} {ds : List D} (F : D → Bool) {ρ : DSt} {S : Store} (hl : ds.length ≤ 100000)
    (h : ∀ d, d ∈ ds → ∃ ρ', t.put d (dwipe ρ t.slots) = some ρ' ∧ ∀ Q : D → Store → Prop, Q (.bl (F d)) S → de ρ' S Q) (q : P (.bl (ds.all F)) S) : LcB t dYes de (fun x S1 => cAll [x] S1 P) ds ρ S := by
  have e0 : ds = ds.map id := (List.map_id ds).symm
  rw [e0]
  refine lc_mapA id (fun d => .bl (F d)) hl h ?_
  unfold cAll
  simp only [lstOf, Option.bind]
  rw [dBools_mapF]
  have e2 : (ds.map F).all id = ds.all F := by rw [List.all_map]; rfl
  simp only [e2]
  exact q
/-! ### the law's own, other names, other ways -/
def sp_Lsum : DSp := sp_plus
def sp_Lless : DSp := sp_minus
def sp_Lby : DSp := sp_times
def rd_Lless : DS :=
  (dRet (dCB sp_Lfrac (dCons (dOp dSub (dOp dMul (dOp dIx (dVar 0) (dC (.int 0))) (dOp dIx (dVar 1) (dC (.int 1)))) (dOp dMul (dOp dIx (dVar 1) (dC (.int 0))) (dOp dIx (dVar 0) (dC (.int 1))))) (dCons (dOp dMul (dOp dIx (dVar 0) (dC (.int 1))) (dOp dIx (dVar 1) (dC (.int 1)))) dNil))))
def goal_Lless : Prop := ∀ (x0 x1 : D) (S : Store) (P : D → Store → Prop), sp_Lless [x0, x1] S P → rd_Lless (dEnd P) [some x0, some x1] S
theorem len_Lless : ∀ ds S P, sp_Lless ds S P → ds.length = 2 := len_minus
theorem vc_Lless : goal_Lless := vc_minus
/-! ### what rows may come to -/
def whole (b : Int) (fs : List Int) : Int := fs.foldl (fun a f => a * b + f) 0
def Rw.pw (b : Int) (r : Rw) : Rat := (b : Rat) ^ (r.e - (r.fs.length : Int))
def Rw.worth (b : Int) (r : Rw) : Rat := ((whole b r.fs : Int) : Rat) * r.pw b
def Rw.tail (b : Int) (r : Rw) : Rat := (r.m : Rat) / ((b - 1 : Int) : Rat) * r.pw b
def Rw.lo (b : Int) (r : Rw) : Rat := r.worth b - r.tail b
def Rw.hi (b : Int) (r : Rw) : Rat := r.worth b + r.tail b
structure Rw.Ok (b : Int) (r : Rw) : Prop where
  b0 : 2 ≤ b
  b1 : b ≤ 16
  e0 : -40 ≤ r.e
  e1 : r.e ≤ 40
  m0 : 0 ≤ r.m
  m1 : r.m ≤ 1000
  l : r.fs.length ≤ 80
  f : ∀ f, f ∈ r.fs → f.natAbs ≤ 1000
theorem Rw.Drawn.ok {b : Int} {r : Rw} (h : r.Drawn b) (b0 : 2 ≤ b) (b1 : b ≤ 16) : r.Ok b :=
  ⟨b0, b1, by have := h.e0; omega, by have := h.e1; omega, by have := h.m0; omega, by have := h.m1; omega, by have := h.l; omega, fun f hf => by have := h.f f hf; have := h.m1; omega⟩
theorem fold_bound {b : Int} (b0 : 2 ≤ b) (b1 : b ≤ 16) : ∀ (fs : List Int) (a : Int), (∀ f, f ∈ fs → f.natAbs ≤ 1000) → (fs.foldl (fun a f => a * b + f) a).natAbs + 1000 ≤ (a.natAbs + 1000) * 16 ^ fs.length
  | [], a, _ => by simp
  | f :: fs, a, h => by
    have ih := fold_bound b0 b1 fs (a * b + f) (fun z hz => h z (by simp [hz]))
    have h1 := h f (by simp)
    have h2 : (a * b).natAbs ≤ a.natAbs * 16 := by
      rw [Int.natAbs_mul]
      exact Nat.mul_le_mul_left _ (by omega)
    have h3 : (a * b + f).natAbs + 1000 ≤ (a.natAbs + 1000) * 16 := by
      have := Int.natAbs_add_le (a * b) f
      omega
    rw [List.foldl_cons, List.length_cons, Nat.pow_succ]
    refine Nat.le_trans ih (Nat.le_trans (Nat.mul_le_mul_right _ h3) ?_)
    rw [Nat.mul_assoc, Nat.mul_comm 16]
    exact Nat.le_refl _
section
variable {b : Int} {r : Rw}
theorem Rw.Ok.whole (h : r.Ok b) : (whole b r.fs).natAbs < 2 ^ 331 := by
  have h1 := fold_bound h.b0 h.b1 r.fs 0 h.f
  have h2 : (16 : Nat) ^ r.fs.length ≤ 16 ^ 80 := Nat.pow_le_pow_right (by decide) h.l
  have h3 : (1000 : Nat) * 16 ^ 80 < 2 ^ 331 := by decide
  unfold Lb.whole
  have h4 := Nat.mul_le_mul_left 1000 h2
  simp only [Int.natAbs_zero, Nat.zero_add] at h1
  generalize (16 : Nat) ^ r.fs.length = x at *
  generalize (16 : Nat) ^ 80 = y at *
  generalize (2 : Nat) ^ 331 = z at *
  omega
theorem Rw.Ok.pw (h : r.Ok b) : Sz 481 (r.pw b) := (sz_zpow (k := r.e - (r.fs.length : Int)) (by have := h.b0; omega) (by have := h.b1; omega)).mono (by
  have := h.e0; have := h.e1; have := h.l; omega)
theorem Rw.Ok.bp (h : r.Ok b) : (0 : Rat) < (b : Rat) := ratpos (by have := h.b0; omega)
theorem Rw.Ok.pwp (h : r.Ok b) : 0 < r.pw b := Rat.zpow_pos h.bp
theorem Rw.Ok.cne (h : r.Ok b) : (b - 1 : Int) ≠ 0 := by have := h.b0; omega
theorem Rw.Ok.cp (h : r.Ok b) : (0 : Rat) < ((b - 1 : Int) : Rat) := ratpos (by have := h.b0; omega)
theorem Rw.Ok.worth (h : r.Ok b) : Sz 820 (r.worth b) := (sz_mul (sz_int h.whole) h.pw).mono (by decide)
theorem Rw.Ok.fr (h : r.Ok b) : Sz 11 ((r.m : Rat) / ((b - 1 : Int) : Rat)) := sz_frac h.cne (by have := h.m0; have := h.m1; omega) (by have := h.b0; have := h.b1; omega)
theorem Rw.Ok.tail (h : r.Ok b) : Sz 500 (r.tail b) := (sz_mul h.fr h.pw).mono (by decide)
theorem Rw.Ok.lo (h : r.Ok b) : Sz 1330 (r.lo b) := (sz_sub h.worth h.tail).mono (by decide)
theorem Rw.Ok.hi (h : r.Ok b) : Sz 1330 (r.hi b) := (sz_add h.worth h.tail).mono (by decide)
end
theorem dcut_take {xs : List D} {k : Int} (h : 0 ≤ k) : dcut xs none (some k) = xs.take k.toNat := by
  unfold dcut HT.sIx
  simp only [List.drop_zero, Nat.sub_zero]
  rw [if_neg (by omega)]
  rw [List.take_eq_take_iff]
  omega
def spanD (b : Int) (r : Rw) : D := .tup [encR (r.lo b), encR (r.hi b)]
def sp_known_to : DSp := fun ds S P => ∃ r : Rw, ds = [r.d] ∧ P (.int ((r.fs.length : Int) - r.e)) S
def sp_whole_of : DSp := fun ds S P => ∃ (b : Int) (fs : List Int), ds = [.int b, .tup (fs.map .int)] ∧ b.natAbs ≤ 1000 ∧ P (.int (whole b fs)) S
def sp_worth_of : DSp := fun ds S P => ∃ (b : Int) (r : Rw), ds = [.int b, r.d] ∧ r.Ok b ∧ P (encR (r.worth b)) S
def sp_tail_of : DSp := fun ds S P => ∃ (b : Int) (r : Rw), ds = [.int b, r.d] ∧ r.Ok b ∧ P (encR (r.tail b)) S
def sp_span_of : DSp := fun ds S P => ∃ (b : Int) (r : Rw), ds = [.int b, r.d] ∧ r.Ok b ∧ P (spanD b r) S
def rd_known_to : DS :=
  (dSeq (dAsg (.tp [(.nm 1), (.nm 2), (.nm 3)]) (dVar 0))
  (dRet (dOp dSub (dCB cLen (dCons (dVar 3) dNil)) (dVar 1))))
def goal_known_to : Prop := ∀ (x0 : D) (S : Store) (P : D → Store → Prop), sp_known_to [x0] S P → rd_known_to (dEnd P) [some x0, none, none, none] S
def rd_whole_of : DS :=
  (dSeq (dSet 2 (dC (.int 0)))
  (dSeq (dFor (dItSeq (dVar 1)) (.nm 3) (dSet 2 (dOp dAdd (dOp dMul (dVar 2) (dVar 0)) (dVar 3))))
  (dRet (dVar 2))))
def goal_whole_of : Prop := ∀ (x0 x1 : D) (S : Store) (P : D → Store → Prop), sp_whole_of [x0, x1] S P → rd_whole_of (dEnd P) [some x0, some x1, none, none] S
def rd_worth_of : DS :=
  (dRet (dCB sp_times (dCons (dTup (dCons (dCB sp_whole_of (dCons (dVar 0) (dCons (dOp dIx (dVar 1) (dC (.int 2))) dNil))) (dCons (dC (.int 1)) dNil))) (dCons (dCB sp_power (dCons (dVar 0) (dCons (dUn dNeg (dCB sp_known_to (dCons (dVar 1) dNil))) dNil))) dNil))))
def goal_worth_of : Prop := ∀ (x0 x1 : D) (S : Store) (P : D → Store → Prop), sp_worth_of [x0, x1] S P → rd_worth_of (dEnd P) [some x0, some x1] S
def rd_tail_of : DS :=
  (dRet (dCB sp_times (dCons (dCB sp_frac (dCons (dOp dIx (dVar 1) (dC (.int 1))) (dCons (dOp dSub (dVar 0) (dC (.int 1))) dNil))) (dCons (dCB sp_power (dCons (dVar 0) (dCons (dUn dNeg (dCB sp_known_to (dCons (dVar 1) dNil))) dNil))) dNil))))
def goal_tail_of : Prop := ∀ (x0 x1 : D) (S : Store) (P : D → Store → Prop), sp_tail_of [x0, x1] S P → rd_tail_of (dEnd P) [some x0, some x1] S
def rd_span_of : DS :=
  (dSeq (dPar 2 3 (dCons (dCB sp_worth_of (dCons (dVar 0) (dCons (dVar 1) dNil))) (dCons (dCB sp_tail_of (dCons (dVar 0) (dCons (dVar 1) dNil))) dNil)))
  (dRet (dTup (dCons (dCB sp_minus (dCons (dVar 2) (dCons (dVar 3) dNil))) (dCons (dCB sp_plus (dCons (dVar 2) (dCons (dVar 3) dNil))) dNil)))))
def goal_span_of : Prop := ∀ (x0 x1 : D) (S : Store) (P : D → Store → Prop), sp_span_of [x0, x1] S P → rd_span_of (dEnd P) [some x0, some x1, none, none] S
theorem len_known_to : ∀ ds S P, sp_known_to ds S P → ds.length = 1 := by
  rintro ds S P ⟨a, rfl, _⟩; rfl
theorem len_whole_of : ∀ ds S P, sp_whole_of ds S P → ds.length = 2 := by
  rintro ds S P ⟨a, b, rfl, _⟩; rfl
theorem len_worth_of : ∀ ds S P, sp_worth_of ds S P → ds.length = 2 := by
  rintro ds S P ⟨a, b, rfl, _⟩; rfl
theorem len_tail_of : ∀ ds S P, sp_tail_of ds S P → ds.length = 2 := by
  rintro ds S P ⟨a, b, rfl, _⟩; rfl
theorem len_span_of : ∀ ds S P, sp_span_of ds S P → ds.length = 2 := by
  rintro ds S P ⟨a, b, rfl, _⟩; rfl
theorem vc_known_to : goal_known_to := by
  rintro x0 S P ⟨r, e, h⟩
  cases e
  unfold rd_known_to Rw.d
  walk_at "dgo"
  rw [List.length_map]
  exact h
theorem vc_whole_of : goal_whole_of := by
  rintro x0 x1 S P ⟨b, fs, e, hb, h⟩
  cases e
  unfold rd_whole_of
  walk_at "dgo"
  refine ⟨fun i ρ S' => S' = S ∧ ∃ z, ρ = [some (.int b), some (.tup (fs.map .int)), some (.int (whole b (fs.take i))), z], ⟨rfl, none, rfl⟩, ?_, ?_⟩
  · rintro i d ρ S' hd ⟨rfl, z, rfl⟩
    rw [List.getElem?_map] at hd
    cases e : fs[i]? with
    | none => rw [e] at hd; cases hd
    | some f =>
      rw [e] at hd; cases hd
      refine ⟨_, rfl, ?_⟩
      walk_at "dgo"
      refine ⟨mulS2, some (.int f), ?_⟩
      rw [List.take_add_one, e]
      unfold whole
      simp
  · rintro ρ S' ⟨rfl, z, rfl⟩
    rw [List.length_map, List.take_length]
    walk_at "dgo"
    exact h
theorem vc_worth_of : goal_worth_of := by
  rintro x0 x1 S P ⟨b, r, e, hr, h⟩
  cases e
  unfold rd_worth_of
  have b0 := hr.b0; have b1 := hr.b1; have e0 := hr.e0; have e1 := hr.e1; have hl := hr.l
  walk_at "dgo"
  simp only [Rw.d]
  walk_at "dgo"
  refine ⟨b, r.fs, rfl, by omega, r, rfl, ?_⟩
  walk_at "dgo"
  refine ⟨b, _, rfl, by omega, by omega, by omega, ((whole b r.fs : Int) : Rat), _, rfl, (sz_int hr.whole).mono (by decide), ?_, ?_⟩
  · have := hr.pw
    rw [show -((r.fs.length : Int) - r.e) = r.e - (r.fs.length : Int) by omega]
    exact this.mono (by decide)
  · rw [show -((r.fs.length : Int) - r.e) = r.e - (r.fs.length : Int) by omega]
    exact h
theorem vc_tail_of : goal_tail_of := by
  rintro x0 x1 S P ⟨b, r, e, hr, h⟩
  cases e
  unfold rd_tail_of
  have b0 := hr.b0; have b1 := hr.b1; have e0 := hr.e0; have e1 := hr.e1; have hl := hr.l; have m0 := hr.m0; have m1 := hr.m1
  walk_at "dgo"
  simp only [Rw.d]
  walk_at "dgo"
  refine ⟨r.m, b - 1, rfl, by omega, bound_mono (n := 12) (by omega), bound_mono (n := 12) (by omega), r, rfl, ?_⟩
  walk_at "dgo"
  refine ⟨b, _, rfl, by omega, by omega, by omega, _, _, rfl, hr.fr.mono (by decide), ?_, ?_⟩
  · have := hr.pw
    rw [show -((r.fs.length : Int) - r.e) = r.e - (r.fs.length : Int) by omega]
    exact this.mono (by decide)
  · rw [show -((r.fs.length : Int) - r.e) = r.e - (r.fs.length : Int) by omega]
    exact h
theorem vc_span_of : goal_span_of := by
  rintro x0 x1 S P ⟨b, r, e, hr, h⟩
  cases e
  unfold rd_span_of
  walk_at "dgo"
  refine ⟨b, r, rfl, hr, b, r, rfl, hr, ?_⟩
  walk_at "dgo"
  refine ⟨_, _, rfl, hr.worth.mono (by decide), hr.tail.mono (by decide), _, _, rfl, hr.worth.mono (by decide), hr.tail.mono (by decide), ?_⟩
  exact h
/-! ### the law's own worth and span -/
def sp_Lworth : DSp := sp_worth_of
def sp_Lspan : DSp := sp_span_of
def rd_Lworth : DS :=
  (dSeq (dSet 2 (dC (.int 0)))
  (dSeq (dFor (dItSeq (dOp dIx (dVar 1) (dC (.int 2)))) (.nm 3) (dSet 2 (dOp dAdd (dOp dMul (dVar 2) (dVar 0)) (dVar 3))))
  (dRet (dCB sp_Lby (dCons (dTup (dCons (dVar 2) (dCons (dC (.int 1)) dNil))) (dCons (dCB sp_Lpower (dCons (dVar 0) (dCons (dOp dSub (dOp dIx (dVar 1) (dC (.int 0))) (dCB cLen (dCons (dOp dIx (dVar 1) (dC (.int 2))) dNil))) dNil))) dNil))))))
def goal_Lworth : Prop := ∀ (x0 x1 : D) (S : Store) (P : D → Store → Prop), sp_Lworth [x0, x1] S P → rd_Lworth (dEnd P) [some x0, some x1, none, none] S
def rd_Lspan : DS :=
  (dSeq (dSet 2 (dCB sp_Lby (dCons (dCB sp_Lfrac (dCons (dOp dIx (dVar 1) (dC (.int 1))) (dCons (dOp dSub (dVar 0) (dC (.int 1))) dNil))) (dCons (dCB sp_Lpower (dCons (dVar 0) (dCons (dOp dSub (dOp dIx (dVar 1) (dC (.int 0))) (dCB cLen (dCons (dOp dIx (dVar 1) (dC (.int 2))) dNil))) dNil))) dNil))))
  (dSeq (dSet 3 (dCB sp_Lworth (dCons (dVar 0) (dCons (dVar 1) dNil))))
  (dRet (dTup (dCons (dCB sp_Lless (dCons (dVar 3) (dCons (dVar 2) dNil))) (dCons (dCB sp_Lsum (dCons (dVar 3) (dCons (dVar 2) dNil))) dNil))))))
def goal_Lspan : Prop := ∀ (x0 x1 : D) (S : Store) (P : D → Store → Prop), sp_Lspan [x0, x1] S P → rd_Lspan (dEnd P) [some x0, some x1, none, none] S
theorem len_Lworth : ∀ ds S P, sp_Lworth ds S P → ds.length = 2 := len_worth_of
theorem len_Lspan : ∀ ds S P, sp_Lspan ds S P → ds.length = 2 := len_span_of
theorem vc_Lworth : goal_Lworth := by
  rintro x0 x1 S P ⟨b, r, e, hr, h⟩
  cases e
  unfold rd_Lworth
  have b0 := hr.b0; have b1 := hr.b1; have e0 := hr.e0; have e1 := hr.e1; have hl := hr.l
  simp only [Rw.d]
  walk_at "dgo"
  refine ⟨fun i ρ S' => S' = S ∧ ∃ z, ρ = [some (.int b), some (.tup [.int r.e, .int r.m, .tup (r.fs.map .int)]), some (.int (whole b (r.fs.take i))), z], ⟨rfl, none, rfl⟩, ?_, ?_⟩
  · rintro i d ρ S' hd ⟨rfl, z, rfl⟩
    rw [List.getElem?_map] at hd
    cases e : r.fs[i]? with
    | none => rw [e] at hd; cases hd
    | some f =>
      rw [e] at hd; cases hd
      refine ⟨_, rfl, ?_⟩
      walk_at "dgo"
      refine ⟨mulS2, some (.int f), ?_⟩
      rw [List.take_add_one, e]
      unfold whole
      simp
  · rintro ρ S' ⟨rfl, z, rfl⟩
    rw [List.length_map, List.take_length]
    walk_at "dgo"
    rw [List.length_map]
    refine ⟨b, _, rfl, by omega, by omega, by omega, ((whole b r.fs : Int) : Rat), _, rfl, (sz_int hr.whole).mono (by decide), hr.pw.mono (by decide), h⟩
theorem vc_Lspan : goal_Lspan := by
  rintro x0 x1 S P ⟨b, r, e, hr, h⟩
  cases e
  unfold rd_Lspan
  have b0 := hr.b0; have b1 := hr.b1; have e0 := hr.e0; have e1 := hr.e1; have hl := hr.l; have m0 := hr.m0; have m1 := hr.m1
  simp only [Rw.d]
  walk_at "dgo"
  rw [List.length_map]
  refine ⟨r.m, b - 1, rfl, by omega, bound_mono (n := 12) (by omega), bound_mono (n := 12) (by omega), b, _, rfl, by omega, by omega, by omega, _, _, rfl, hr.fr.mono (by decide), hr.pw.mono (by decide), b, r, rfl, hr, ?_⟩
  walk_at "dgo"
  exact ⟨_, _, rfl, hr.worth.mono (by decide), hr.tail.mono (by decide), _, _, rfl, hr.worth.mono (by decide), hr.tail.mono (by decide), h⟩
/-! ### one figure more -/
def Rw.snoc (r : Rw) (f : Int) : Rw := ⟨r.e, r.m, r.fs ++ [f]⟩
theorem whole_snoc (b : Int) (fs : List Int) (f : Int) : whole b (fs ++ [f]) = whole b fs * b + f := by unfold whole; simp
/-- the next place's power -/
def Rw.nx (b : Int) (r : Rw) : Rat := (b : Rat) ^ (r.e - (r.fs.length : Int) - 1)
section
variable {b : Int} {r : Rw}
theorem Rw.snoc_pw (r : Rw) (f : Int) : (r.snoc f).pw b = r.nx b := by
  unfold Rw.pw Rw.nx Rw.snoc
  simp only [List.length_append, List.length_cons, List.length_nil]
  congr 1; omega
theorem Rw.pw_nx (h : b ≠ 0) : r.pw b = r.nx b * (b : Rat) := by
  unfold Rw.pw Rw.nx
  have hb : (b : Rat) ≠ 0 := by exact_mod_cast h
  rw [← Rat.zpow_add_one hb]
  congr 1; omega
theorem Rw.snoc_worth (h : b ≠ 0) (f : Int) : (r.snoc f).worth b = r.worth b + (f : Rat) * r.nx b := by
  unfold Rw.worth
  rw [Rw.snoc_pw, Rw.pw_nx h]
  show ((whole b (r.fs ++ [f]) : Int) : Rat) * _ = _
  rw [whole_snoc, Rat.intCast_add, Rat.intCast_mul]
  grind
theorem Rw.snoc_tail (f : Int) : (r.snoc f).tail b = (r.m : Rat) / ((b - 1 : Int) : Rat) * r.nx b := by
  unfold Rw.tail
  rw [Rw.snoc_pw]; rfl
theorem cast_sub1 (b : Int) : ((b - 1 : Int) : Rat) = (b : Rat) - 1 := by
  rw [Rat.intCast_sub]; rfl
/-- the tail is what the next figure at its greatest and its tail are -/
theorem Rw.tail_nx (h : 2 ≤ b) : r.tail b = (r.m : Rat) * r.nx b + (r.m : Rat) / ((b - 1 : Int) : Rat) * r.nx b := by
  unfold Rw.tail
  rw [Rw.pw_nx (by omega), cast_sub1]
  have hb : (b : Rat) - 1 ≠ 0 := by
    have := ratpos (b := b - 1) (by omega)
    rw [cast_sub1] at this
    grind
  generalize r.nx b = u
  generalize (r.m : Rat) = m
  generalize (b : Rat) = c at *
  grind
theorem Rw.Ok.snoc (h : r.Ok b) (hl : r.fs.length ≤ 79) {f : Int} (hf : f.natAbs ≤ 1000) : (r.snoc f).Ok b :=
  ⟨h.b0, h.b1, h.e0, h.e1, h.m0, h.m1, by show (r.fs ++ [f]).length ≤ 80; simp; omega, fun z hz => by
    rcases List.mem_append.mp hz with hz | hz
    · exact h.f z hz
    · simp only [List.mem_singleton] at hz
      subst hz; exact hf⟩
theorem Rw.Ok.nxp (h : r.Ok b) : 0 < r.nx b := Rat.zpow_pos h.bp
/-- the ends of the next figure f's span -/
theorem Rw.snoc_lo (h : 2 ≤ b) (f : Int) : (r.snoc f).lo b = r.worth b + (f : Rat) * r.nx b - (r.m : Rat) / ((b - 1 : Int) : Rat) * r.nx b := by
  unfold Rw.lo; rw [Rw.snoc_worth (by omega), Rw.snoc_tail]
theorem Rw.snoc_hi (h : 2 ≤ b) (f : Int) : (r.snoc f).hi b = r.worth b + (f : Rat) * r.nx b + (r.m : Rat) / ((b - 1 : Int) : Rat) * r.nx b := by
  unfold Rw.hi; rw [Rw.snoc_worth (by omega), Rw.snoc_tail]
/-- twice the most is the base less 1 at least -/
theorem half_le (h : 2 ≤ b) (hm : b - 1 ≤ 2 * r.m) : (1 : Rat) ≤ 2 * ((r.m : Rat) / ((b - 1 : Int) : Rat)) := by
  have hp := ratpos (b := b - 1) (by omega)
  have h1 : ((b - 1 : Int) : Rat) ≤ ((2 * r.m : Int) : Rat) := Rat.intCast_le_intCast.mpr hm
  rw [Rat.intCast_mul] at h1
  have e2 : ((2 : Int) : Rat) = 2 := rfl
  rw [e2] at h1
  have h2 := Rat.mul_le_mul_of_nonneg_right (c := ((b - 1 : Int) : Rat)⁻¹) h1 (Rat.le_of_lt (Rat.inv_pos.mpr hp))
  rw [Rat.mul_inv_cancel _ (by grind)] at h2
  rw [Rat.div_def]
  grind
end
/-! ### items and lengths of what is known, one rule each -/
theorem g_ix_tup {ds : List D} {i : Int} {S : Store} {P : D → Store → Prop} : dIx (.tup ds) (.int i) S P = (match atI ds i with | some d => P d S | none => False) := rfl
theorem g_ix_lst {ds : List D} {i : Int} {S : Store} {P : D → Store → Prop} : dIx (.lst ds) (.int i) S P = (match atI ds i with | some d => P d S | none => False) := rfl
theorem g_ix_ext {ds : List D} {i : Int} {S : Store} {P : D → Store → Prop} : dIx (.ext ds) (.int i) S P = (match atI ds i with | some d => P d S | none => False) := rfl
theorem g_ln_tup {ds : List D} {S : Store} {P : D → Store → Prop} : cLen [.tup ds] S P = P (.int ds.length) S := rfl
theorem g_ln_lst {ds : List D} {S : Store} {P : D → Store → Prop} : cLen [.lst ds] S P = P (.int ds.length) S := rfl
theorem g_ln_ext {ds : List D} {S : Store} {P : D → Store → Prop} : cLen [.ext ds] S P = P (.int ds.length) S := rfl
theorem g_nn_non {S : Store} {P : D → Store → Prop} : dNotN .non .non S P = P (.bl false) S := rfl
theorem g_nn_int {i : Int} {S : Store} {P : D → Store → Prop} : dNotN (.int i) .non S P = P (.bl true) S := rfl
theorem g_nn_tup {ds : List D} {S : Store} {P : D → Store → Prop} : dNotN (.tup ds) .non S P = P (.bl true) S := rfl
theorem g_in_non {S : Store} {P : D → Store → Prop} : dIsN .non .non S P = P (.bl true) S := rfl
theorem g_in_int {i : Int} {S : Store} {P : D → Store → Prop} : dIsN (.int i) .non S P = P (.bl false) S := rfl
theorem g_in_tup {ds : List D} {S : Store} {P : D → Store → Prop} : dIsN (.tup ds) .non S P = P (.bl false) S := rfl
theorem g_ix_row0 {r : Rw} {S : Store} {P : D → Store → Prop} : dIx r.d (.int 0) S P = P (.int r.e) S := rfl
theorem g_ix_row1 {r : Rw} {S : Store} {P : D → Store → Prop} : dIx r.d (.int 1) S P = P (.int r.m) S := rfl
theorem g_ix_row2 {r : Rw} {S : Store} {P : D → Store → Prop} : dIx r.d (.int 2) S P = P (.tup (r.fs.map .int)) S := rfl
theorem g_ix_span0 {b : Int} {r : Rw} {S : Store} {P : D → Store → Prop} : dIx (spanD b r) (.int 0) S P = P (encR (r.lo b)) S := rfl
theorem g_ix_span1 {b : Int} {r : Rw} {S : Store} {P : D → Store → Prop} : dIx (spanD b r) (.int 1) S P = P (encR (r.hi b)) S := rfl
theorem g_nn_span {b : Int} {r : Rw} {S : Store} {P : D → Store → Prop} : dNotN (spanD b r) .non S P = P (.bl true) S := rfl
theorem g_nn_encR {q : Rat} {S : Store} {P : D → Store → Prop} : dNotN (encR q) .non S P = P (.bl true) S := rfl
theorem g_in_span {b : Int} {r : Rw} {S : Store} {P : D → Store → Prop} : dIsN (spanD b r) .non S P = P (.bl false) S := rfl
theorem g_put_row {ts : List Tgt} {r : Rw} {ρ : DSt} : Tgt.put (.tp ts) r.d ρ = Tgt.putL ts [.int r.e, .int r.m, .tup (r.fs.map .int)] ρ := by unfold Rw.d; exact put_tp
theorem g_put_span {ts : List Tgt} {b : Int} {r : Rw} {ρ : DSt} : Tgt.put (.tp ts) (spanD b r) ρ = Tgt.putL ts [encR (r.lo b), encR (r.hi b)] ρ := by unfold spanD; exact put_tp
local macro_rules | `(tactic| walk_at "dg2") => `(tactic| try simp only [dSeq, dSet, dPar, dOp, dUn, dVar, dC, dCB, dCons, dNil, dTup, dLst, dLstM, dIfS, dIf, dTest, dNot, dAnd, dOr, dAndV, dOrV, dNotV, dRet, dRetN, dEnd, dNext, dAdd, dSub, dMul, dFdiv, dMod, dPow, dNeg, dLt, dLe, dGt, dGe, dEq, dNe, eqB_ii, eqB_bb, eqB_ss, eqB_nn, eqB_ni, eqB_in, eqB_ns, eqB_sn, eqB_is, eqB_si, eqB_nb, eqB_bn, dIn, g_ix_tup, g_ix_lst, g_ix_ext, g_ln_tup, g_ln_lst, g_ln_ext, g_nn_non, g_nn_int, g_nn_tup, g_in_non, g_in_int, g_in_tup, g_ix_row0, g_ix_row1, g_ix_row2, g_ix_span0, g_ix_span1, g_nn_span, g_nn_encR, g_in_span, cAbs, cMax2, cMin2, cInt, cList, cTuple, dIsB, dNotB, dPar3, ForN, LcN, pinOf, pin2, dEnum2, dAppend, supd_same0, isi_non_int, isi_non_bool, isi_non_str, isi_non_list, isi_non_tuple, isi_non_lt, isi_bl_int, isi_bl_bool, isi_bl_str, isi_bl_list, isi_bl_tuple, isi_bl_lt, isi_int_int, isi_int_bool, isi_int_str, isi_int_list, isi_int_tuple, isi_int_lt, isi_str_int, isi_str_bool, isi_str_str, isi_str_list, isi_str_tuple, isi_str_lt, isi_lst_int, isi_lst_bool, isi_lst_str, isi_lst_list, isi_lst_tuple, isi_lst_lt, isi_tup_int, isi_tup_bool, isi_tup_str, isi_tup_list, isi_tup_tuple, isi_tup_lt, dAug, dIAdd, dIMul, dDrop, dSl, dPart, dNoPart, dRevL, dCallK, dChainR, dAsg, put_nm, put_tp, put_tl, g_put_row, g_put_span, putL_nil, putL_cons, Option.bind, seqOf, lstOf, dFor, dLc, dLcM, dItSeq, dZip, dZipS, dEnum, dRng1, dRng2, dYes, dwipe, Tgt.slots, Tgt.slotsL,
  atI_0, atI_1, atI_2, atI_3, List.getElem?_cons_zero, List.getElem?_cons_succ, List.set_cons_zero, List.set_cons_succ, decide_eq_true_eq, List.length_cons, List.length_nil, List.cons_append, List.nil_append, List.append_nil, ofString_inj, String.reduceEq, decide_true, decide_false, reduceIte, Bool.false_eq_true, Bool.not_true, Bool.not_false, eqFlat, isFlat, List.any_cons, List.any_nil, List.all_cons, List.all_nil, Bool.or_false, Bool.or_true, Bool.false_or, Bool.true_or, Bool.and_true, Bool.true_and, true_and, and_true, Nat.reduceAdd, Nat.reduceLeDiff, Int.reduceLT, Int.reduceLE, Int.reduceNeg])
/-! ### standing for a number, order, being told apart -/
def Rw.Has (b : Int) (r : Rw) (q : Rat) : Prop := r.lo b ≤ q ∧ q ≤ r.hi b
instance (b : Int) (r : Rw) (q : Rat) : Decidable (r.Has b q) := inferInstanceAs (Decidable (_ ∧ _))
/-- their spans touch -/
def Meet (b : Int) (r s : Rw) : Prop := r.lo b ≤ s.hi b ∧ s.lo b ≤ r.hi b
/-! ### == of plain data without texts -/
inductive Pi : Nat → D → Prop
  | non {n} : Pi n .non
  | bl {n b} : Pi n (.bl b)
  | int {n i} : Pi n (.int i)
  | lst {n ds} (h : ∀ y, y ∈ ds → Pi n y) : Pi (n + 1) (.lst ds)
  | tup {n ds} (h : ∀ y, y ∈ ds → Pi n y) : Pi (n + 1) (.tup ds)
theorem Pi.mono {n : Nat} {x : D} (h : Pi n x) : ∀ {m : Nat}, n ≤ m → Pi m x := by
  induction h with
  | non => intro m _; exact .non
  | bl => intro m _; exact .bl
  | int => intro m _; exact .int
  | lst h ih => intro m hm; cases m with
    | zero => omega
    | succ m => exact .lst fun y hy => ih y hy (by omega)
  | tup h ih => intro m hm; cases m with
    | zero => omega
    | succ m => exact .tup fun y hy => ih y hy (by omega)
/-- its Python data -/
structure PyI (n : Nat) (x : D) (p : PyData) : Prop where
  e : x.py = some p
  l : p.canLay0 = true
  d : p.depth ≤ n
  r : PyData.eqv p p = true
theorem py_all {n : Nat} : ∀ {ds : List D}, (∀ y, y ∈ ds → ∃ p, PyI n y p) → ∃ ps, D.pyL ds = some ps ∧ PyData.canLayAll0 ps = true ∧ PyData.depthAll ps ≤ n ∧ PyData.eqvAll ps ps = true ∧ ps.length = ds.length
  | [], _ => ⟨[], by simp [D.pyL], by simp [PyData.canLayAll0], by simp [PyData.depthAll], by simp [PyData.eqvAll], rfl⟩
  | y :: ds, h => by
    obtain ⟨p, h1⟩ := h y (by simp)
    obtain ⟨ps, e1, e2, e3, e4, e5⟩ := py_all (ds := ds) (fun z hz => h z (by simp [hz]))
    refine ⟨p :: ps, by simp [D.pyL, h1.e, e1], by simp [PyData.canLayAll0, h1.l, e2], ?_, by simp [PyData.eqvAll, h1.r, e4], by simp [e5]⟩
    have := h1.d
    simp only [PyData.depthAll]
    omega
theorem Pi.py {n : Nat} {x : D} (h : Pi n x) : ∃ p, PyI n x p := by
  induction h with
  | non => exact ⟨.none, by simp [D.py], by simp [PyData.canLay0], by simp [PyData.depth], by simp [PyData.eqv]⟩
  | @bl n b => exact ⟨.bool b, by simp [D.py], by simp [PyData.canLay0], by simp [PyData.depth], by simp [PyData.eqv]⟩
  | @int n i => exact ⟨.int i, by simp [D.py], by simp [PyData.canLay0], by simp [PyData.depth], by simp [PyData.eqv]⟩
  | lst h ih =>
    obtain ⟨ps, e1, e2, e3, e4, e5⟩ := py_all ih
    exact ⟨.list ps, by simp [D.py, e1], by simp [PyData.canLay0, e2], by simp only [PyData.depth]; omega, by simp [PyData.eqv, e4]⟩
  | tup h ih =>
    obtain ⟨ps, e1, e2, e3, e4, e5⟩ := py_all ih
    exact ⟨.tuple ps, by simp [D.py, e1], by simp [PyData.canLay0, e2], by simp only [PyData.depth]; omega, by simp [PyData.eqv, e4]⟩
theorem PyI.shaped {n : Nat} {x : D} {p : PyData} (h : PyI n x p) (hn : n ≤ 64) : SeqAt.shaped p = true := by
  unfold SeqAt.shaped
  rw [h.l]
  have := h.d
  simp; omega
/-! ### comprehensions with a condition -/
theorem lc_filterA {α : Type} {t : Tgt} {tt : DT} {de : DE} {P : D → Store → Prop} {xs : List α} {ρ : DSt} {S : Store} (f g : α → D) (c : α → Bool) (hl : xs.length ≤ 100000)
    (h : ∀ a, a ∈ xs → ∃ ρ', t.put (f a) (dwipe ρ t.slots) = some ρ' ∧ (∀ Q : Bool → Store → Prop, Q (c a) S → tt ρ' S Q) ∧ ∀ Q : D → Store → Prop, Q (g a) S → de ρ' S Q) (q : P (.lst ((xs.filter c).map g)) S) : LcB t tt de P (xs.map f) ρ S := by
  refine ⟨by simpa using hl, fun i acc S' => acc = ((xs.take i).filter c).map g ∧ S' = S, ⟨rfl, rfl⟩, ?_, ?_⟩
  · rintro i d acc S' hd ⟨rfl, rfl⟩
    rw [List.getElem?_map] at hd
    cases e : xs[i]? with
    | none => rw [e] at hd; cases hd
    | some a =>
      rw [e] at hd
      cases hd
      obtain ⟨ρ', h1, h2, h3⟩ := h a (List.mem_of_getElem? e)
      refine ⟨ρ', h1, h2 _ ?_⟩
      cases hc : c a with
      | true =>
        simp only [reduceIte]
        refine h3 _ ⟨?_, rfl⟩
        rw [List.take_add_one, e]
        simp [List.filter_append, hc]
      | false =>
        simp only [Bool.false_eq_true, reduceIte]
        refine ⟨?_, by trivial⟩
        rw [List.take_add_one, e]
        simp [List.filter_append, hc]
  · rintro acc S' ⟨rfl, rfl⟩
    rw [List.length_map, List.take_length]
    exact q
/-! ### some next figure is right -/
section
variable {b : Int} {r : Rw}
end
/-! ### beginnings lie in one another -/
theorem snoc_in' {b : Int} {r : Rw} (b0 : 2 ≤ b) {f : Int} (h1 : -r.m ≤ f) (h2 : f ≤ r.m) : r.lo b ≤ (r.snoc f).lo b ∧ (r.snoc f).hi b ≤ r.hi b := by
  have up : 0 < r.nx b := Rat.zpow_pos (ratpos (by omega))
  have a1 : (0 : Rat) ≤ ((f + r.m : Int) : Rat) := by
    have : ((0 : Int) : Rat) ≤ ((f + r.m : Int) : Rat) := Rat.intCast_le_intCast.mpr (by omega)
    exact this
  have a2 : (0 : Rat) ≤ ((r.m - f : Int) : Rat) := by
    have : ((0 : Int) : Rat) ≤ ((r.m - f : Int) : Rat) := Rat.intCast_le_intCast.mpr (by omega)
    exact this
  rw [Rat.intCast_add] at a1
  rw [Rat.intCast_sub] at a2
  have p1 := Rat.mul_nonneg a1 (Rat.le_of_lt up)
  have p2 := Rat.mul_nonneg a2 (Rat.le_of_lt up)
  rw [Rw.snoc_lo b0, Rw.snoc_hi b0]
  unfold Rw.lo Rw.hi
  rw [Rw.tail_nx b0]
  generalize (r.m : Rat) / ((b - 1 : Int) : Rat) * r.nx b = q
  generalize r.nx b = u at *
  generalize (r.m : Rat) = m at *
  generalize (f : Rat) = g at *
  generalize r.worth b = w
  constructor <;> grind
theorem Meet.symm {b : Int} {r s : Rw} (h : Meet b r s) : Meet b s r := ⟨h.2, h.1⟩
/-- == of lists of numbers -/
theorem eqv_ints : ∀ xs ys : List Int, PyData.eqvAll (xs.map PyData.int) (ys.map PyData.int) = decide (xs = ys)
  | [], [] => rfl
  | [], _ :: _ => rfl
  | _ :: _, [] => rfl
  | x :: xs, y :: ys => by
    simp only [List.map_cons, PyData.eqvAll, PyData.eqv, eqv_ints xs ys]
    rw [Bool.eq_iff_iff]
    simp
theorem py_ints : ∀ xs : List Int, D.pyL (xs.map D.int) = some (xs.map PyData.int)
  | [] => rfl
  | x :: xs => by simp only [List.map_cons, D.pyL, D.py, py_ints xs]
theorem lay_ints : ∀ xs : List Int, PyData.canLayAll0 (xs.map PyData.int) = true
  | [] => rfl
  | x :: xs => by simp [PyData.canLayAll0, PyData.canLay0, lay_ints xs]
theorem dep_ints : ∀ xs : List Int, PyData.depthAll (xs.map PyData.int) ≤ 1
  | [] => by simp [PyData.depthAll]
  | x :: xs => by
    have := dep_ints xs
    simp [PyData.depthAll, PyData.depth]
    omega
theorem shaped_ints (xs : List Int) : SeqAt.shaped (.list (xs.map PyData.int)) = true := by
  have := dep_ints xs
  simp [SeqAt.shaped, PyData.canLay0, PyData.depth, lay_ints xs]
  omega
theorem eqB_ints (xs ys : List Int) : dEqB (.lst (xs.map D.int)) (.lst (ys.map D.int)) = some (decide (xs = ys)) := by
  have h : dEqB (.lst (xs.map D.int)) (.lst (ys.map D.int)) = some (PyData.eqvAll (xs.map PyData.int) (ys.map PyData.int)) := by
    simp only [dEqB, D.py, py_ints, Option.map_some, shaped_ints, and_self, reduceIte, PyData.eqv]
  rw [h, eqv_ints]
theorem shapedT_ints (xs : List Int) : SeqAt.shaped (.tuple (xs.map PyData.int)) = true := by
  have := dep_ints xs
  simp [SeqAt.shaped, PyData.canLay0, PyData.depth, lay_ints xs]
  omega
theorem eqB_tints (xs ys : List Int) : dEqB (.tup (xs.map D.int)) (.tup (ys.map D.int)) = some (decide (xs = ys)) := by
  have h : dEqB (.tup (xs.map D.int)) (.tup (ys.map D.int)) = some (PyData.eqvAll (xs.map PyData.int) (ys.map PyData.int)) := by
    simp only [dEqB, D.py, py_ints, Option.map_some, shapedT_ints, and_self, reduceIte, PyData.eqv]
  rw [h, eqv_ints]
/-- what stood stands -/
def Kept (S S' : Store) : Prop := ∀ q m, S q = some m → S' q = some m
theorem Kept.refl (S : Store) : Kept S S := fun _ _ h => h
theorem Kept.trans {S S1 S2 : Store} (h : Kept S S1) (h2 : Kept S1 S2) : Kept S S2 := fun q m e => h2 q m (h q m e)
theorem BoxAt.kept {S S' : Store} {p : Addr} {n : Nat} (h : BoxAt S p n) (k : Kept S S') : BoxAt S' p n := by
  obtain ⟨a, s, t, e, h⟩ := h
  exact ⟨a, s, t, k _ _ e, h⟩
theorem lo_le_hi {b : Int} {r : Rw} (hr : r.Ok b) : r.lo b ≤ r.hi b := by
  have h1 : 0 ≤ r.tail b := by
    unfold Rw.tail
    refine Rat.mul_nonneg ?_ (Rat.le_of_lt hr.pwp)
    rw [Rat.div_def]
    exact Rat.mul_nonneg (by exact_mod_cast hr.m0) (Rat.le_of_lt (Rat.inv_pos.mpr hr.cp))
  unfold Rw.lo Rw.hi
  grind
/-! ### kinds -/
inductive Kn where
  | sum (ws : List Int) (v : Int) | loose (ws : List Int) | moved (e : Int) | told (q : Rat) | times | over (k : Int) | least | most | choose
def Kn.d : Kn → D
  | .sum ws v => .tup [.str "sum", .tup (ws.map .int), .int v]
  | .loose ws => .tup [.str "loose", .tup (ws.map .int)]
  | .moved e => .tup [.str "moved", .int e]
  | .told q => .tup [.str "told", encR q]
  | .times => .tup [.str "times"]
  | .over k => .tup [.str "over", .int k]
  | .least => .tup [.str "least"]
  | .most => .tup [.str "most"]
  | .choose => .tup [.str "choose"]
def Kn.word : Kn → Str
  | .sum .. => "sum"
  | .loose .. => "loose"
  | .moved .. => "moved"
  | .told .. => "told"
  | .times => "times"
  | .over .. => "over"
  | .least => "least"
  | .most => "most"
  | .choose => "choose"
def Kn.many : Kn → Nat
  | .sum ws _ => ws.length
  | .loose ws => ws.length
  | .moved _ => 1
  | .told _ => 0
  | .choose => 3
  | _ => 2
def Kn.Ok : Kn → Prop
  | .sum ws v => ws.length ≤ 4 ∧ (∀ w, w ∈ ws → w.natAbs ≤ 100) ∧ 1 ≤ v ∧ v ≤ 1000
  | .loose ws => ws.length ≤ 4 ∧ ∀ w, w ∈ ws → w.natAbs ≤ 100
  | .moved e => e.natAbs ≤ 30
  | .told q => Sz 100 q
  | .over k => k.natAbs ≤ 20
  | _ => True
def wsum : List Int → List Rat → Rat
  | w :: ws, x :: xs => (w : Rat) * x + wsum ws xs
  | _, _ => 0
/-- what comes of numbers -/
def Kn.app (b : Int) : Kn → List Rat → Rat
  | .sum ws v, xs => wsum ws xs / ((v : Int) : Rat)
  | .loose ws, xs => wsum ws xs
  | .moved e, x :: _ => x * (b : Rat) ^ e
  | .told q, _ => q
  | .times, [x, y] => x * y
  | .over k, [x, y] => x / max y ((b : Rat) ^ (-k))
  | .least, [x, y] => min x y
  | .most, [x, y] => max x y
  | .choose, [x, y, z] => if x < 0 then z else y
  | _, _ => 0
theorem wsum_take : ∀ (ws : List Int) (xs : List Rat) (i : Nat) (w : Int) (x : Rat), ws[i]? = some w → xs[i]? = some x → wsum (ws.take (i + 1)) (xs.take (i + 1)) = wsum (ws.take i) (xs.take i) + (w : Rat) * x
  | w :: ws, x :: xs, 0, w', x', h1, h2 => by
    simp at h1 h2
    subst h1 h2
    simp [wsum]; grind
  | w :: ws, x :: xs, i + 1, w', x', h1, h2 => by
    have := wsum_take ws xs i w' x' (by simpa using h1) (by simpa using h2)
    simp only [List.take_succ_cons, wsum, this]
    grind
  | [], _, _, _, _, h1, _ => by simp at h1
  | _ :: _, [], _, _, _, _, h2 => by simp at h2
theorem wsum_zero (ws : List Int) (xs : List Rat) : wsum (ws.take 0) (xs.take 0) = 0 := by simp [wsum]
theorem wsum_sz {z : Nat} {ws : List Int} {xs : List Rat} (hw : ∀ w, w ∈ ws → w.natAbs ≤ 100) (hx : ∀ x, x ∈ xs → Sz z x) : ∀ i, i ≤ ws.length → i ≤ xs.length → Sz (i * (z + 12) + 2) (wsum (ws.take i) (xs.take i))
  | 0, _, _ => by rw [wsum_zero]; exact (sz_int (n := 2) (k := 0) (by decide)).mono (by omega)
  | i + 1, h1, h2 => by
    have ih := wsum_sz hw hx i (by omega) (by omega)
    have e1 : ws[i]? = some ws[i] := List.getElem?_eq_getElem (by omega)
    have e2 : xs[i]? = some xs[i] := List.getElem?_eq_getElem (by omega)
    rw [wsum_take ws xs i _ _ e1 e2]
    have hw1 := hw ws[i] (List.getElem_mem _)
    have s1 : Sz 8 ((ws[i] : Int) : Rat) := sz_int (by omega)
    have s2 := sz_mul s1 (hx xs[i] (List.getElem_mem _))
    refine (sz_add ih s2).mono ?_
    rw [Nat.add_mul]
    omega
theorem max_pos {x y : Rat} (h : 0 < y) : 0 < max x y := by
  rw [max_if]; split <;> grind
theorem sz_max {n : Nat} {x y : Rat} (h1 : Sz n x) (h2 : Sz n y) : Sz n (max x y) := by rw [max_if]; split <;> assumption
theorem sz_min {n : Nat} {x y : Rat} (h1 : Sz n x) (h2 : Sz n y) : Sz n (min x y) := by rw [min_if]; split <;> assumption
theorem Kn.app_sz {b : Int} {kn : Kn} {xs : List Rat} {z : Nat} (b0 : 2 ≤ b) (b1 : b ≤ 16) (hk : kn.Ok) (hl : xs.length = kn.many) (hz : 100 ≤ z) (hx : ∀ x, x ∈ xs → Sz z x) : Sz (4 * z + 100) (kn.app b xs) := by
  have bp : (0 : Int) < b := by omega
  cases kn with
  | sum ws v =>
    obtain ⟨h1, h2, h3, h4⟩ := hk
    have := wsum_sz h2 hx ws.length (Nat.le_refl _) (by have : xs.length = ws.length := hl; omega)
    rw [List.take_length, show xs.take ws.length = xs from by rw [← show xs.length = ws.length from hl, List.take_length]] at this
    have hv : Sz 11 ((v : Int) : Rat) := sz_int (by omega)
    have vn : ((v : Int) : Rat) ≠ 0 := by
      have : v ≠ 0 := by omega
      exact_mod_cast this
    refine (sz_div vn this hv).mono ?_
    have : ws.length * (z + 12) ≤ 4 * (z + 12) := Nat.mul_le_mul_right _ h1
    omega
  | loose ws =>
    obtain ⟨h1, h2⟩ := hk
    have := wsum_sz h2 hx ws.length (Nat.le_refl _) (by have : xs.length = ws.length := hl; omega)
    rw [List.take_length, show xs.take ws.length = xs from by rw [← show xs.length = ws.length from hl, List.take_length]] at this
    refine this.mono ?_
    have : ws.length * (z + 12) ≤ 4 * (z + 12) := Nat.mul_le_mul_right _ h1
    omega
  | moved e =>
    match xs, hl with
    | [x], _ =>
      have he : e.natAbs ≤ 30 := hk
      exact (sz_mul (hx x (by simp)) (sz_zpow (k := e) bp b1)).mono (by omega)
  | told q => exact Sz.mono (show Sz 100 q from hk) (by omega)
  | times =>
    match xs, hl with
    | [x, y], _ => exact (sz_mul (hx x (by simp)) (hx y (by simp))).mono (by omega)
  | over k =>
    match xs, hl with
    | [x, y], _ =>
      have he : k.natAbs ≤ 20 := hk
      have p := Rat.zpow_pos (n := -k) (ratpos bp)
      have hp := max_pos (x := y) p
      exact (sz_div (by grind) (hx x (by simp)) (sz_max (hx y (by simp)) ((sz_zpow (k := -k) bp b1).mono (by omega)))).mono (by omega)
  | least =>
    match xs, hl with
    | [x, y], _ => exact (sz_min (hx x (by simp)) (hx y (by simp))).mono (by omega)
  | most =>
    match xs, hl with
    | [x, y], _ => exact (sz_max (hx x (by simp)) (hx y (by simp))).mono (by omega)
  | choose =>
    match xs, hl with
    | [x, y, w], _ =>
      show Sz _ (if x < 0 then w else y)
      split
      · exact (hx w (by simp)).mono (by omega)
      · exact (hx y (by simp)).mono (by omega)
/-- corners: which end of each -/
def cor : Nat → List (List Int)
  | 0 => [[]]
  | n + 1 => (cor n).flatMap fun o => [o ++ [0], o ++ [1]]
def intsD (o : List Int) : D := .tup (o.map .int)
def spD (s : Rat × Rat) : D := .tup [encR s.1, encR s.2]
def pickAt (ss : List (Rat × Rat)) (o : List Int) : List Rat := (ss.zip o).map fun p => if p.2 = 0 then p.1.1 else p.1.2
theorem cor_len : ∀ n, (cor n).length = 2 ^ n
  | 0 => rfl
  | n + 1 => by
    show ((cor n).flatMap fun o => [o ++ [0], o ++ [1]]).length = _
    rw [List.length_flatMap]
    have : ((cor n).map fun o => [o ++ [0], o ++ [1]].length) = List.replicate (cor n).length 2 := by
      rw [← List.map_const']; rfl
    rw [this, List.sum_replicate_nat, cor_len n, Nat.pow_succ]
theorem mem_cor : ∀ {n : Nat} {o : List Int}, o ∈ cor n ↔ o.length = n ∧ ∀ e, e ∈ o → e = 0 ∨ e = 1
  | 0, o => by
    constructor
    · intro h
      simp only [cor, List.mem_singleton] at h
      subst h; simp
    · rintro ⟨h, _⟩
      rw [List.eq_nil_of_length_eq_zero h]
      simp [cor]
  | n + 1, o => by
    show o ∈ (cor n).flatMap (fun o => [o ++ [0], o ++ [1]]) ↔ _
    rw [List.mem_flatMap]
    constructor
    · rintro ⟨p, hp, h⟩
      obtain ⟨h1, h2⟩ := mem_cor.mp hp
      simp only [List.mem_cons, List.not_mem_nil, or_false] at h
      rcases h with rfl | rfl
      · refine ⟨by simp [h1], fun e he => ?_⟩
        rcases List.mem_append.mp he with he | he
        · exact h2 e he
        · simp only [List.mem_singleton] at he
          exact .inl he
      · refine ⟨by simp [h1], fun e he => ?_⟩
        rcases List.mem_append.mp he with he | he
        · exact h2 e he
        · simp only [List.mem_singleton] at he
          exact .inr he
    · rintro ⟨h1, h2⟩
      have hne : o ≠ [] := fun z => by rw [z] at h1; cases h1
      have e : o = o.dropLast ++ [o.getLast hne] := (List.dropLast_concat_getLast hne).symm
      refine ⟨o.dropLast, mem_cor.mpr ⟨by rw [List.length_dropLast]; omega, fun x hx => h2 x (List.dropLast_subset o hx)⟩, ?_⟩
      rcases h2 (o.getLast hne) (List.getLast_mem hne) with h | h
      · rw [h] at e; rw [← e]; simp
      · rw [h] at e; rw [← e]; simp
def Kn.vals (b : Int) (kn : Kn) (ss : List (Rat × Rat)) : List Rat := (cor ss.length).map fun o => kn.app b (pickAt ss o)
def minL : List Rat → Rat
  | [] => 0
  | x :: xs => xs.foldl min x
def maxL : List Rat → Rat
  | [] => 0
  | x :: xs => xs.foldl max x
def reachD (b : Int) (kn : Kn) (ss : List (Rat × Rat)) : D := .tup [encR (minL (kn.vals b ss)), encR (maxL (kn.vals b ss))]
theorem pickAt_len {ss : List (Rat × Rat)} {o : List Int} (h : o.length = ss.length) : (pickAt ss o).length = ss.length := by
  unfold pickAt; rw [List.length_map, List.length_zip]; omega
theorem pickAt_mem {ss : List (Rat × Rat)} {o : List Int} {x : Rat} (h : x ∈ pickAt ss o) : ∃ s, s ∈ ss ∧ (x = s.1 ∨ x = s.2) := by
  unfold pickAt at h
  obtain ⟨⟨s, e⟩, hm, rfl⟩ := List.mem_map.mp h
  refine ⟨s, (List.of_mem_zip hm).1, ?_⟩
  simp only
  split
  · exact .inl rfl
  · exact .inr rfl
/-! ### promises -/
def NumsD (y : D) (xs : List Rat) : Prop := y = .lst (xs.map encR) ∨ y = .tup (xs.map encR)
def sp_weighed : DSp := fun ds S P => ∃ (ws : List Int) (xs : List Rat) (v : Int) (z : Nat) (y : D), ds = [.tup (ws.map .int), y, .int v] ∧ NumsD y xs ∧ ws.length = xs.length ∧ ws.length ≤ 4 ∧ (∀ w, w ∈ ws → w.natAbs ≤ 100) ∧ 1 ≤ v ∧ v ≤ 1000 ∧ z ≤ 970 ∧ (∀ x, x ∈ xs → Sz z x) ∧ P (encR (wsum ws xs / ((v : Int) : Rat))) S
def sp_applied : DSp := fun ds S P => ∃ (b : Int) (kn : Kn) (xs : List Rat) (z : Nat) (y : D), ds = [.int b, kn.d, y] ∧ NumsD y xs ∧ kn.Ok ∧ xs.length = kn.many ∧ 2 ≤ b ∧ b ≤ 16 ∧ 100 ≤ z ∧ z ≤ 970 ∧ (∀ x, x ∈ xs → Sz z x) ∧ P (encR (kn.app b xs)) S
def sp_corners_of : DSp := fun ds S P => ∃ n : Nat, ds = [.int n] ∧ n ≤ 6 ∧ P (.lst ((cor n).map intsD)) S
def sp_numbers_at : DSp := fun ds S P => ∃ (ss : List (Rat × Rat)) (o : List Int), ds = [.lst (ss.map spD), intsD o] ∧ ss.length = o.length ∧ (∀ e, e ∈ o → e = 0 ∨ e = 1) ∧ ss.length ≤ 100 ∧ P (.lst ((pickAt ss o).map encR)) S
def spanQ (b : Int) (r : Rw) : Rat × Rat := (r.lo b, r.hi b)
/-- rows, in a list that may change or not -/
def RowsD (S : Store) (y : D) (rs : List Rw) : Prop := y = .lst (rs.map Rw.d) ∨ y = .tup (rs.map Rw.d) ∨ ∃ l, y = .obj l ∧ S l = some (.lst (rs.map Rw.d))
def RsOk (b : Int) (z : Nat) (rs : List Rw) : Prop := ∀ r, r ∈ rs → r.Ok b ∧ Sz z (r.lo b) ∧ Sz z (r.hi b)
def sp_reach_of : DSp := fun ds S P => ∃ (b : Int) (kn : Kn) (rs : List Rw) (z : Nat) (y : D), ds = [.int b, kn.d, y] ∧ RowsD S y rs ∧ kn.Ok ∧ rs.length = kn.many ∧ 2 ≤ b ∧ b ≤ 16 ∧ 100 ≤ z ∧ z ≤ 970 ∧ RsOk b z rs ∧ P (reachD b kn (rs.map (spanQ b))) S
def rd_weighed : DS :=
  (dSeq (dSet 3 (dC (.tup [(.int 0), (.int 1)])))
  (dSeq (dFor (dZipS (dCons (dVar 0) (dCons (dVar 1) dNil))) (.tp [(.nm 4), (.nm 5)]) (dSet 3 (dCB sp_plus (dCons (dVar 3) (dCons (dCB sp_times (dCons (dTup (dCons (dVar 4) (dCons (dC (.int 1)) dNil))) (dCons (dVar 5) dNil))) dNil)))))
  (dRet (dCB sp_over (dCons (dVar 3) (dCons (dTup (dCons (dVar 2) (dCons (dC (.int 1)) dNil))) dNil))))))
def goal_weighed : Prop := ∀ (x0 x1 x2 : D) (S : Store) (P : D → Store → Prop), sp_weighed [x0, x1, x2] S P → rd_weighed (dEnd P) [some x0, some x1, some x2, none, none, none] S
def rd_applied : DS :=
  (dSeq (dSet 3 (dOp dIx (dVar 1) (dC (.int 0))))
  (dSeq (dIfS (dTest (dOp dEq (dVar 3) (dC (.str "sum")))) (dRet (dCB sp_weighed (dCons (dOp dIx (dVar 1) (dC (.int 1))) (dCons (dVar 2) (dCons (dOp dIx (dVar 1) (dC (.int 2))) dNil))))) dNext)
  (dSeq (dIfS (dTest (dOp dEq (dVar 3) (dC (.str "loose")))) (dRet (dCB sp_weighed (dCons (dOp dIx (dVar 1) (dC (.int 1))) (dCons (dVar 2) (dCons (dC (.int 1)) dNil))))) dNext)
  (dSeq (dIfS (dTest (dOp dEq (dVar 3) (dC (.str "moved")))) (dRet (dCB sp_times (dCons (dOp dIx (dVar 2) (dC (.int 0))) (dCons (dCB sp_power (dCons (dVar 0) (dCons (dOp dIx (dVar 1) (dC (.int 1))) dNil))) dNil)))) dNext)
  (dSeq (dIfS (dTest (dOp dEq (dVar 3) (dC (.str "told")))) (dRet (dOp dIx (dVar 1) (dC (.int 1)))) dNext)
  (dSeq (dIfS (dTest (dOp dEq (dVar 3) (dC (.str "choose")))) (dRet (dIf (dTest (dOp dLt (dOp dIx (dOp dIx (dVar 2) (dC (.int 0))) (dC (.int 0))) (dC (.int 0)))) (dOp dIx (dVar 2) (dC (.int 2))) (dOp dIx (dVar 2) (dC (.int 1))))) dNext)
  (dSeq (dAsg (.tp [(.nm 4), (.nm 5)]) (dVar 2))
  (dSeq (dIfS (dTest (dOp dEq (dVar 3) (dC (.str "times")))) (dRet (dCB sp_times (dCons (dVar 4) (dCons (dVar 5) dNil)))) dNext)
  (dSeq (dIfS (dTest (dOp dEq (dVar 3) (dC (.str "over")))) (dRet (dCB sp_over (dCons (dVar 4) (dCons (dCB sp_greater (dCons (dVar 5) (dCons (dCB sp_power (dCons (dVar 0) (dCons (dUn dNeg (dOp dIx (dVar 1) (dC (.int 1)))) dNil))) dNil))) dNil)))) dNext)
  (dRet (dIf (dTest (dOp dEq (dVar 3) (dC (.str "least")))) (dCB sp_lesser (dCons (dVar 4) (dCons (dVar 5) dNil))) (dCB sp_greater (dCons (dVar 4) (dCons (dVar 5) dNil))))))))))))))
def goal_applied : Prop := ∀ (x0 x1 x2 : D) (S : Store) (P : D → Store → Prop), sp_applied [x0, x1, x2] S P → rd_applied (dEnd P) [some x0, some x1, some x2, none, none, none] S
def rd_corners_of : DS :=
  (dSeq (dSet 1 (dLst (dCons (dTup dNil) dNil)))
  (dSeq (dFor (dRng1 (dCons (dVar 0) dNil)) (.nm 2) (dSet 1 (dLc2 (dItSeq (dVar 1)) (.nm 3) dYes (dItSeq (dTup (dCons (dC (.int 0)) (dCons (dC (.int 1)) dNil)))) (.nm 4) dYes (dOp dAdd (dVar 3) (dTup (dCons (dVar 4) dNil))))))
  (dRet (dVar 1))))
def goal_corners_of : Prop := ∀ (x0 : D) (S : Store) (P : D → Store → Prop), sp_corners_of [x0] S P → rd_corners_of (dEnd P) [some x0, none, none, none, none] S
def rd_numbers_at : DS :=
  (dRet (dLc (dZipS (dCons (dVar 0) (dCons (dVar 1) dNil))) (.tp [(.nm 2), (.nm 3)]) dYes (dOp dIx (dVar 2) (dVar 3))))
def goal_numbers_at : Prop := ∀ (x0 x1 : D) (S : Store) (P : D → Store → Prop), sp_numbers_at [x0, x1] S P → rd_numbers_at (dEnd P) [some x0, some x1, none, none] S
def rd_reach_of : DS :=
  (dSeq (dSet 3 (dLc (dItSeq (dVar 2)) (.nm 4) dYes (dCB sp_span_of (dCons (dVar 0) (dCons (dVar 4) dNil)))))
  (dSeq (dSet 5 (dLc (dItSeq (dCB sp_corners_of (dCons (dCB cLen (dCons (dVar 3) dNil)) dNil))) (.nm 6) dYes (dCB sp_applied (dCons (dVar 0) (dCons (dVar 1) (dCons (dCB sp_numbers_at (dCons (dVar 3) (dCons (dVar 6) dNil))) dNil))))))
  (dSeq (dPar 7 8 (dCons (dOp dIx (dVar 5) (dC (.int 0))) (dCons (dOp dIx (dVar 5) (dC (.int 0))) dNil)))
  (dSeq (dFor (dItSeq (dVar 5)) (.nm 9) (dPar 7 8 (dCons (dCB sp_lesser (dCons (dVar 7) (dCons (dVar 9) dNil))) (dCons (dCB sp_greater (dCons (dVar 8) (dCons (dVar 9) dNil))) dNil))))
  (dRet (dTup (dCons (dVar 7) (dCons (dVar 8) dNil))))))))
def goal_reach_of : Prop := ∀ (x0 x1 x2 : D) (S : Store) (P : D → Store → Prop), sp_reach_of [x0, x1, x2] S P → rd_reach_of (dEnd P) [some x0, some x1, some x2, none, none, none, none, none, none, none] S
theorem len_weighed : ∀ ds S P, sp_weighed ds S P → ds.length = 3 := by
  rintro ds S P ⟨a, b, c, d, e, rfl, _⟩; rfl
theorem len_applied : ∀ ds S P, sp_applied ds S P → ds.length = 3 := by
  rintro ds S P ⟨a, b, c, d, e, rfl, _⟩; rfl
theorem len_corners_of : ∀ ds S P, sp_corners_of ds S P → ds.length = 1 := by
  rintro ds S P ⟨a, rfl, _⟩; rfl
theorem len_numbers_at : ∀ ds S P, sp_numbers_at ds S P → ds.length = 2 := by
  rintro ds S P ⟨a, b, rfl, _⟩; rfl
theorem len_reach_of : ∀ ds S P, sp_reach_of ds S P → ds.length = 3 := by
  rintro ds S P ⟨a, b, c, d, e, rfl, _⟩; rfl
theorem NumsD.seq {y : D} {xs : List Rat} (h : NumsD y xs) (S : Store) : seqOf S y = some (xs.map encR) := by
  rcases h with rfl | rfl <;> rfl
theorem NumsD.pin {y : D} {xs : List Rat} (h : NumsD y xs) (S : Store) : pinOf S y = none := by
  rcases h with rfl | rfl <;> rfl
theorem vc_weighed : goal_weighed := by
  rintro x0 x1 x2 S P ⟨ws, xs, v, z, y, e, hy, hl, hl4, hw, v0, v1, hz, hx, h⟩
  cases e
  unfold rd_weighed
  have fin : ForB (.tp [.nm 4, .nm 5]) (dSet 3 (dCB sp_plus (dCons (dVar 3) (dCons (dCB sp_times (dCons (dTup (dCons (dVar 4) (dCons (dC (.int 1)) dNil))) (dCons (dVar 5) dNil))) dNil)))) { nx := dRet (dCB sp_over (dCons (dVar 3) (dCons (dTup (dCons (dVar 2) (dCons (dC (.int 1)) dNil))) dNil))) (dEnd P), rt := P } (zipD (ws.map .int) (xs.map encR)) [some (.tup (ws.map .int)), some x1, some (.int v), some (encR 0), none, none] S := by
    refine ⟨fun i ρ S' => S' = S ∧ ∃ z4 z5, ρ = [some (.tup (ws.map .int)), some x1, some (.int v), some (encR (wsum (ws.take i) (xs.take i))), z4, z5], ⟨rfl, none, none, by rw [wsum_zero]⟩, ?_, ?_⟩
    · rintro i d ρ S' hd ⟨rfl, z4, z5, rfl⟩
      obtain ⟨a, c, h1, h2, rfl⟩ := zipD_get hd
      rw [List.getElem?_map] at h1 h2
      obtain ⟨w, hw1, rfl⟩ := Option.map_eq_some_iff.mp h1
      obtain ⟨x, hx1, rfl⟩ := Option.map_eq_some_iff.mp h2
      refine ⟨_, rfl, ?_⟩
      walk_at "dg2"
      have ew : D.tup [.int w, .int 1] = encR ((w : Int) : Rat) := rfl
      rw [ew]
      have wb := hw w (List.mem_of_getElem? hw1)
      have sw : Sz 8 ((w : Int) : Rat) := sz_int (by omega)
      have sx := hx x (List.mem_of_getElem? hx1)
      have il := (List.getElem?_eq_some_iff.mp hw1).1
      have ss := wsum_sz hw hx i (by omega) (by omega)
      have ib : i * (z + 12) ≤ 3 * (z + 12) := Nat.mul_le_mul_right _ (by omega)
      refine ⟨_, _, rfl, sw.mono (by decide), sx.mono (by omega), ?_⟩
      refine ⟨_, _, rfl, ss.mono (by omega), (sz_mul sw sx).mono (by omega), ?_⟩
      rw [← wsum_take ws xs i w x hw1 hx1]
      exact ⟨rfl, _, _, rfl⟩
    · rintro ρ S' ⟨rfl, z4, z5, rfl⟩
      have zl : (zipD (ws.map D.int) (xs.map encR)).length = ws.length := by
        unfold zipD; rw [List.length_zipWith, List.length_map, List.length_map]; omega
      rw [zl, List.take_length, show xs.take ws.length = xs from by rw [hl, List.take_length]]
      walk_at "dg2"
      have ev : D.tup [.int v, .int 1] = encR ((v : Int) : Rat) := rfl
      rw [ev]
      have ss := wsum_sz hw hx ws.length (Nat.le_refl _) (by omega)
      rw [List.take_length, show xs.take ws.length = xs from by rw [hl, List.take_length]] at ss
      have ib : ws.length * (z + 12) ≤ 4 * (z + 12) := Nat.mul_le_mul_right _ hl4
      have vn : ((v : Int) : Rat) ≠ 0 := by
        have : v ≠ 0 := by omega
        exact_mod_cast this
      exact ⟨_, _, rfl, vn, ss.mono (by omega), (sz_int (n := 11) (by omega)).mono (by decide), h⟩
  have e0 : D.tup [.int 0, .int 1] = encR 0 := rfl
  walk_at "dg2"
  rw [e0]
  rcases hy with rfl | rfl
  · walk_at "dg2"
    refine ⟨by simp [hl], fin⟩
  · walk_at "dg2"
    refine ⟨by simp [hl], fin⟩
theorem nums_ix {y : D} {xs : List Rat} (h : NumsD y xs) {i : Nat} {k : Int} {x : Rat} (hk : k = (i : Int)) (hx : xs[i]? = some x) (S : Store) (P : D → Store → Prop) : dIx y (.int k) S P = P (encR x) S := by
  have hi := (List.getElem?_eq_some_iff.mp hx).1
  have e : atI (xs.map encR) k = some (encR x) := by
    rw [atI_at (by omega) (by rw [List.length_map]; omega), List.getElem?_map, hk, Int.toNat_natCast, hx]; rfl
  rcases h with rfl | rfl
  · rw [g_ix_lst, e]
  · rw [g_ix_tup, e]
theorem num_lt (x : Rat) : (x.num < 0) = (x < 0) := propext ⟨fun h => Rat.not_le.mp fun z => by
  have := Rat.num_nonneg.mpr z
  omega, fun h => Int.not_le.mp fun z => Rat.not_le.mpr h (Rat.num_nonneg.mp z)⟩
theorem g_ix_enc0 {q : Rat} {S : Store} {P : D → Store → Prop} : dIx (encR q) (.int 0) S P = P (.int q.num) S := rfl
theorem g_ix_enc1 {q : Rat} {S : Store} {P : D → Store → Prop} : dIx (encR q) (.int 1) S P = P (.int (q.den : Int)) S := rfl
theorem g_ix_sp0 {q : Rat × Rat} {S : Store} {P : D → Store → Prop} : dIx (spD q) (.int 0) S P = P (encR q.1) S := rfl
theorem g_ix_sp1 {q : Rat × Rat} {S : Store} {P : D → Store → Prop} : dIx (spD q) (.int 1) S P = P (encR q.2) S := rfl
theorem vc_applied : goal_applied := by
  rintro x0 x1 x2 S P ⟨b, kn, xs, z, y, e, hy, hk, hl, b0, b1, z0, z1, hx, h⟩
  cases e
  have bp : (0 : Int) < b := by omega
  unfold rd_applied
  cases kn with
  | sum ws v =>
    simp only [Kn.d]
    walk_at "dg2"
    exact ⟨ws, xs, v, z, _, rfl, hy, hl.symm, hk.1, hk.2.1, hk.2.2.1, hk.2.2.2, z1, hx, h⟩
  | loose ws =>
    simp only [Kn.d]
    walk_at "dg2"
    refine ⟨ws, xs, 1, z, _, rfl, hy, hl.symm, hk.1, hk.2, by decide, by decide, z1, hx, ?_⟩
    have : wsum ws xs / ((1 : Int) : Rat) = wsum ws xs := by
      have e : ((1 : Int) : Rat) = 1 := rfl
      rw [e]; grind
    rw [this]; exact h
  | moved e =>
    have he : e.natAbs ≤ 30 := hk
    match xs, hl with
    | [x], _ =>
      simp only [Kn.d]
      walk_at "dg2"
      rw [nums_ix hy (i := 0) (k := 0) rfl rfl]
      exact ⟨b, e, rfl, bp, b1, by omega, _, _, rfl, (hx x (by simp)).mono (by omega), (sz_zpow bp b1).mono (by omega), h⟩
  | told q =>
    simp only [Kn.d]
    walk_at "dg2"
    exact h
  | choose =>
    match xs, hl with
    | [x, u, w], _ =>
      simp only [Kn.d]
      walk_at "dg2"
      rw [nums_ix hy (i := 0) (k := 0) rfl rfl, g_ix_enc0]
      have e : Kn.app b .choose [x, u, w] = if x < 0 then w else u := rfl
      rw [e] at h
      simp only [num_lt]
      by_cases hc : x < 0
      · simp only [hc, reduceIte] at h ⊢
        rw [nums_ix hy (i := 2) (k := 2) rfl rfl]
        exact h
      · simp only [hc, reduceIte] at h ⊢
        rw [nums_ix hy (i := 1) (k := 1) rfl rfl]
        exact h
  | times =>
    match xs, hl with
    | [x, u], _ =>
      have sx := hx x (by simp)
      have su := hx u (by simp)
      simp only [Kn.d]
      rcases hy with rfl | rfl <;> simp only [List.map_cons, List.map_nil] <;> walk_at "dg2" <;> exact ⟨_, _, rfl, sx.mono (by omega), su.mono (by omega), h⟩
  | over k =>
    have he : k.natAbs ≤ 20 := hk
    have p := Rat.zpow_pos (n := -k) (ratpos bp)
    match xs, hl with
    | [x, u], _ =>
      have sx := hx x (by simp)
      have su := hx u (by simp)
      have sp := sz_zpow (k := -k) bp b1
      have hp := max_pos (x := u) p
      simp only [Kn.d]
      rcases hy with rfl | rfl <;> simp only [List.map_cons, List.map_nil] <;> walk_at "dg2" <;> exact ⟨b, -k, rfl, bp, b1, by omega, _, _, rfl, su.mono (by omega), sp.mono (by omega), _, _, rfl, by grind, sx.mono (by omega), (sz_max (su.mono (n := z) (m := 4000) (by omega)) (sp.mono (by omega))), h⟩
  | least =>
    match xs, hl with
    | [x, u], _ =>
      have sx := hx x (by simp)
      have su := hx u (by simp)
      simp only [Kn.d]
      rcases hy with rfl | rfl <;> simp only [List.map_cons, List.map_nil] <;> walk_at "dg2" <;> exact ⟨_, _, rfl, sx.mono (by omega), su.mono (by omega), h⟩
  | most =>
    match xs, hl with
    | [x, u], _ =>
      have sx := hx x (by simp)
      have su := hx u (by simp)
      simp only [Kn.d]
      rcases hy with rfl | rfl <;> simp only [List.map_cons, List.map_nil] <;> walk_at "dg2" <;> exact ⟨_, _, rfl, sx.mono (by omega), su.mono (by omega), h⟩
theorem vc_corners_of : goal_corners_of := by
  rintro x0 S P ⟨n, e, hn, h⟩
  cases e
  unfold rd_corners_of
  walk_at "dg2"
  refine ⟨by omega, by omega, fun i ρ S' => S' = S ∧ ∃ z2 z3 z4, ρ = [some (.int n), some (.lst ((cor i).map intsD)), z2, z3, z4], ⟨rfl, none, none, none, rfl⟩, ?_, ?_⟩
  · rintro i d ρ S' hd ⟨rfl, z2, z3, z4, rfl⟩
    have hi := (rng_get hd).1
    refine ⟨_, rfl, ?_⟩
    simp only [dSet, dLc2]
    walk_at "dg2"
    refine ⟨fun j acc S2 => acc = (((cor i).take j).flatMap fun o => [o ++ [0], o ++ [1]]).map intsD ∧ S2 = S', ⟨by simp, rfl⟩, fun _ _ _ _ => trivial, ?_, ?_⟩
    · rintro j d2 acc S2 hd2 ⟨rfl, rfl⟩
      rw [List.getElem?_map] at hd2
      obtain ⟨o, ho, rfl⟩ := Option.map_eq_some_iff.mp hd2
      have omem := mem_cor.mp (List.mem_of_getElem? ho)
      refine ⟨_, rfl, ?_⟩
      have hj := (List.getElem?_eq_some_iff.mp ho).1
      rw [cor_len] at hj
      have hp2 : 2 ^ i ≤ 2 ^ 6 := Nat.pow_le_pow_right (by decide) (by omega)
      have tl : ((((cor i).take j).flatMap fun o => [o ++ [0], o ++ [1]]).map intsD).length ≤ 2 * j := by
        rw [List.length_map, List.length_flatMap]
        have : (((cor i).take j).map fun o => [o ++ [0], o ++ [1]].length) = List.replicate ((cor i).take j).length 2 := by
          rw [← List.map_const']; rfl
        rw [this, List.sum_replicate_nat, List.length_take]
        omega
      refine ⟨fun l acc S3 => S3 = S2 ∧ acc = (((cor i).take j).flatMap fun o => [o ++ [0], o ++ [1]]).map intsD ++ (([o ++ [0], o ++ [1]] : List (List Int)).take l).map intsD, ⟨rfl, by simp⟩, fun _ _ _ _ => trivial, ?_, ?_⟩
      · rintro l d1 acc1 S4 hd1 ⟨rfl, rfl⟩
        match l, hd1 with
        | 0, hd1 =>
          cases hd1
          refine ⟨_, rfl, ?_⟩
          unfold intsD at tl ⊢
          walk_at "dg2"
          simp only [List.length_map]
          refine ⟨by omega, by simp at tl ⊢; omega, ?_⟩
          simp
        | 1, hd1 =>
          cases hd1
          refine ⟨_, rfl, ?_⟩
          unfold intsD at tl ⊢
          walk_at "dg2"
          simp only [List.length_map]
          refine ⟨by omega, by simp at tl ⊢; omega, ?_⟩
          simp
        | l + 2, hd1 => cases l <;> cases hd1
      · rintro acc1 S4 ⟨rfl, rfl⟩
        refine ⟨?_, rfl⟩
        have et : (cor i).take (j + 1) = (cor i).take j ++ [o] := by rw [List.take_add_one, ho]; rfl
        rw [et, List.flatMap_append, List.map_append]
        simp
    · rintro acc S2 ⟨rfl, rfl⟩
      rw [List.length_map, List.take_length]
      exact ⟨rfl, _, _, _, rfl⟩
  · rintro ρ S' ⟨rfl, z2, z3, z4, rfl⟩
    rw [rng_len]
    walk_at "dg2"
    have : ((n : Int)).toNat = n := by omega
    rw [this]
    exact h
theorem vc_numbers_at : goal_numbers_at := by
  rintro x0 x1 S P ⟨ss, o, e, hl, ho, h100, h⟩
  cases e
  unfold rd_numbers_at intsD
  walk_at "dg2"
  rw [List.length_map, List.length_map]
  refine ⟨hl, ?_⟩
  rw [zipD_map]
  refine lc_mapA (fun (p : (Rat × Rat) × Int) => D.tup [spD p.1, .int p.2]) (fun p => encR (if p.2 = 0 then p.1.1 else p.1.2)) (by rw [List.length_zip]; omega) (fun p hp => ⟨_, rfl, fun Q q => ?_⟩) ?_
  · walk_at "dg2"
    rcases ho p.2 (List.of_mem_zip hp).2 with e | e
    · rw [e] at q ⊢
      rw [g_ix_sp0]; exact q
    · rw [e] at q ⊢
      rw [g_ix_sp1]; exact q
  have e : (ss.zip o).map (fun p => encR (if p.2 = 0 then p.1.1 else p.1.2)) = (pickAt ss o).map encR := by
    unfold pickAt; rw [List.map_map]; rfl
  rw [e]
  exact h
theorem fold_min_sz {n : Nat} : ∀ {xs : List Rat} {v : Rat}, Sz n v → (∀ x, x ∈ xs → Sz n x) → Sz n (xs.foldl min v) ∧ Sz n (xs.foldl max v)
  | [], v, h, _ => ⟨h, h⟩
  | x :: xs, v, h, hx => by
    have h1 := hx x (by simp)
    have h2 : ∀ y, y ∈ xs → Sz n y := fun y hy => hx y (by simp [hy])
    exact ⟨(fold_min_sz (sz_min h h1) h2).1, (fold_min_sz (sz_max h h1) h2).2⟩
theorem lc_mapP {α : Type} {t : Tgt} {de : DE} {P : D → Store → Prop} {p : Store → Prop} {xs : List α} {ρ : DSt} {S : Store} (f g : α → D) (hl : xs.length ≤ 100000) (hp : p S)
    (h : ∀ a, a ∈ xs → ∃ ρ', t.put (f a) (dwipe ρ t.slots) = some ρ' ∧ ∀ Q : D → Store → Prop, Q (g a) S → de ρ' S Q) (q : P (.lst (xs.map g)) S) : LcP t dYes de P (xs.map f) p ρ S := by
  refine ⟨by simpa using hl, fun i acc S' => acc = (xs.take i).map g ∧ S' = S, ⟨rfl, rfl⟩, fun i acc S' h => by rw [h.2]; exact hp, ?_, ?_⟩
  · rintro i d acc S' hd ⟨rfl, rfl⟩
    rw [List.getElem?_map] at hd
    cases e : xs[i]? with
    | none => rw [e] at hd; cases hd
    | some a =>
      rw [e] at hd
      cases hd
      obtain ⟨ρ', h1, h2⟩ := h a (List.mem_of_getElem? e)
      refine ⟨ρ', h1, ?_⟩
      simp only [dYes, reduceIte]
      refine h2 _ ⟨?_, rfl⟩
      rw [List.take_add_one, e]
      simp
  · rintro acc S' ⟨rfl, rfl⟩
    rw [List.length_map, List.take_length]
    exact q
theorem vals_len {b : Int} {kn : Kn} {ss : List (Rat × Rat)} : (kn.vals b ss).length = 2 ^ ss.length := by unfold Kn.vals; rw [List.length_map, cor_len]
theorem min_self (x : Rat) : min x x = x := by rw [min_if, if_neg (by grind)]
theorem max_self (x : Rat) : max x x = x := by rw [max_if, if_neg (by grind)]
theorem vc_reach_of : goal_reach_of := by
  rintro x0 x1 x2 S P ⟨b, kn, rs, z, y, e, hy, hk, hl, b0, b1, z0, z1, hr, h⟩
  cases e
  unfold rd_reach_of
  have many4 : kn.many ≤ 4 := by
    cases kn with
    | sum ws v => exact hk.1
    | loose ws => exact hk.1
    | _ => simp [Kn.many]
  obtain ⟨ss, hss⟩ : ∃ ss, ss = rs.map (spanQ b) := ⟨_, rfl⟩
  have ssl : ss.length = kn.many := by rw [hss, List.length_map]; exact hl
  rw [← hss] at h
  have szs : ∀ s, s ∈ ss → Sz z s.1 ∧ Sz z s.2 := fun s hs => by
    rw [hss] at hs
    obtain ⟨r, hr', rfl⟩ := List.mem_map.mp hs
    exact (hr r hr').2
  have body : dSeq (dSet 5 (dLc (dItSeq (dCB sp_corners_of (dCons (dCB cLen (dCons (dVar 3) dNil)) dNil))) (.nm 6) dYes (dCB sp_applied (dCons (dVar 0) (dCons (dVar 1) (dCons (dCB sp_numbers_at (dCons (dVar 3) (dCons (dVar 6) dNil))) dNil))))))
      (dSeq (dPar 7 8 (dCons (dOp dIx (dVar 5) (dC (.int 0))) (dCons (dOp dIx (dVar 5) (dC (.int 0))) dNil)))
      (dSeq (dFor (dItSeq (dVar 5)) (.nm 9) (dPar 7 8 (dCons (dCB sp_lesser (dCons (dVar 7) (dCons (dVar 9) dNil))) (dCons (dCB sp_greater (dCons (dVar 8) (dCons (dVar 9) dNil))) dNil))))
      (dRet (dTup (dCons (dVar 7) (dCons (dVar 8) dNil)))))) (dEnd P) [some (.int b), some kn.d, some x2, some (.lst (ss.map spD)), none, none, none, none, none, none] S := by
    walk_at "dg2"
    rw [List.length_map]
    refine ⟨ss.length, rfl, by omega, ?_⟩
    walk_at "dg2"
    refine lc_mapA intsD (fun o => encR (kn.app b (pickAt ss o))) (by
      rw [cor_len]
      have : 2 ^ ss.length ≤ 2 ^ 4 := Nat.pow_le_pow_right (by decide) (by omega)
      omega) (fun o ho => ⟨_, rfl, fun Q q => ?_⟩) ?_
    · obtain ⟨o1, o2⟩ := mem_cor.mp ho
      walk_at "dg2"
      refine ⟨ss, o, rfl, o1.symm, o2, by omega, ?_⟩
      refine ⟨b, kn, pickAt ss o, z, _, rfl, .inl rfl, hk, by rw [pickAt_len o1]; exact ssl, b0, b1, z0, z1, fun x hx => ?_, q⟩
      obtain ⟨s, hs, hx | hx⟩ := pickAt_mem hx
      · rw [hx]; exact (szs s hs).1
      · rw [hx]; exact (szs s hs).2
    have ev : (cor ss.length).map (fun o => encR (kn.app b (pickAt ss o))) = (kn.vals b ss).map encR := by unfold Kn.vals; rw [List.map_map]; rfl
    rw [ev]
    have vsz : ∀ v, v ∈ kn.vals b ss → Sz 4000 v := fun v hv => by
      unfold Kn.vals at hv
      obtain ⟨o, ho, rfl⟩ := List.mem_map.mp hv
      obtain ⟨o1, o2⟩ := mem_cor.mp ho
      refine (Kn.app_sz (z := z) b0 b1 hk (by rw [pickAt_len o1]; exact ssl) z0 fun x hx => ?_).mono (by omega)
      obtain ⟨s, hs, hx | hx⟩ := pickAt_mem hx
      · rw [hx]; exact (szs s hs).1
      · rw [hx]; exact (szs s hs).2
    obtain ⟨v0, vs, hvs⟩ : ∃ v0 vs, kn.vals b ss = v0 :: vs := by
      have hlen := vals_len (b := b) (kn := kn) (ss := ss)
      cases hv : kn.vals b ss with
      | nil =>
        rw [hv] at hlen
        have : 0 < 2 ^ ss.length := Nat.pow_pos (by decide)
        simp at hlen
        omega
      | cons v0 vs => exact ⟨v0, vs, rfl⟩
    have em : (v0 :: vs).foldl min v0 = minL (kn.vals b ss) := by rw [hvs]; show vs.foldl min (min v0 v0) = vs.foldl min v0; rw [min_self]
    have ex : (v0 :: vs).foldl max v0 = maxL (kn.vals b ss) := by rw [hvs]; show vs.foldl max (max v0 v0) = vs.foldl max v0; rw [max_self]
    have ev2 : (kn.vals b ss).map encR = (v0 :: vs).map encR := by rw [hvs]
    rw [hvs] at vsz
    rw [ev2]
    have e0 : atI ((v0 :: vs).map encR) 0 = some (encR v0) := by
      rw [atI_at (by decide) (by simp only [List.map_cons, List.length_cons]; omega)]; rfl
    walk_at "dg2"
    rw [e0]
    walk_at "dg2"
    refine ⟨fun i ρ S' => S' = S ∧ ∃ z9, ρ = [some (.int b), some kn.d, some x2, some (.lst (ss.map spD)), none, some (.lst ((v0 :: vs).map encR)), none, some (encR (((v0 :: vs).take i).foldl min v0)), some (encR (((v0 :: vs).take i).foldl max v0)), z9], ⟨rfl, none, rfl⟩, ?_, ?_⟩
    · rintro i d ρ S' hd ⟨rfl, z9, rfl⟩
      rw [List.getElem?_map] at hd
      obtain ⟨v, hv, rfl⟩ := Option.map_eq_some_iff.mp hd
      refine ⟨_, rfl, ?_⟩
      walk_at "dg2"
      have sv := vsz v (List.mem_of_getElem? hv)
      have s0 := vsz v0 (by simp)
      have st := fold_min_sz (n := 4000) (xs := (v0 :: vs).take i) s0 fun x hx => vsz x (List.mem_of_mem_take hx)
      refine ⟨_, _, rfl, st.1.mono (by decide), sv.mono (by decide), _, _, rfl, st.2.mono (by decide), sv.mono (by decide), rfl, some (encR v), ?_⟩
      rw [List.take_add_one, hv]
      simp
    · rintro ρ S' ⟨rfl, z9, rfl⟩
      rw [List.length_map, List.take_length, em, ex]
      walk_at "dg2"
      exact h
  have sp1 : ∀ r, r ∈ rs → ∀ Q : D → Store → Prop, Q (spD (spanQ b r)) S → sp_span_of [.int b, r.d] S Q := fun r hr' Q q => ⟨b, r, rfl, (hr r hr').1, q⟩
  have esp : rs.map (fun r => spD (spanQ b r)) = ss.map spD := by rw [hss, List.map_map]; rfl
  rcases hy with rfl | rfl | ⟨l, rfl, hS⟩
  · rw [dSeq]
    walk_at "dg2"
    refine lc_mapA Rw.d (fun r => spD (spanQ b r)) (by omega) (fun r hr' => ⟨_, rfl, fun Q q => ?_⟩) ?_
    · walk_at "dg2"
      exact sp1 r hr' Q q
    rw [esp]
    exact body
  · rw [dSeq]
    walk_at "dg2"
    refine lc_mapA Rw.d (fun r => spD (spanQ b r)) (by omega) (fun r hr' => ⟨_, rfl, fun Q q => ?_⟩) ?_
    · walk_at "dg2"
      exact sp1 r hr' Q q
    rw [esp]
    exact body
  · rw [dSeq]
    walk_at "dg2"
    simp only [hS]
    refine lc_mapP Rw.d (fun r => spD (spanQ b r)) (by omega) hS (fun r hr' => ⟨_, rfl, fun Q q => ?_⟩) ?_
    · walk_at "dg2"
      exact sp1 r hr' Q q
    rw [esp]
    exact body
/-! ### the least and the greatest of corners -/
theorem foldl_min_le : ∀ (xs : List Rat) (v : Rat), xs.foldl min v ≤ v ∧ (∀ x, x ∈ xs → xs.foldl min v ≤ x) ∧ (xs.foldl min v = v ∨ xs.foldl min v ∈ xs)
  | [], v => ⟨Rat.le_refl, by simp, .inl rfl⟩
  | x :: xs, v => by
    obtain ⟨h1, h2, h3⟩ := foldl_min_le xs (min v x)
    have m1 : min v x ≤ v ∧ min v x ≤ x ∧ (min v x = v ∨ min v x = x) := by
      rw [min_if]
      split
      · exact ⟨by grind, Rat.le_refl, .inr rfl⟩
      · exact ⟨Rat.le_refl, by grind, .inl rfl⟩
    refine ⟨Rat.le_trans h1 m1.1, fun y hy => ?_, ?_⟩
    · rcases List.mem_cons.mp hy with rfl | hy
      · exact Rat.le_trans h1 m1.2.1
      · exact h2 y hy
    · rcases h3 with h3 | h3
      · show xs.foldl min (min v x) = v ∨ xs.foldl min (min v x) ∈ x :: xs
        rw [h3]
        rcases m1.2.2 with e | e
        · exact .inl e
        · exact .inr (by rw [e]; simp)
      · exact .inr (List.mem_cons_of_mem _ h3)
theorem foldl_max_le : ∀ (xs : List Rat) (v : Rat), v ≤ xs.foldl max v ∧ (∀ x, x ∈ xs → x ≤ xs.foldl max v) ∧ (xs.foldl max v = v ∨ xs.foldl max v ∈ xs)
  | [], v => ⟨Rat.le_refl, by simp, .inl rfl⟩
  | x :: xs, v => by
    obtain ⟨h1, h2, h3⟩ := foldl_max_le xs (max v x)
    have m1 : v ≤ max v x ∧ x ≤ max v x ∧ (max v x = v ∨ max v x = x) := by
      rw [max_if]
      split
      · exact ⟨by grind, Rat.le_refl, .inr rfl⟩
      · exact ⟨Rat.le_refl, by grind, .inl rfl⟩
    refine ⟨Rat.le_trans m1.1 h1, fun y hy => ?_, ?_⟩
    · rcases List.mem_cons.mp hy with rfl | hy
      · exact Rat.le_trans m1.2.1 h1
      · exact h2 y hy
    · rcases h3 with h3 | h3
      · show xs.foldl max (max v x) = v ∨ xs.foldl max (max v x) ∈ x :: xs
        rw [h3]
        rcases m1.2.2 with e | e
        · exact .inl e
        · exact .inr (by rw [e]; simp)
      · exact .inr (List.mem_cons_of_mem _ h3)
theorem minL_is {xs : List Rat} (h : xs ≠ []) : minL xs ∈ xs ∧ ∀ x, x ∈ xs → minL xs ≤ x := by
  match xs, h with
  | v :: xs, _ =>
    obtain ⟨h1, h2, h3⟩ := foldl_min_le xs v
    refine ⟨?_, fun x hx => ?_⟩
    · show xs.foldl min v ∈ v :: xs
      rcases h3 with e | e
      · rw [e]; simp
      · exact List.mem_cons_of_mem _ e
    · rcases List.mem_cons.mp hx with rfl | hx
      · exact h1
      · exact h2 x hx
theorem maxL_is {xs : List Rat} (h : xs ≠ []) : maxL xs ∈ xs ∧ ∀ x, x ∈ xs → x ≤ maxL xs := by
  match xs, h with
  | v :: xs, _ =>
    obtain ⟨h1, h2, h3⟩ := foldl_max_le xs v
    refine ⟨?_, fun x hx => ?_⟩
    · show xs.foldl max v ∈ v :: xs
      rcases h3 with e | e
      · rw [e]; simp
      · exact List.mem_cons_of_mem _ e
    · rcases List.mem_cons.mp hx with rfl | hx
      · exact h1
      · exact h2 x hx
theorem minL_eq {xs : List Rat} {m : Rat} (hm : m ∈ xs) (hl : ∀ x, x ∈ xs → m ≤ x) : minL xs = m := by
  obtain ⟨h1, h2⟩ := minL_is (List.ne_nil_of_mem hm)
  exact Rat.le_antisymm (h2 m hm) (hl _ h1)
theorem maxL_eq {xs : List Rat} {m : Rat} (hm : m ∈ xs) (hl : ∀ x, x ∈ xs → x ≤ m) : maxL xs = m := by
  obtain ⟨h1, h2⟩ := maxL_is (List.ne_nil_of_mem hm)
  exact Rat.le_antisymm (hl _ h1) (h2 m hm)
/-- an end of each -/
def Ch : List (Rat × Rat) → List Rat → Prop
  | [], [] => True
  | s :: ss, x :: xs => (x = s.1 ∨ x = s.2) ∧ Ch ss xs
  | _, _ => False
/-- a number of each -/
def Ins : List (Rat × Rat) → List Rat → Prop
  | [], [] => True
  | s :: ss, x :: xs => (s.1 ≤ x ∧ x ≤ s.2) ∧ Ins ss xs
  | _, _ => False
def Up (ss : List (Rat × Rat)) : Prop := ∀ s, s ∈ ss → s.1 ≤ s.2
theorem ch_pick : ∀ {ss : List (Rat × Rat)} {o : List Int}, o.length = ss.length → Ch ss (pickAt ss o)
  | [], [], _ => by simp [pickAt, Ch]
  | s :: ss, e :: o, h => by
    have ih := ch_pick (ss := ss) (o := o) (by simpa using h)
    show Ch (s :: ss) ((if e = 0 then s.1 else s.2) :: pickAt ss o)
    refine ⟨?_, ih⟩
    split
    · exact .inl rfl
    · exact .inr rfl
theorem pick_ch : ∀ {ss : List (Rat × Rat)} {xs : List Rat}, Ch ss xs → ∃ o : List Int, o ∈ cor ss.length ∧ pickAt ss o = xs
  | [], [], _ => ⟨[], by simp [cor], rfl⟩
  | [], _ :: _, h => h.elim
  | _ :: _, [], h => h.elim
  | s :: ss, x :: xs, ⟨hx, h⟩ => by
    obtain ⟨o, ho, e⟩ := pick_ch h
    obtain ⟨o1, o2⟩ := mem_cor.mp ho
    rcases hx with rfl | rfl
    · refine ⟨0 :: o, mem_cor.mpr ⟨by simp [o1], fun e he => ?_⟩, ?_⟩
      · rcases List.mem_cons.mp he with rfl | he
        · exact .inl rfl
        · exact o2 e he
      · show (if (0 : Int) = 0 then s.1 else s.2) :: pickAt ss o = _
        rw [e]; rfl
    · refine ⟨1 :: o, mem_cor.mpr ⟨by simp [o1], fun e he => ?_⟩, ?_⟩
      · rcases List.mem_cons.mp he with rfl | he
        · exact .inr rfl
        · exact o2 e he
      · show (if (1 : Int) = 0 then s.1 else s.2) :: pickAt ss o = _
        rw [e]; rfl
theorem mem_vals {b : Int} {kn : Kn} {ss : List (Rat × Rat)} {v : Rat} : v ∈ kn.vals b ss ↔ ∃ xs, Ch ss xs ∧ v = kn.app b xs := by
  unfold Kn.vals
  rw [List.mem_map]
  constructor
  · rintro ⟨o, ho, rfl⟩
    exact ⟨_, ch_pick (mem_cor.mp ho).1, rfl⟩
  · rintro ⟨xs, hx, rfl⟩
    obtain ⟨o, ho, e⟩ := pick_ch hx
    exact ⟨o, ho, by rw [e]⟩
theorem ch_ins : ∀ {ss : List (Rat × Rat)} {xs : List Rat}, Up ss → Ch ss xs → Ins ss xs
  | [], [], _, _ => trivial
  | [], _ :: _, _, h => h.elim
  | _ :: _, [], _, h => h.elim
  | s :: ss, x :: xs, hu, ⟨hx, h⟩ => by
    have h1 := hu s (by simp)
    refine ⟨?_, ch_ins (fun t ht => hu t (by simp [ht])) h⟩
    rcases hx with rfl | rfl
    · exact ⟨Rat.le_refl, h1⟩
    · exact ⟨h1, Rat.le_refl⟩
theorem Ch.len : ∀ {ss : List (Rat × Rat)} {xs : List Rat}, Ch ss xs → xs.length = ss.length
  | [], [], _ => rfl
  | [], _ :: _, h => h.elim
  | _ :: _, [], h => h.elim
  | s :: ss, x :: xs, ⟨_, h⟩ => by simp [h.len]
/-- what of sums is least, greatest -/
def sumLo (ws : List Int) (ss : List (Rat × Rat)) : List Rat := (ss.zip ws).map fun p => if p.2 < 0 then p.1.2 else p.1.1
def sumHi (ws : List Int) (ss : List (Rat × Rat)) : List Rat := (ss.zip ws).map fun p => if p.2 < 0 then p.1.1 else p.1.2
theorem sumLo_ch : ∀ {ws : List Int} {ss : List (Rat × Rat)}, ws.length = ss.length → Ch ss (sumLo ws ss) ∧ Ch ss (sumHi ws ss)
  | [], [], _ => ⟨trivial, trivial⟩
  | w :: ws, s :: ss, h => by
    have ih := sumLo_ch (ws := ws) (ss := ss) (by simpa using h)
    refine ⟨⟨?_, ih.1⟩, ⟨?_, ih.2⟩⟩
    · show (if w < 0 then s.2 else s.1) = s.1 ∨ (if w < 0 then s.2 else s.1) = s.2
      split
      · exact .inr rfl
      · exact .inl rfl
    · show (if w < 0 then s.1 else s.2) = s.1 ∨ (if w < 0 then s.1 else s.2) = s.2
      split
      · exact .inl rfl
      · exact .inr rfl
theorem mul_ge {w : Int} {a x c : Rat} (h1 : a ≤ x) (h2 : x ≤ c) : (w : Rat) * (if w < 0 then c else a) ≤ (w : Rat) * x ∧ (w : Rat) * x ≤ (w : Rat) * (if w < 0 then a else c) := by
  by_cases hw : w < 0
  · simp only [hw, reduceIte]
    have p : (0 : Rat) ≤ ((-w : Int) : Rat) := Rat.le_of_lt (ratpos (by omega))
    rw [Rat.intCast_neg] at p
    have m1 := Rat.mul_le_mul_of_nonneg_left h2 p
    have m2 := Rat.mul_le_mul_of_nonneg_left h1 p
    constructor <;> grind
  · simp only [hw, reduceIte]
    have p : ((0 : Int) : Rat) ≤ (w : Rat) := Rat.intCast_le_intCast.mpr (by omega)
    exact ⟨Rat.mul_le_mul_of_nonneg_left h1 p, Rat.mul_le_mul_of_nonneg_left h2 p⟩
theorem sumLo_le : ∀ {ws : List Int} {ss : List (Rat × Rat)} {xs : List Rat}, ws.length = ss.length → Ins ss xs → wsum ws (sumLo ws ss) ≤ wsum ws xs ∧ wsum ws xs ≤ wsum ws (sumHi ws ss)
  | [], [], xs, _, h => ⟨by show (0 : Rat) ≤ 0; exact Rat.le_refl, by show (0 : Rat) ≤ 0; exact Rat.le_refl⟩
  | w :: ws, s :: ss, [], _, h => h.elim
  | w :: ws, s :: ss, x :: xs, hl, ⟨⟨h1, h2⟩, h⟩ => by
    have ih := sumLo_le (ws := ws) (ss := ss) (xs := xs) (by simpa using hl) h
    have m := mul_ge (w := w) h1 h2
    have e1 : sumLo (w :: ws) (s :: ss) = (if w < 0 then s.2 else s.1) :: sumLo ws ss := rfl
    have e2 : sumHi (w :: ws) (s :: ss) = (if w < 0 then s.1 else s.2) :: sumHi ws ss := rfl
    rw [e1, e2]
    simp only [wsum]
    constructor <;> grind
/-- products: by ends -/
theorem mul_low {a c x y : Rat} (h1 : a ≤ x) (h2 : x ≤ c) : (a * y ≤ x * y ∨ c * y ≤ x * y) ∧ (x * y ≤ a * y ∨ x * y ≤ c * y) := by
  by_cases hy : 0 ≤ y
  · exact ⟨.inl (Rat.mul_le_mul_of_nonneg_right h1 hy), .inr (Rat.mul_le_mul_of_nonneg_right h2 hy)⟩
  · have p : 0 ≤ -y := by grind
    have m1 := Rat.mul_le_mul_of_nonneg_right h1 p
    have m2 := Rat.mul_le_mul_of_nonneg_right h2 p
    exact ⟨.inr (by grind), .inl (by grind)⟩
/-- some corner is as low, some as high -/
theorem corner_low {b : Int} {kn : Kn} {ss : List (Rat × Rat)} {xs : List Rat} (b0 : 2 ≤ b) (hk : kn.Ok) (hl : ss.length = kn.many) (hi : Ins ss xs) (hu : Up ss) :
    (∃ c, Ch ss c ∧ kn.app b c ≤ kn.app b xs) ∧ ∃ c, Ch ss c ∧ kn.app b xs ≤ kn.app b c := by
  have bp : (0 : Int) < b := by omega
  cases kn with
  | sum ws v =>
    have hl' : ws.length = ss.length := hl.symm
    have c := sumLo_ch hl'
    have m := sumLo_le hl' hi
    have vp : (0 : Rat) ≤ ((v : Int) : Rat)⁻¹ := Rat.le_of_lt (Rat.inv_pos.mpr (ratpos (by have := hk.2.2.1; omega)))
    refine ⟨⟨_, c.1, ?_⟩, ⟨_, c.2, ?_⟩⟩
    · show wsum ws _ / _ ≤ wsum ws _ / _
      rw [Rat.div_def, Rat.div_def]
      exact Rat.mul_le_mul_of_nonneg_right m.1 vp
    · show wsum ws _ / _ ≤ wsum ws _ / _
      rw [Rat.div_def, Rat.div_def]
      exact Rat.mul_le_mul_of_nonneg_right m.2 vp
  | loose ws =>
    have hl' : ws.length = ss.length := hl.symm
    have c := sumLo_ch hl'
    have m := sumLo_le hl' hi
    exact ⟨⟨_, c.1, m.1⟩, ⟨_, c.2, m.2⟩⟩
  | moved e =>
    match ss, xs, hl, hi with
    | [s], [x], _, ⟨h, _⟩ =>
      have p := Rat.le_of_lt (Rat.zpow_pos (n := e) (ratpos bp))
      exact ⟨⟨[s.1], ⟨.inl rfl, trivial⟩, Rat.mul_le_mul_of_nonneg_right h.1 p⟩, ⟨[s.2], ⟨.inr rfl, trivial⟩, Rat.mul_le_mul_of_nonneg_right h.2 p⟩⟩
    | [s], _ :: _ :: _, _, ⟨_, h⟩ => exact h.elim
  | told q =>
    match ss, xs, hl, hi with
    | [], [], _, _ => exact ⟨⟨[], trivial, Rat.le_refl⟩, ⟨[], trivial, Rat.le_refl⟩⟩
  | times =>
    match ss, xs, hl, hi with
    | [s, t], [x, y], _, ⟨hx, hy, _⟩ =>
      have m1 := mul_low (y := y) hx.1 hx.2
      have lo : ∀ u, u = s.1 ∨ u = s.2 → u * y ≤ x * y → ∃ c, Ch [s, t] c ∧ Kn.app b .times c ≤ x * y := fun u hu h => by
        have m2 := mul_low (y := u) hy.1 hy.2
        rcases m2.1 with h2 | h2
        · exact ⟨[u, t.1], ⟨hu, .inl rfl, trivial⟩, by show u * t.1 ≤ x * y; grind⟩
        · exact ⟨[u, t.2], ⟨hu, .inr rfl, trivial⟩, by show u * t.2 ≤ x * y; grind⟩
      have up : ∀ u, u = s.1 ∨ u = s.2 → x * y ≤ u * y → ∃ c, Ch [s, t] c ∧ x * y ≤ Kn.app b .times c := fun u hu h => by
        have m2 := mul_low (y := u) hy.1 hy.2
        rcases m2.2 with h2 | h2
        · exact ⟨[u, t.1], ⟨hu, .inl rfl, trivial⟩, by show x * y ≤ u * t.1; grind⟩
        · exact ⟨[u, t.2], ⟨hu, .inr rfl, trivial⟩, by show x * y ≤ u * t.2; grind⟩
      refine ⟨?_, ?_⟩
      · rcases m1.1 with h | h
        · exact lo s.1 (.inl rfl) h
        · exact lo s.2 (.inr rfl) h
      · rcases m1.2 with h | h
        · exact up s.1 (.inl rfl) h
        · exact up s.2 (.inr rfl) h
    | [s, t], [x], _, ⟨_, h⟩ => exact h.elim
    | [s, t], _ :: _ :: _ :: _, _, ⟨_, _, h⟩ => exact h.elim
  | over k =>
    match ss, xs, hl, hi with
    | [s, t], [x, y], _, ⟨hx, hy, _⟩ =>
      have p := Rat.zpow_pos (n := -k) (ratpos bp)
      generalize ec : (b : Rat) ^ (-k) = c at p
      have inv : ∀ {u v : Rat}, u ≤ v → 0 < (max u c)⁻¹ ∧ (max v c)⁻¹ ≤ (max u c)⁻¹ := fun {u v} h => by
        have pu := max_pos (x := u) p
        have pv := max_pos (x := v) p
        have le : max u c ≤ max v c := by
          rw [max_if, max_if]
          split <;> split <;> grind
        have iu := Rat.inv_pos.mpr pu
        have iv := Rat.inv_pos.mpr pv
        refine ⟨iu, ?_⟩
        have m := Rat.mul_le_mul_of_nonneg_left le (Rat.le_of_lt (Rat.mul_pos iu iv))
        have e1 : (max u c)⁻¹ * (max v c)⁻¹ * max u c = (max v c)⁻¹ := by
          have : (max u c)⁻¹ * max u c = 1 := Rat.inv_mul_cancel _ (by grind)
          grind
        have e2 : (max u c)⁻¹ * (max v c)⁻¹ * max v c = (max u c)⁻¹ := by
          have : (max v c)⁻¹ * max v c = 1 := Rat.inv_mul_cancel _ (by grind)
          grind
        rw [e1, e2] at m
        exact m
      have ap : ∀ u v : Rat, Kn.app b (.over k) [u, v] = u * (max v c)⁻¹ := fun u v => by
        show u / max v ((b : Rat) ^ (-k)) = _
        rw [ec, Rat.div_def]
      have i1 := inv hy.1
      have i2 := inv hy.2
      obtain ⟨gy, hgy⟩ : ∃ g, g = (max y c)⁻¹ := ⟨_, rfl⟩
      obtain ⟨g1, hg1⟩ : ∃ g, g = (max t.1 c)⁻¹ := ⟨_, rfl⟩
      obtain ⟨g2, hg2⟩ : ∃ g, g = (max t.2 c)⁻¹ := ⟨_, rfl⟩
      rw [← hgy, ← hg1] at i1
      rw [← hgy, ← hg2] at i2
      have m1 := mul_low (y := gy) hx.1 hx.2
      have bnd : ∀ u : Rat, (u * g2 ≤ u * gy ∨ u * g1 ≤ u * gy) ∧ (u * gy ≤ u * g2 ∨ u * gy ≤ u * g1) := fun u => by
        have := mul_low (y := u) i2.2 i1.2
        constructor
        · rcases this.1 with h | h
          · exact .inl (by grind)
          · exact .inr (by grind)
        · rcases this.2 with h | h
          · exact .inl (by grind)
          · exact .inr (by grind)
      have lo : ∀ u, u = s.1 ∨ u = s.2 → u * gy ≤ x * gy → ∃ c', Ch [s, t] c' ∧ Kn.app b (.over k) c' ≤ x * gy := fun u hu h => by
        rcases (bnd u).1 with h2 | h2
        · exact ⟨[u, t.2], ⟨hu, .inr rfl, trivial⟩, by rw [ap, ← hg2]; grind⟩
        · exact ⟨[u, t.1], ⟨hu, .inl rfl, trivial⟩, by rw [ap, ← hg1]; grind⟩
      have up : ∀ u, u = s.1 ∨ u = s.2 → x * gy ≤ u * gy → ∃ c', Ch [s, t] c' ∧ x * gy ≤ Kn.app b (.over k) c' := fun u hu h => by
        rcases (bnd u).2 with h2 | h2
        · exact ⟨[u, t.2], ⟨hu, .inr rfl, trivial⟩, by rw [ap, ← hg2]; grind⟩
        · exact ⟨[u, t.1], ⟨hu, .inl rfl, trivial⟩, by rw [ap, ← hg1]; grind⟩
      rw [ap, ← hgy]
      refine ⟨?_, ?_⟩
      · rcases m1.1 with h | h
        · exact lo s.1 (.inl rfl) h
        · exact lo s.2 (.inr rfl) h
      · rcases m1.2 with h | h
        · exact up s.1 (.inl rfl) h
        · exact up s.2 (.inr rfl) h
    | [s, t], [x], _, ⟨_, h⟩ => exact h.elim
    | [s, t], _ :: _ :: _ :: _, _, ⟨_, _, h⟩ => exact h.elim
  | least =>
    match ss, xs, hl, hi with
    | [s, t], [x, y], _, ⟨hx, hy, _⟩ =>
      refine ⟨⟨[s.1, t.1], ⟨.inl rfl, .inl rfl, trivial⟩, ?_⟩, ⟨[s.2, t.2], ⟨.inr rfl, .inr rfl, trivial⟩, ?_⟩⟩
      · show min s.1 t.1 ≤ min x y
        rw [min_if, min_if]; split <;> split <;> grind
      · show min x y ≤ min s.2 t.2
        rw [min_if, min_if]; split <;> split <;> grind
    | [s, t], [x], _, ⟨_, h⟩ => exact h.elim
    | [s, t], _ :: _ :: _ :: _, _, ⟨_, _, h⟩ => exact h.elim
  | most =>
    match ss, xs, hl, hi with
    | [s, t], [x, y], _, ⟨hx, hy, _⟩ =>
      refine ⟨⟨[s.1, t.1], ⟨.inl rfl, .inl rfl, trivial⟩, ?_⟩, ⟨[s.2, t.2], ⟨.inr rfl, .inr rfl, trivial⟩, ?_⟩⟩
      · show max s.1 t.1 ≤ max x y
        rw [max_if, max_if]; split <;> split <;> grind
      · show max x y ≤ max s.2 t.2
        rw [max_if, max_if]; split <;> split <;> grind
    | [s, t], [x], _, ⟨_, h⟩ => exact h.elim
    | [s, t], _ :: _ :: _ :: _, _, ⟨_, _, h⟩ => exact h.elim
  | choose =>
    match ss, xs, hl, hi with
    | [s, t, u], [x, y, w], _, ⟨hx, hy, hw, _⟩ =>
      by_cases hc : x < 0
      · have e : Kn.app b .choose [x, y, w] = w := by show (if x < 0 then w else y) = w; rw [if_pos hc]
        have hs : s.1 < 0 := by grind
        have e1 : Kn.app b .choose [s.1, t.1, u.1] = u.1 := by show (if s.1 < 0 then u.1 else t.1) = u.1; rw [if_pos hs]
        have e2 : Kn.app b .choose [s.1, t.1, u.2] = u.2 := by show (if s.1 < 0 then u.2 else t.1) = u.2; rw [if_pos hs]
        rw [e]
        exact ⟨⟨[s.1, t.1, u.1], ⟨.inl rfl, .inl rfl, .inl rfl, trivial⟩, by rw [e1]; exact hw.1⟩, ⟨[s.1, t.1, u.2], ⟨.inl rfl, .inl rfl, .inr rfl, trivial⟩, by rw [e2]; exact hw.2⟩⟩
      · have e : Kn.app b .choose [x, y, w] = y := by show (if x < 0 then w else y) = y; rw [if_neg hc]
        have hs : ¬ s.2 < 0 := by grind
        have e1 : Kn.app b .choose [s.2, t.1, u.1] = t.1 := by show (if s.2 < 0 then u.1 else t.1) = t.1; rw [if_neg hs]
        have e2 : Kn.app b .choose [s.2, t.2, u.1] = t.2 := by show (if s.2 < 0 then u.1 else t.2) = t.2; rw [if_neg hs]
        rw [e]
        exact ⟨⟨[s.2, t.1, u.1], ⟨.inr rfl, .inl rfl, .inl rfl, trivial⟩, by rw [e1]; exact hy.1⟩, ⟨[s.2, t.2, u.1], ⟨.inr rfl, .inr rfl, .inl rfl, trivial⟩, by rw [e2]; exact hy.2⟩⟩
    | [s, t, u], [x], _, ⟨_, h⟩ => exact h.elim
    | [s, t, u], [x, y], _, ⟨_, _, h⟩ => exact h.elim
    | [s, t, u], _ :: _ :: _ :: _ :: _, _, ⟨_, _, _, h⟩ => exact h.elim
/-- all that comes is between -/
theorem vals_within {b : Int} {kn : Kn} {ss : List (Rat × Rat)} {xs : List Rat} (b0 : 2 ≤ b) (hk : kn.Ok) (hl : ss.length = kn.many) (hi : Ins ss xs) (hu : Up ss) :
    minL (kn.vals b ss) ≤ kn.app b xs ∧ kn.app b xs ≤ maxL (kn.vals b ss) := by
  obtain ⟨⟨c, c1, c2⟩, d, d1, d2⟩ := corner_low b0 hk hl hi hu
  have m1 : kn.app b c ∈ kn.vals b ss := mem_vals.mpr ⟨c, c1, rfl⟩
  have m2 : kn.app b d ∈ kn.vals b ss := mem_vals.mpr ⟨d, d1, rfl⟩
  exact ⟨Rat.le_trans ((minL_is (List.ne_nil_of_mem m1)).2 _ m1) c2, Rat.le_trans d2 ((maxL_is (List.ne_nil_of_mem m2)).2 _ m2)⟩
/-! ### isinstance of dict, of (bool, str) -/
theorem isi_non_dict {S : Store} {P : D → Store → Prop} : cIsi [.non, .ty "dict"] S P = P (.bl false) S := propext ⟨fun h => h.2, fun h => ⟨by decide, h⟩⟩
theorem isi_bl_dict {k : Bool} {S : Store} {P : D → Store → Prop} : cIsi [(.bl k), .ty "dict"] S P = P (.bl false) S := propext ⟨fun h => h.2, fun h => ⟨by decide, h⟩⟩
theorem isi_int_dict {k : Int} {S : Store} {P : D → Store → Prop} : cIsi [(.int k), .ty "dict"] S P = P (.bl false) S := propext ⟨fun h => h.2, fun h => ⟨by decide, h⟩⟩
theorem isi_str_dict {k : Str} {S : Store} {P : D → Store → Prop} : cIsi [(.str k), .ty "dict"] S P = P (.bl false) S := propext ⟨fun h => h.2, fun h => ⟨by decide, h⟩⟩
theorem isi_lst_dict {k : List D} {S : Store} {P : D → Store → Prop} : cIsi [(.lst k), .ty "dict"] S P = P (.bl false) S := propext ⟨fun h => h.2, fun h => ⟨by decide, h⟩⟩
theorem isi_tup_dict {k : List D} {S : Store} {P : D → Store → Prop} : cIsi [(.tup k), .ty "dict"] S P = P (.bl false) S := propext ⟨fun h => h.2, fun h => ⟨by decide, h⟩⟩
theorem isi_non_bs {S : Store} {P : D → Store → Prop} : cIsi [.non, .tup [.ty "bool", .ty "str"]] S P = P (.bl false) S := rfl
theorem isi_bl_bs {k : Bool} {S : Store} {P : D → Store → Prop} : cIsi [(.bl k), .tup [.ty "bool", .ty "str"]] S P = P (.bl true) S := rfl
theorem isi_int_bs {k : Int} {S : Store} {P : D → Store → Prop} : cIsi [(.int k), .tup [.ty "bool", .ty "str"]] S P = P (.bl false) S := rfl
theorem isi_str_bs {k : Str} {S : Store} {P : D → Store → Prop} : cIsi [(.str k), .tup [.ty "bool", .ty "str"]] S P = P (.bl true) S := rfl
theorem isi_lst_bs {k : List D} {S : Store} {P : D → Store → Prop} : cIsi [(.lst k), .tup [.ty "bool", .ty "str"]] S P = P (.bl false) S := rfl
theorem isi_tup_bs {k : List D} {S : Store} {P : D → Store → Prop} : cIsi [(.tup k), .tup [.ty "bool", .ty "str"]] S P = P (.bl false) S := rfl
theorem isi_obj_list {l : Addr} {ds : List D} {S : Store} {P : D → Store → Prop} (h : S l = some (.lst ds)) : cIsi [(.obj l), .ty "list"] S P = P (.bl true) S := by
  unfold cIsi
  simp only [tyName, h]
  exact propext ⟨fun h => h.2, fun h => ⟨by decide, h⟩⟩
theorem isi_obj_tuple {l : Addr} {ds : List D} {S : Store} {P : D → Store → Prop} (h : S l = some (.lst ds)) : cIsi [(.obj l), .ty "tuple"] S P = P (.bl false) S := by
  unfold cIsi
  simp only [tyName, h]
  exact propext ⟨fun h => h.2, fun h => ⟨by decide, h⟩⟩
theorem ln_obj {l : Addr} {ds : List D} {S : Store} {P : D → Store → Prop} (h : S l = some (.lst ds)) : cLen [(.obj l)] S P = P (.int ds.length) S := by
  unfold cLen
  simp only [seqOf, lstOf, h]
theorem g_put_sp {ts : List Tgt} {s : Rat × Rat} {ρ : DSt} : Tgt.put (.tp ts) (spD s) ρ = Tgt.putL ts [encR s.1, encR s.2] ρ := by unfold spD; exact put_tp
local macro_rules | `(tactic| walk_at "dg3") => `(tactic| try simp only [dDispGet, dictAt, isi_non_dict, isi_bl_dict, isi_int_dict, isi_str_dict, isi_lst_dict, isi_tup_dict, isi_non_bs, isi_bl_bs, isi_int_bs, isi_str_bs, isi_lst_bs, isi_tup_bs, g_ix_enc0, g_ix_enc1, g_ix_sp0, g_ix_sp1, g_put_sp, Int.reduceEq, dSeq, dSet, dPar, dOp, dUn, dVar, dC, dCB, dCons, dNil, dTup, dLst, dLstM, dIfS, dIf, dTest, dNot, dAnd, dOr, dAndV, dOrV, dNotV, dRet, dRetN, dEnd, dNext, dAdd, dSub, dMul, dFdiv, dMod, dPow, dNeg, dLt, dLe, dGt, dGe, dEq, dNe, eqB_ii, eqB_bb, eqB_ss, eqB_nn, eqB_ni, eqB_in, eqB_ns, eqB_sn, eqB_is, eqB_si, eqB_nb, eqB_bn, dIn, g_ix_tup, g_ix_lst, g_ix_ext, g_ln_tup, g_ln_lst, g_ln_ext, g_nn_non, g_nn_int, g_nn_tup, g_in_non, g_in_int, g_in_tup, g_ix_row0, g_ix_row1, g_ix_row2, g_ix_span0, g_ix_span1, g_nn_span, g_nn_encR, g_in_span, cAbs, cMax2, cMin2, cInt, cList, cTuple, dIsB, dNotB, dPar3, ForN, LcN, pinOf, pin2, dEnum2, dAppend, supd_same0, isi_non_int, isi_non_bool, isi_non_str, isi_non_list, isi_non_tuple, isi_non_lt, isi_bl_int, isi_bl_bool, isi_bl_str, isi_bl_list, isi_bl_tuple, isi_bl_lt, isi_int_int, isi_int_bool, isi_int_str, isi_int_list, isi_int_tuple, isi_int_lt, isi_str_int, isi_str_bool, isi_str_str, isi_str_list, isi_str_tuple, isi_str_lt, isi_lst_int, isi_lst_bool, isi_lst_str, isi_lst_list, isi_lst_tuple, isi_lst_lt, isi_tup_int, isi_tup_bool, isi_tup_str, isi_tup_list, isi_tup_tuple, isi_tup_lt, dAug, dIAdd, dIMul, dDrop, dSl, dPart, dNoPart, dRevL, dCallK, dChainR, dAsg, put_nm, put_tp, put_tl, g_put_row, g_put_span, putL_nil, putL_cons, Option.bind, seqOf, lstOf, dFor, dLc, dLcM, dItSeq, dZip, dZipS, dEnum, dRng1, dRng2, dYes, dwipe, Tgt.slots, Tgt.slotsL,
  atI_0, atI_1, atI_2, atI_3, List.getElem?_cons_zero, List.getElem?_cons_succ, List.set_cons_zero, List.set_cons_succ, decide_eq_true_eq, List.length_cons, List.length_nil, List.cons_append, List.nil_append, List.append_nil, ofString_inj, String.reduceEq, decide_true, decide_false, reduceIte, Bool.false_eq_true, Bool.not_true, Bool.not_false, eqFlat, isFlat, List.any_cons, List.any_nil, List.all_cons, List.all_nil, Bool.or_false, Bool.or_true, Bool.false_or, Bool.true_or, Bool.and_true, Bool.true_and, true_and, and_true, Nat.reduceAdd, Nat.reduceLeDiff, Int.reduceLT, Int.reduceLE, Int.reduceNeg])
theorem all_sameP {t : Tgt} {de : DE} {P : D → Store → Prop} {p : Store → Prop} {ds : List D} {f : D → D} {ρ : DSt} {S : Store} (hl : ds.length ≤ 100000) (hp : p S)
    (h : ∀ d, d ∈ ds → ∃ ρ', t.put (f d) (dwipe ρ t.slots) = some ρ' ∧ ∀ Q : D → Store → Prop, Q (.bl true) S → de ρ' S Q) (q : P (.bl true) S) : LcP t dYes de (fun x S1 => cAll [x] S1 P) (ds.map f) p ρ S := by
  refine lc_mapP f (fun _ => .bl true) hl hp h ?_
  unfold cAll
  simp only [lstOf, Option.bind]
  have e : (ds.map fun _ => D.bl true) = (ds.map fun _ => true).map D.bl := by rw [List.map_map]; rfl
  rw [e, dBools_map]
  have e2 : (ds.map fun _ => true).all id = true := by simp
  simp only [e2]
  exact q
/-! ### powers, worths, spans, tight -/
theorem lo_eq {b : Int} {r : Rw} (hr : r.Ok b) : r.lo b = (((whole b r.fs * (b - 1) - r.m : Int) : Rat) / ((b - 1 : Int) : Rat)) * r.pw b ∧ r.hi b = (((whole b r.fs * (b - 1) + r.m : Int) : Rat) / ((b - 1 : Int) : Rat)) * r.pw b := by
  have c := hr.cp
  unfold Rw.lo Rw.hi Rw.worth Rw.tail
  rw [Rat.intCast_sub (whole b r.fs * (b - 1)) r.m, Rat.intCast_add (whole b r.fs * (b - 1)) r.m, Rat.intCast_mul]
  generalize ((b - 1 : Int) : Rat) = q at c ⊢
  generalize ((whole b r.fs : Int) : Rat) = w
  generalize (r.m : Rat) = m
  generalize r.pw b = p
  have hc : q ≠ 0 := by grind
  constructor <;> grind
theorem Rw.Ok.tight {b : Int} {r : Rw} (hr : r.Ok b) : Sz 840 (r.lo b) ∧ Sz 840 (r.hi b) := by
  obtain ⟨e1, e2⟩ := lo_eq hr
  have h1 := hr.whole
  have b0 := hr.b0; have b1 := hr.b1; have m0 := hr.m0; have m1 := hr.m1
  have wb : (Lb.whole b r.fs * (b - 1)).natAbs < 2 ^ 335 := by
    rw [Int.natAbs_mul]
    have := pow_bound (n := 331) (m := 4) h1 (show (b - 1).natAbs < 2 ^ 4 by omega)
    exact this
  have c1 : (Lb.whole b r.fs * (b - 1) - r.m).natAbs < 2 ^ 336 := by
    have e : (2 : Nat) ^ 336 = 2 ^ 335 + 2 ^ 335 := by decide
    have e3 : 2000 < 2 ^ 335 := by decide
    generalize (2 : Nat) ^ 335 = z at *
    generalize (2 : Nat) ^ 336 = y at *
    omega
  have c2 : (Lb.whole b r.fs * (b - 1) + r.m).natAbs < 2 ^ 336 := by
    have e : (2 : Nat) ^ 336 = 2 ^ 335 + 2 ^ 335 := by decide
    have e3 : 2000 < 2 ^ 335 := by decide
    generalize (2 : Nat) ^ 335 = z at *
    generalize (2 : Nat) ^ 336 = y at *
    omega
  have d1 : (b - 1 : Int).natAbs < 2 ^ 336 := bound_mono (n := 4) (by omega)
  rw [e1, e2]
  exact ⟨(sz_mul (sz_frac hr.cne c1 d1) hr.pw).mono (by decide), (sz_mul (sz_frac hr.cne c2 d1) hr.pw).mono (by decide)⟩
theorem rsOk_of {b : Int} {rs : List Rw} (h : ∀ r, r ∈ rs → r.Ok b) : RsOk b 840 rs := fun r hr => ⟨h r hr, (h r hr).tight⟩
def sp_LworthQ : DSp := sp_worth_of
def sp_LspanQ : DSp := sp_span_of
def sp_Lover : DSp := sp_over
def rd_LworthQ : DS :=
  (dSeq (dSet 2 (dTup (dCons (dC (.int 0)) (dCons (dC (.int 1)) dNil))))
  (dSeq (dFor (dEnum (dCons (dOp dIx (dVar 1) (dC (.int 2))) dNil)) (.tp [(.nm 3), (.nm 4)]) (dSet 2 (dCB sp_Lplus (dCons (dVar 2) (dCons (dCB sp_Ltimes (dCons (dTup (dCons (dVar 4) (dCons (dC (.int 1)) dNil))) (dCons (dCB sp_Lpower (dCons (dVar 0) (dCons (dOp dSub (dOp dSub (dOp dIx (dVar 1) (dC (.int 0))) (dC (.int 1))) (dVar 3)) dNil))) dNil))) dNil)))))
  (dRet (dVar 2))))
def goal_LworthQ : Prop := ∀ (x0 x1 : D) (S : Store) (P : D → Store → Prop), sp_LworthQ [x0, x1] S P → rd_LworthQ (dEnd P) [some x0, some x1, none, none, none] S
def rd_LspanQ : DS :=
  (dSeq (dSet 2 (dCB sp_Ltimes (dCons (dCB sp_Lfrac (dCons (dOp dIx (dVar 1) (dC (.int 1))) (dCons (dOp dSub (dVar 0) (dC (.int 1))) dNil))) (dCons (dCB sp_Lpower (dCons (dVar 0) (dCons (dOp dSub (dOp dIx (dVar 1) (dC (.int 0))) (dCB cLen (dCons (dOp dIx (dVar 1) (dC (.int 2))) dNil))) dNil))) dNil))))
  (dSeq (dSet 3 (dCB sp_LworthQ (dCons (dVar 0) (dCons (dVar 1) dNil))))
  (dRet (dTup (dCons (dCB sp_Lless (dCons (dVar 3) (dCons (dVar 2) dNil))) (dCons (dCB sp_Lplus (dCons (dVar 3) (dCons (dVar 2) dNil))) dNil))))))
def goal_LspanQ : Prop := ∀ (x0 x1 : D) (S : Store) (P : D → Store → Prop), sp_LspanQ [x0, x1] S P → rd_LspanQ (dEnd P) [some x0, some x1, none, none] S
def rd_Lover : DS :=
  (dRet (dCB sp_Lfrac (dCons (dOp dMul (dOp dIx (dVar 0) (dC (.int 0))) (dOp dIx (dVar 1) (dC (.int 1)))) (dCons (dOp dMul (dOp dIx (dVar 0) (dC (.int 1))) (dOp dIx (dVar 1) (dC (.int 0)))) dNil))))
def goal_Lover : Prop := ∀ (x0 x1 : D) (S : Store) (P : D → Store → Prop), sp_Lover [x0, x1] S P → rd_Lover (dEnd P) [some x0, some x1] S
theorem len_LworthQ : ∀ ds S P, sp_LworthQ ds S P → ds.length = 2 := len_worth_of
theorem len_LspanQ : ∀ ds S P, sp_LspanQ ds S P → ds.length = 2 := len_span_of
theorem len_Lover : ∀ ds S P, sp_Lover ds S P → ds.length = 2 := len_over
theorem vc_Lover : goal_Lover := vc_over
theorem worth_take {b : Int} {r : Rw} (hb : b ≠ 0) {i : Nat} {f : Int} (h : r.fs[i]? = some f) : (Rw.mk r.e r.m (r.fs.take (i + 1))).worth b = (Rw.mk r.e r.m (r.fs.take i)).worth b + (f : Rat) * (b : Rat) ^ (r.e - 1 - (i : Int)) := by
  have e : Rw.mk r.e r.m (r.fs.take (i + 1)) = (Rw.mk r.e r.m (r.fs.take i)).snoc f := by
    unfold Rw.snoc
    rw [List.take_add_one, h]; rfl
  rw [e, Rw.snoc_worth hb]
  congr 2
  unfold Rw.nx
  have := (List.getElem?_eq_some_iff.mp h).1
  simp only [List.length_take]
  congr 1
  omega
theorem vc_LworthQ : goal_LworthQ := by
  rintro x0 x1 S P ⟨b, r, e, hr, h⟩
  cases e
  unfold rd_LworthQ
  have b0 := hr.b0; have b1 := hr.b1; have e0 := hr.e0; have e1 := hr.e1; have hl := hr.l
  have z0 : D.tup [.int 0, .int 1] = encR ((Rw.mk r.e r.m (r.fs.take 0)).worth b) := by
    have : (Rw.mk r.e r.m (r.fs.take 0)).worth b = 0 := by
      unfold Rw.worth
      show ((0 : Int) : Rat) * _ = 0
      have : ((0 : Int) : Rat) = 0 := rfl
      rw [this]; grind
    rw [this]; rfl
  walk_at "dg3"
  rw [z0]
  refine ⟨fun i ρ S' => S' = S ∧ ∃ z3 z4, ρ = [some (.int b), some r.d, some (encR ((Rw.mk r.e r.m (r.fs.take i)).worth b)), z3, z4], ⟨rfl, none, none, rfl⟩, ?_, ?_⟩
  · rintro i d ρ S' hd ⟨rfl, z3, z4, rfl⟩
    obtain ⟨x, hx, rfl⟩ := enumD_get hd
    rw [List.getElem?_map] at hx
    obtain ⟨f, hf, rfl⟩ := Option.map_eq_some_iff.mp hx
    have hi := (List.getElem?_eq_some_iff.mp hf).1
    refine ⟨_, rfl, ?_⟩
    walk_at "dg3"
    refine ⟨b, r.e - 1 - (0 + (i : Int)), rfl, by omega, b1, by omega, ?_⟩
    have ef : D.tup [.int f, .int 1] = encR (f : Rat) := rfl
    rw [ef]
    have fb := hr.f f (List.mem_of_getElem? hf)
    have sf : Sz 11 (f : Rat) := sz_int (by omega)
    have sp : Sz 700 ((b : Rat) ^ (r.e - 1 - (0 + (i : Int)))) := (sz_zpow (by omega) b1).mono (by omega)
    have ok : (Rw.mk r.e r.m (r.fs.take i)).Ok b := ⟨b0, b1, e0, e1, hr.m0, hr.m1, by show (r.fs.take i).length ≤ 80; rw [List.length_take]; omega, fun g hg => hr.f g (List.mem_of_mem_take hg)⟩
    refine ⟨_, _, rfl, sf.mono (by decide), sp.mono (by decide), ?_⟩
    refine ⟨_, _, rfl, ok.worth.mono (by decide), (sz_mul sf sp).mono (by decide), ?_⟩
    have ei : r.e - 1 - (0 + (i : Int)) = r.e - 1 - (i : Int) := by omega
    rw [ei, ← worth_take (by omega) hf]
    exact ⟨rfl, _, _, rfl⟩
  · rintro ρ S' ⟨rfl, z3, z4, rfl⟩
    rw [enumD_len, List.length_map, List.take_length]
    walk_at "dg3"
    exact h
theorem vc_LspanQ : goal_LspanQ := by
  rintro x0 x1 S P ⟨b, r, e, hr, h⟩
  cases e
  unfold rd_LspanQ
  have b0 := hr.b0; have b1 := hr.b1; have e0 := hr.e0; have e1 := hr.e1; have hl := hr.l; have m0 := hr.m0; have m1 := hr.m1
  walk_at "dg3"
  rw [List.length_map]
  refine ⟨r.m, b - 1, rfl, by omega, bound_mono (n := 12) (by omega), bound_mono (n := 12) (by omega), b, _, rfl, by omega, by omega, by omega, _, _, rfl, hr.fr.mono (by decide), hr.pw.mono (by decide), ?_⟩
  walk_at "dg3"
  refine ⟨b, r, rfl, hr, ?_⟩
  walk_at "dg3"
  exact ⟨_, _, rfl, hr.worth.mono (by decide), hr.tail.mono (by decide), _, _, rfl, hr.worth.mono (by decide), hr.tail.mono (by decide), h⟩
/-! ### draws, what stood stands -/
/-- drawn, what stood stands, something new beside -/
def Dk (S S' : Store) (p : Addr) (n : Nat) : Prop := BoxAt S' p n ∧ ∀ q m, q ≠ p → S q = some m → S' q = some m
theorem Drew.dk {S S' : Store} {p : Addr} {n : Nat} (h : Drew S S' p n) : Dk S S' p n := ⟨h.box, fun q m hq e => by rw [h.other hq]; exact e⟩
theorem Dk.trans {S S1 S2 : Store} {p : Addr} {n m : Nat} (h : Dk S S1 p n) (h2 : Dk S1 S2 p m) : Dk S S2 p m := ⟨h2.1, fun q x hq e => h2.2 q x hq (h.2 q x hq e)⟩
theorem Dk.mono {S S' : Store} {p : Addr} {n m : Nat} (h : Dk S S' p n) (hm : n ≤ m) : Dk S S' p m := ⟨h.1.mono hm, h.2⟩
theorem Dk.refl {S : Store} {p : Addr} {n : Nat} (h : BoxAt S p n) : Dk S S p n := ⟨h, fun _ _ _ e => e⟩
theorem Dk.new {S S1 : Store} {p q : Addr} {n : Nat} {m : MO} (h : Dk S S1 p n) (hq : S1 q = none) : Dk S (supd S1 q m) p n :=
  ⟨h.1.other (h.1.ne hq), fun r x hr e => by
    have := h.2 r x hr e
    rw [supd_ne fun z => by rw [z, hq] at this; cases this]
    exact this⟩
theorem Dk.put {S S1 : Store} {p q : Addr} {n : Nat} {m : MO} (h : Dk S S1 p n) (hp : p ≠ q) (hq : S q = none) : Dk S (supd S1 q m) p n :=
  ⟨h.1.other hp, fun r x hr e => by
    rw [supd_ne fun z => by rw [z, hq] at e; cases e]
    exact h.2 r x hr e⟩
theorem takeK {p : Addr} {n : Nat} {size : Int} {S0 S : Store} {P : D → Store → Prop} (hb : Dk S0 S p n) (h0 : 0 < size) (h1 : size ≤ 2 ^ 40) (hn : n ≤ 1000000000) (h : ∀ x S', 0 ≤ x → x < size → Dk S0 S' p (n + 1) → P (.int x) S') : sp_Ltake [.obj p, .int size] S P :=
  ⟨p, size, n, rfl, h0, h1, hb.1, hn, fun x S' a b d => h x S' a b (hb.trans d.dk)⟩
theorem ofK {p : Addr} {n : Nat} {ns : List Int} {S0 S : Store} {P : D → Store → Prop} (R : Int → Prop) (hb : Dk S0 S p n) (h0 : 0 < ns.length) (h1 : ns.length ≤ 100000) (hn : n ≤ 1000000000) (hr : ∀ z, z ∈ ns → R z) (h : ∀ z S', R z → Dk S0 S' p (n + 1) → P (.int z) S') : sp_Lof [.obj p, .lst (ns.map .int)] S P :=
  ⟨p, _, _, n, rfl, .inl rfl, by simpa using h0, by simpa using h1, hb.1, hn, fun x S' hx d => by
    obtain ⟨z, hz, rfl⟩ := List.mem_map.mp hx
    exact h z S' (hr z hz) (hb.trans d.dk)⟩
/-! ### bases, mosts, figures, rows -/
structure Small (b k : Int) (r : Rw) : Prop where
  e0 : -2 ≤ r.e
  e1 : r.e ≤ 3
  m0 : b ≤ 2 * r.m
  m1 : r.m ≤ 15
  l : (r.fs.length : Int) ≤ k
  f : ∀ f, f ∈ r.fs → -r.m ≤ f ∧ f ≤ r.m
theorem Small.ok {b k : Int} {r : Rw} (h : Small b k r) (b0 : 2 ≤ b) (b1 : b ≤ 16) (hk : k ≤ 60) : r.Ok b :=
  ⟨b0, b1, by have := h.e0; omega, by have := h.e1; omega, by have := h.m0; omega, by have := h.m1; omega, by have := h.l; omega, fun f hf => by have := h.f f hf; have := h.m1; omega⟩
def sp_Lbase : DSp := fun ds S P => ∃ (p : Addr) (n : Nat), ds = [.obj p] ∧ BoxAt S p n ∧ n ≤ 100000000 ∧ ∀ b S', 2 ≤ b → b ≤ 10 → Dk S S' p (n + 1) → P (.int b) S'
def sp_LmostQ : DSp := fun ds S P => ∃ (p : Addr) (n : Nat) (b : Int), ds = [.obj p, .int b] ∧ BoxAt S p n ∧ n ≤ 100000000 ∧ 2 ≤ b ∧ b ≤ 10 ∧ ∀ m S', b ≤ 2 * m → m ≤ 15 → Dk S S' p (n + 2) → P (.int m) S'
def sp_LfiguresQ : DSp := fun ds S P => ∃ (p : Addr) (n : Nat) (m k : Int), ds = [.obj p, .int m, .int k] ∧ BoxAt S p n ∧ n ≤ 100000000 ∧ 1 ≤ m ∧ m ≤ 60 ∧ 0 ≤ k ∧ k ≤ 100 ∧ ∀ (fs : List Int) S', fs.length = k.toNat → (∀ f, f ∈ fs → -m ≤ f ∧ f ≤ m) → Dk S S' p (n + 201) → P (.tup (fs.map .int)) S'
def sp_Lrow : DSp := fun ds S P => ∃ (p : Addr) (n : Nat) (b k : Int), ds = [.obj p, .int b, .int k] ∧ BoxAt S p n ∧ n ≤ 10000000 ∧ 2 ≤ b ∧ b ≤ 10 ∧ 0 ≤ k ∧ k ≤ 60 ∧ ∀ (r : Rw) S', Small b k r → Dk S S' p (n + 210) → P r.d S'
def rd_Lbase : DS :=
  (dRet (dCB sp_Lof (dCons (dVar 0) (dCons (dLst (dCons (dC (.int 2)) (dCons (dC (.int 2)) (dCons (dC (.int 3)) (dCons (dC (.int 4)) (dCons (dC (.int 5)) (dCons (dC (.int 10)) dNil))))))) dNil))))
def goal_Lbase : Prop := ∀ (x0 : D) (S : Store) (P : D → Store → Prop), sp_Lbase [x0] S P → rd_Lbase (dEnd P) [some x0] S
def rd_LmostQ : DS :=
  (dRet (dCB sp_Lof (dCons (dVar 0) (dCons (dLst (dCons (dOp dFdiv (dOp dAdd (dVar 1) (dC (.int 1))) (dC (.int 2))) (dCons (dOp dSub (dVar 1) (dC (.int 1))) (dCons (dVar 1) (dCons (dOp dAdd (dOp dFdiv (dOp dAdd (dVar 1) (dC (.int 1))) (dC (.int 2))) (dCB sp_Ltake (dCons (dVar 0) (dCons (dVar 1) dNil)))) dNil))))) dNil))))
def goal_LmostQ : Prop := ∀ (x0 x1 : D) (S : Store) (P : D → Store → Prop), sp_LmostQ [x0, x1] S P → rd_LmostQ (dEnd P) [some x0, some x1] S
def rd_LfiguresQ_1 : DS :=
  (dSeq (dSet 6 (dOp dSub (dCB sp_Ltake (dCons (dVar 0) (dCons (dOp dAdd (dOp dMul (dC (.int 2)) (dVar 1)) (dC (.int 1))) dNil))) (dVar 1)))
  (dDrop (dAppend (dVar 4) (dOp dIx (dLst (dCons (dVar 6) (dCons (dVar 6) (dCons (dOp dIx (dLst (dCons (dVar 1) (dCons (dOp dSub (dC (.int 0)) (dVar 1)) dNil))) (dOp dMod (dVar 6) (dC (.int 2)))) (dCons (dC (.int 0)) dNil))))) (dIf (dTest (dOp dGt (dCB sp_Ltake (dCons (dVar 0) (dCons (dC (.int 5)) dNil))) (dC (.int 0)))) (dVar 3) (dC (.int 0)))))))
def rd_LfiguresQ : DS :=
  (dSeq (dSet 3 (dCB sp_Ltake (dCons (dVar 0) (dCons (dC (.int 4)) dNil))))
  (dSeq (dSet 4 (dLstM dNil))
  (dSeq (dFor (dRng1 (dCons (dVar 2) dNil)) (.nm 5) rd_LfiguresQ_1)
  (dRet (dCB cTuple (dCons (dVar 4) dNil))))))
def goal_LfiguresQ : Prop := ∀ (x0 x1 x2 : D) (S : Store) (P : D → Store → Prop), sp_LfiguresQ [x0, x1, x2] S P → rd_LfiguresQ (dEnd P) [some x0, some x1, some x2, none, none, none, none] S
def rd_Lrow : DS :=
  (dSeq (dSet 3 (dCB sp_LmostQ (dCons (dVar 0) (dCons (dVar 1) dNil))))
  (dRet (dTup (dCons (dOp dSub (dCB sp_Ltake (dCons (dVar 0) (dCons (dC (.int 6)) dNil))) (dC (.int 2))) (dCons (dVar 3) (dCons (dCB sp_LfiguresQ (dCons (dVar 0) (dCons (dVar 3) (dCons (dCB sp_Ltake (dCons (dVar 0) (dCons (dOp dAdd (dVar 2) (dC (.int 1))) dNil))) dNil)))) dNil))))))
def goal_Lrow : Prop := ∀ (x0 x1 x2 : D) (S : Store) (P : D → Store → Prop), sp_Lrow [x0, x1, x2] S P → rd_Lrow (dEnd P) [some x0, some x1, some x2, none] S
theorem len_Lbase : ∀ ds S P, sp_Lbase ds S P → ds.length = 1 := by
  rintro ds S P ⟨a, b, rfl, _⟩; rfl
theorem len_LmostQ : ∀ ds S P, sp_LmostQ ds S P → ds.length = 2 := by
  rintro ds S P ⟨a, b, c, rfl, _⟩; rfl
theorem len_LfiguresQ : ∀ ds S P, sp_LfiguresQ ds S P → ds.length = 3 := by
  rintro ds S P ⟨a, b, c, d, rfl, _⟩; rfl
theorem len_Lrow : ∀ ds S P, sp_Lrow ds S P → ds.length = 3 := by
  rintro ds S P ⟨a, b, c, d, rfl, _⟩; rfl
theorem vc_Lbase : goal_Lbase := by
  rintro x0 S P ⟨p, n, e, hb, hn, h⟩
  cases e
  unfold rd_Lbase
  walk_at "dg3"
  exact ofK (ns := [2, 2, 3, 4, 5, 10]) (fun z => 2 ≤ z ∧ z ≤ 10) (.refl hb) (by simp) (by simp) (by omega) (by intro z hz; simp only [List.mem_cons, List.not_mem_nil, or_false] at hz; omega) fun z S' hz hk => h z S' hz.1 hz.2 hk
theorem vc_LmostQ : goal_LmostQ := by
  rintro x0 x1 S P ⟨p, n, b, e, hb, hn, b0, b1, h⟩
  cases e
  unfold rd_LmostQ
  walk_at "dg3"
  refine ⟨divS (by decide) (by decide), divS (by decide) (by decide), ?_⟩
  rw [half_fdiv]
  generalize hh : (b + 1) / 2 = half
  refine takeK (.refl hb) (by omega) (by omega) (by omega) fun x S1 x0 x1 hb1 => ?_
  walk_at "dg3"
  exact ofK (ns := [half, b - 1, b, half + x]) (fun z => b ≤ 2 * z ∧ z ≤ 15) hb1 (by simp) (by simp) (by omega) (by intro z hz; simp only [List.mem_cons, List.not_mem_nil, or_false] at hz; omega) fun z S' hz hk => h z S' hz.1 hz.2 hk
theorem vc_LfiguresQ : goal_LfiguresQ := by
  rintro x0 x1 x2 S P ⟨p, n, m, k, e, hb, hn, m0, m1, k0, k1, h⟩
  cases e
  unfold rd_LfiguresQ
  walk_at "dg3"
  refine takeK (.refl hb) (by decide) (by decide) (by omega) fun w S1 w0 w1 hb1 => ?_
  walk_at "dg3"
  intro L hL
  have hpL := hb1.1.ne hL
  have hL0 : S L = none := by
    cases e : S L with
    | none => rfl
    | some x =>
      have := hb1.2 L x (fun z => hpL z.symm) e
      rw [hL] at this; cases this
  refine ⟨by omega, by omega, fun i ρ S' => Dk S S' p (n + 1 + 2 * i) ∧ ∃ (fs : List Int) (z5 z6 : Option D), S' L = some (.lst (fs.map .int)) ∧ fs.length = i ∧ (∀ f, f ∈ fs → -m ≤ f ∧ f ≤ m) ∧ ρ = [some (.obj p), some (.int m), some (.int k), some (.int w), some (.obj L), z5, z6], ⟨hb1.new hL, [], none, none, supd_same, rfl, by simp, rfl⟩, ?_, ?_⟩
  · rintro i d ρ S2 hd ⟨hb2, fs, z5, z6, hS, hfl, hff, rfl⟩
    obtain ⟨hi, rfl⟩ := rng_get hd
    refine ⟨_, rfl, ?_⟩
    unfold rd_LfiguresQ_1
    walk_at "dg3"
    refine ⟨mulS, ?_⟩
    refine takeK (.refl hb2.1) (by omega) (by omega) (by omega) fun x S3 x0 x1 hb3 => ?_
    walk_at "dg3"
    have hS3 := hb3.2 L _ (fun z => hpL z.symm) hS
    refine ⟨_, hS3, ?_⟩
    obtain ⟨y, hy, hy0, hy1⟩ : ∃ y, y = x - m ∧ -m ≤ y ∧ y ≤ m := ⟨_, rfl, by omega, by omega⟩
    rw [← hy]
    have fin : ∀ (v : Int) (S4 : Store), -m ≤ v → v ≤ m → Dk S3 S4 p (n + 1 + 2 * i + 1 + 1) → ∃ ds, S4 L = some (.lst ds) ∧ ds.length < 100000 ∧ Dk S (supd S4 L (.lst (ds ++ [.int v]))) p (n + 1 + 2 * (i + 1)) ∧ ∃ (gs : List Int) (z5 z6 : Option D), some (MO.lst (ds ++ [.int v])) = some (.lst (gs.map .int)) ∧ gs.length = i + 1 ∧ (∀ f, f ∈ gs → -m ≤ f ∧ f ≤ m) ∧ [some (D.obj p), some (.int m), some (.int k), some (.int w), some (.obj L), some (.int (0 + (i : Int))), some (.int y)] = [some (.obj p), some (.int m), some (.int k), some (.int w), some (.obj L), z5, z6] := fun v S4 h1 h2 hk => by
      refine ⟨_, hk.2 L _ (fun z => hpL z.symm) hS3, by rw [List.length_map]; omega, ((hb2.trans (hb3.trans hk)).mono (by omega)).put hpL hL0, fs ++ [v], _, _, by simp, by simp [hfl], fun f hf => ?_, rfl⟩
      rcases List.mem_append.mp hf with hf | hf
      · exact hff f hf
      · simp only [List.mem_singleton] at hf
        omega
    have hm2 : y % 2 = 0 ∨ y % 2 = 1 := by omega
    obtain ⟨d, hd2, v, rfl, hv0, hv1⟩ : ∃ d, atI [D.int m, D.int (0 - m)] (y % 2) = some d ∧ ∃ v, d = .int v ∧ -m ≤ v ∧ v ≤ m := by
      rcases hm2 with e | e
      · rw [e]; exact ⟨_, rfl, _, rfl, by omega, by omega⟩
      · rw [e]; exact ⟨_, rfl, _, rfl, by omega, by omega⟩
    simp only [hd2]
    refine takeK (.refl hb3.1) (by decide) (by decide) (by omega) fun u S4 u0 u1 hb4 => ?_
    walk_at "dg3"
    by_cases hu : 0 < u
    · simp only [hu, reduceIte]
      have hw : w = 0 ∨ w = 1 ∨ w = 2 ∨ w = 3 := by omega
      rcases hw with rfl | rfl | rfl | rfl
      · exact fin y S4 hy0 hy1 hb4
      · exact fin y S4 hy0 hy1 hb4
      · exact fin v S4 hv0 hv1 hb4
      · exact fin 0 S4 (by omega) (by omega) hb4
    · simp only [hu, reduceIte]
      exact fin y S4 hy0 hy1 hb4
  · rintro ρ S2 ⟨hb2, fs, z5, z6, hS, hfl, hff, rfl⟩
    rw [rng_len] at hb2 hfl
    unfold cTuple
    walk_at "dg3"
    simp only [hS]
    exact h fs S2 hfl hff (hb2.mono (by omega))
theorem vc_Lrow : goal_Lrow := by
  rintro x0 x1 x2 S P ⟨p, n, b, k, e, hb, hn, b0, b1, k0, k1, h⟩
  cases e
  unfold rd_Lrow
  walk_at "dg3"
  refine ⟨p, n, b, rfl, hb, by omega, b0, b1, fun m S1 m0 m1 hb1 => ?_⟩
  walk_at "dg3"
  refine takeK hb1 (by decide) (by decide) (by omega) fun x S2 x0 x1 hb2 => ?_
  walk_at "dg3"
  refine takeK hb2 (by omega) (by omega) (by omega) fun l S3 l0 l1 hb3 => ?_
  walk_at "dg3"
  refine ⟨p, _, m, l, rfl, hb3.1, by omega, by omega, by omega, l0, by omega, fun fs S4 hfl hff hb4 => ?_⟩
  walk_at "dg3"
  exact h ⟨x - 2, m, fs⟩ S4 ⟨by show -2 ≤ x - 2; omega, by show x - 2 ≤ 3; omega, m0, m1, by show (fs.length : Int) ≤ k; omega, hff⟩ ((hb3.trans hb4).mono (by omega))
/-! ### kinds by draws -/
def Kn.Dr : Kn → Prop
  | .sum ws v => 1 ≤ ws.length ∧ ws.length ≤ 3 ∧ (∀ w, w ∈ ws → w ≠ 0 ∧ w.natAbs ≤ 9) ∧ 1 ≤ v ∧ v ≤ 1000
  | .loose ws => 1 ≤ ws.length ∧ ws.length ≤ 3 ∧ ∀ w, w ∈ ws → w ≠ 0 ∧ w.natAbs ≤ 1
  | .moved e => e.natAbs ≤ 4
  | .told q => Sz 10 q
  | .over k => 0 ≤ k ∧ k ≤ 3
  | _ => True
theorem Kn.Dr.ok {kn : Kn} (h : kn.Dr) : kn.Ok := by
  cases kn with
  | sum ws v => exact ⟨by have := h.2.1; omega, fun w hw => by have := (h.2.2.1 w hw).2; omega, h.2.2.2.1, h.2.2.2.2⟩
  | loose ws => exact ⟨by have := h.2.1; omega, fun w hw => by have := (h.2.2 w hw).2; omega⟩
  | moved e => exact Nat.le_trans h (by decide)
  | told q => exact Sz.mono (show Sz 10 q from h) (by decide)
  | over k =>
    have h1 : 0 ≤ k ∧ k ≤ 3 := h
    show k.natAbs ≤ 20
    omega
  | _ => trivial
theorem Kn.Dr.many {kn : Kn} (h : kn.Dr) : kn.many ≤ 3 := by
  cases kn with
  | sum ws v => exact h.2.1
  | loose ws => exact h.2.1
  | _ => simp [Kn.many]
def Wd (w : Str) : Prop := w = "sum" ∨ w = "loose" ∨ w = "moved" ∨ w = "told" ∨ w = "times" ∨ w = "over" ∨ w = "least" ∨ w = "most" ∨ w = "choose"
def sp_Lmany : DSp := fun ds S P => ∃ kn : Kn, ds = [kn.d] ∧ P (.int kn.many) S
def sp_Lkind : DSp := fun ds S P => ∃ (p : Addr) (n : Nat) (ws : List Str), ds = [.obj p, .lst (ws.map .str)] ∧ BoxAt S p n ∧ n ≤ 100000000 ∧ 0 < ws.length ∧ ws.length ≤ 100 ∧ (∀ w, w ∈ ws → Wd w) ∧ ∀ (kn : Kn) S', kn.Dr → kn.word ∈ ws → Dk S S' p (n + 20) → P kn.d S'
def rd_Lmany : DS :=
  (dSeq (dIfS (dTest (dOp (dIn false) (dOp dIx (dVar 0) (dC (.int 0))) (dTup (dCons (dC (.str "sum")) (dCons (dC (.str "loose")) dNil))))) (dRet (dCB cLen (dCons (dOp dIx (dVar 0) (dC (.int 1))) dNil))) dNext)
  (dRet (dDispGet [("told", 0), ("moved", 1), ("choose", 3)] (dOp dIx (dVar 0) (dC (.int 0))) (dC (.int 2)))))
def goal_Lmany : Prop := ∀ (x0 : D) (S : Store) (P : D → Store → Prop), sp_Lmany [x0] S P → rd_Lmany (dEnd P) [some x0] S
def rd_Lkind : DS :=
  (dSeq (dSet 2 (dCB sp_Lof (dCons (dVar 0) (dCons (dVar 1) dNil))))
  (dSeq (dIfS (dTest (dOp (dIn false) (dVar 2) (dTup (dCons (dC (.str "sum")) (dCons (dC (.str "loose")) dNil))))) (dSeq (dSet 3 (dLc (dRng1 (dCons (dOp dAdd (dC (.int 1)) (dCB sp_Ltake (dCons (dVar 0) (dCons (dC (.int 3)) dNil)))) dNil)) (.nm 4) dYes (dIf (dTest (dOp dEq (dVar 2) (dC (.str "sum")))) (dOp dIx (dLst (dCons (dC (.int 1)) (dCons (dC (.int 2)) (dCons (dC (.int 3)) (dCons (dC (.int 9)) dNil))))) (dCB sp_Ltake (dCons (dVar 0) (dCons (dC (.int 4)) dNil)))) (dC (.int 1)))))
  (dSeq (dSet 5 (dCB cTuple (dCons (dLc (dItSeq (dVar 3)) (.nm 6) dYes (dOp dMul (dVar 6) (dOp dIx (dLst (dCons (dC (.int 1)) (dCons (dUn dNeg (dC (.int 1))) dNil))) (dCB sp_Ltake (dCons (dVar 0) (dCons (dC (.int 2)) dNil)))))) dNil)))
  (dRet (dIf (dTest (dOp dEq (dVar 2) (dC (.str "sum")))) (dTup (dCons (dVar 2) (dCons (dVar 5) (dCons (dCB sp_Lof (dCons (dVar 0) (dCons (dLst (dCons (dC (.int 1)) (dCons (dC (.int 1)) (dCons (dC (.int 2)) (dCons (dC (.int 3)) (dCons (dC (.int 10)) (dCons (dC (.int 1000)) dNil))))))) dNil))) dNil)))) (dTup (dCons (dVar 2) (dCons (dVar 5) dNil))))))) dNext)
  (dSeq (dIfS (dTest (dOp dEq (dVar 2) (dC (.str "moved")))) (dRet (dTup (dCons (dVar 2) (dCons (dOp dSub (dCB sp_Ltake (dCons (dVar 0) (dCons (dC (.int 9)) dNil))) (dC (.int 4))) dNil)))) dNext)
  (dSeq (dIfS (dTest (dOp dEq (dVar 2) (dC (.str "told")))) (dRet (dTup (dCons (dVar 2) (dCons (dCB sp_Lfrac (dCons (dOp dSub (dCB sp_Ltake (dCons (dVar 0) (dCons (dC (.int 41)) dNil))) (dC (.int 20))) (dCons (dOp dAdd (dC (.int 1)) (dCB sp_Ltake (dCons (dVar 0) (dCons (dC (.int 9)) dNil)))) dNil))) dNil)))) dNext)
  (dRet (dIf (dTest (dOp dEq (dVar 2) (dC (.str "over")))) (dTup (dCons (dVar 2) (dCons (dCB sp_Ltake (dCons (dVar 0) (dCons (dC (.int 4)) dNil))) dNil))) (dTup (dCons (dVar 2) dNil))))))))
def goal_Lkind : Prop := ∀ (x0 x1 : D) (S : Store) (P : D → Store → Prop), sp_Lkind [x0, x1] S P → rd_Lkind (dEnd P) [some x0, some x1, none, none, none, none, none] S
theorem len_Lmany : ∀ ds S P, sp_Lmany ds S P → ds.length = 1 := by
  rintro ds S P ⟨a, rfl, _⟩; rfl
theorem len_Lkind : ∀ ds S P, sp_Lkind ds S P → ds.length = 2 := by
  rintro ds S P ⟨a, b, c, rfl, _⟩; rfl
theorem vc_Lmany : goal_Lmany := by
  rintro x0 S P ⟨kn, e, h⟩
  cases e
  unfold rd_Lmany
  cases kn <;> simp only [Kn.d, Kn.many] at h ⊢ <;> walk_at "dg3"
  all_goals first
    | exact h
    | (rw [List.length_map]; exact h)
theorem vc_Lkind : goal_Lkind := by
  rintro x0 x1 S P ⟨p, n, ws, e, hb, hn, h0, h1, hw, h⟩
  cases e
  unfold rd_Lkind
  walk_at "dg3"
  refine ⟨p, _, ws.map .str, n, rfl, .inl rfl, by simpa using h0, by rw [List.length_map]; omega, hb, by omega, fun x S1 hx hd => ?_⟩
  obtain ⟨w, hwm, rfl⟩ := List.mem_map.mp hx
  have hb1 := hd.dk
  rcases hw w hwm with rfl | rfl | rfl | rfl | rfl | rfl | rfl | rfl | rfl
  · walk_at "dg3"
    refine takeK hb1 (by decide) (by decide) (by omega) fun x S2 x0 x1 hb2 => ?_
    walk_at "dg3"
    refine ⟨by omega, by omega, ?_⟩
    refine lc_st (fun _ y => ∃ z : Int, y = .int z ∧ 1 ≤ z ∧ z ≤ 9) (fun i S' => Dk S S' p (n + 2 + i)) (by rw [rng_len]; omega) hb2 (fun i d S3 hd2 hb3 => ?_) fun ys S3 hyl hy hb3 => ?_
    · have hi := (rng_get hd2).1
      refine ⟨_, rfl, fun Q hq => ?_⟩
      walk_at "dg3"
      refine takeK hb3 (by decide) (by decide) (by omega) fun u S4 u0 u1 hb4 => ?_
      have hu : u = 0 ∨ u = 1 ∨ u = 2 ∨ u = 3 := by omega
      rcases hu with rfl | rfl | rfl | rfl <;> exact hq _ _ ⟨_, rfl, by decide, by decide⟩ hb4
    obtain ⟨zs, rfl, hzs⟩ := ex_map (f := D.int) (R := fun z => 1 ≤ z ∧ z ≤ 9) (ys := ys) fun y hm => by
      obtain ⟨i, hi⟩ := List.mem_iff_getElem?.mp hm
      exact hy i y hi
    rw [rng_len] at hyl hb3
    rw [List.length_map] at hyl
    walk_at "dg3"
    refine lc_st (fun _ y => ∃ w : Int, y = .int w ∧ w ≠ 0 ∧ w.natAbs ≤ 9) (fun i S' => Dk S S' p (n + 5 + i)) (by rw [List.length_map]; omega) (hb3.mono (by omega)) (fun i d S4 hd2 hb4 => ?_) fun ys S4 hyl2 hy2 hb4 => ?_
    · rw [List.getElem?_map] at hd2
      obtain ⟨z, hz, rfl⟩ := Option.map_eq_some_iff.mp hd2
      have hz2 := hzs z (List.mem_of_getElem? hz)
      have hi := (List.getElem?_eq_some_iff.mp hz).1
      refine ⟨_, rfl, fun Q hq => ?_⟩
      walk_at "dg3"
      refine takeK hb4 (by decide) (by decide) (by omega) fun u S5 u0 u1 hb5 => ?_
      have hu : u = 0 ∨ u = 1 := by omega
      rcases hu with rfl | rfl
      · walk_at "dg3"
        exact ⟨mulS, hq _ _ ⟨_, rfl, by omega, by omega⟩ hb5⟩
      · walk_at "dg3"
        exact ⟨mulS, hq _ _ ⟨_, rfl, by omega, by omega⟩ hb5⟩
    obtain ⟨ws', rfl, hws⟩ := ex_map (f := D.int) (R := fun w => w ≠ 0 ∧ w.natAbs ≤ 9) (ys := ys) fun y hm => by
      obtain ⟨i, hi⟩ := List.mem_iff_getElem?.mp hm
      exact hy2 i y hi
    rw [List.length_map, List.length_map] at hyl2
    rw [List.length_map] at hb4
    walk_at "dg3"
    refine ofK (ns := [1, 1, 2, 3, 10, 1000]) (fun z => 1 ≤ z ∧ z ≤ 1000) hb4 (by simp) (by simp) (by omega) (by intro z hz; simp only [List.mem_cons, List.not_mem_nil, or_false] at hz; omega) fun v S5 hv hb5 => ?_
    exact h (.sum ws' v) S5 ⟨by omega, by omega, hws, hv.1, hv.2⟩ hwm (hb5.mono (by omega))
  · walk_at "dg3"
    refine takeK hb1 (by decide) (by decide) (by omega) fun x S2 x0 x1 hb2 => ?_
    walk_at "dg3"
    refine ⟨by omega, by omega, ?_⟩
    refine lc_st (fun _ y => ∃ z : Int, y = .int z ∧ 1 ≤ z ∧ z ≤ 1) (fun i S' => Dk S S' p (n + 2 + i)) (by rw [rng_len]; omega) hb2 (fun i d S3 hd2 hb3 => ?_) fun ys S3 hyl hy hb3 => ?_
    · have hi := (rng_get hd2).1
      refine ⟨_, rfl, fun Q hq => ?_⟩
      walk_at "dg3"
      exact hq _ _ ⟨_, rfl, by decide, by decide⟩ (hb3.mono (by omega))
    obtain ⟨zs, rfl, hzs⟩ := ex_map (f := D.int) (R := fun z => 1 ≤ z ∧ z ≤ 1) (ys := ys) fun y hm => by
      obtain ⟨i, hi⟩ := List.mem_iff_getElem?.mp hm
      exact hy i y hi
    rw [rng_len] at hyl hb3
    rw [List.length_map] at hyl
    walk_at "dg3"
    refine lc_st (fun _ y => ∃ w : Int, y = .int w ∧ w ≠ 0 ∧ w.natAbs ≤ 1) (fun i S' => Dk S S' p (n + 5 + i)) (by rw [List.length_map]; omega) (hb3.mono (by omega)) (fun i d S4 hd2 hb4 => ?_) fun ys S4 hyl2 hy2 hb4 => ?_
    · rw [List.getElem?_map] at hd2
      obtain ⟨z, hz, rfl⟩ := Option.map_eq_some_iff.mp hd2
      have hz2 := hzs z (List.mem_of_getElem? hz)
      have hi := (List.getElem?_eq_some_iff.mp hz).1
      refine ⟨_, rfl, fun Q hq => ?_⟩
      walk_at "dg3"
      refine takeK hb4 (by decide) (by decide) (by omega) fun u S5 u0 u1 hb5 => ?_
      have hu : u = 0 ∨ u = 1 := by omega
      rcases hu with rfl | rfl
      · walk_at "dg3"
        exact ⟨mulS, hq _ _ ⟨_, rfl, by omega, by omega⟩ hb5⟩
      · walk_at "dg3"
        exact ⟨mulS, hq _ _ ⟨_, rfl, by omega, by omega⟩ hb5⟩
    obtain ⟨ws', rfl, hws⟩ := ex_map (f := D.int) (R := fun w => w ≠ 0 ∧ w.natAbs ≤ 1) (ys := ys) fun y hm => by
      obtain ⟨i, hi⟩ := List.mem_iff_getElem?.mp hm
      exact hy2 i y hi
    rw [List.length_map, List.length_map] at hyl2
    rw [List.length_map] at hb4
    walk_at "dg3"
    exact h (.loose ws') S4 ⟨by omega, by omega, hws⟩ hwm (hb4.mono (by omega))
  · walk_at "dg3"
    refine takeK hb1 (by decide) (by decide) (by omega) fun x S2 x0 x1 hb2 => ?_
    walk_at "dg3"
    exact h (.moved (x - 4)) S2 (show (x - 4).natAbs ≤ 4 by omega) hwm (hb2.mono (by omega))
  · walk_at "dg3"
    refine takeK hb1 (by decide) (by decide) (by omega) fun x S2 x0 x1 hb2 => ?_
    walk_at "dg3"
    refine takeK hb2 (by decide) (by decide) (by omega) fun y S3 y0 y1 hb3 => ?_
    walk_at "dg3"
    refine ⟨x - 20, 1 + y, rfl, by omega, bound_mono (n := 10) (by omega), bound_mono (n := 10) (by omega), ?_⟩
    walk_at "dg3"
    exact h (.told (((x - 20 : Int) : Rat) / ((1 + y : Int) : Rat))) S3 (sz_frac (by omega) (by omega) (by omega)) hwm (hb3.mono (by omega))
  · walk_at "dg3"
    exact h .times S1 trivial hwm (hb1.mono (by omega))
  · walk_at "dg3"
    refine takeK hb1 (by decide) (by decide) (by omega) fun x S2 x0 x1 hb2 => ?_
    walk_at "dg3"
    exact h (.over x) S2 ⟨x0, by omega⟩ hwm (hb2.mono (by omega))
  · walk_at "dg3"
    exact h .least S1 trivial hwm (hb1.mono (by omega))
  · walk_at "dg3"
    exact h .most S1 trivial hwm (hb1.mono (by omega))
  · walk_at "dg3"
    exact h .choose S1 trivial hwm (hb1.mono (by omega))
/-! ### what comes, as the law has it -/
def sp_Lcame : DSp := sp_applied
def sp_Lsources : DSp := fun ds S P => ∃ (p : Addr) (n : Nat) (b k : Int) (kn : Kn), ds = [.obj p, .int b, kn.d, .int k] ∧ BoxAt S p n ∧ n ≤ 9000000 ∧ 2 ≤ b ∧ b ≤ 10 ∧ 0 ≤ k ∧ k ≤ 60 ∧ kn.Dr ∧ ∀ (rs : List Rw) S', rs.length = kn.many → (∀ r, r ∈ rs → Small b k r) → Dk S S' p (n + 900) → P (.lst (rs.map Rw.d)) S'
def rd_Lcame : DS :=
  (dSeq (dSet 3 (dOp dIx (dVar 1) (dC (.int 0))))
  (dSeq (dIfS (dTest (dOp (dIn false) (dVar 3) (dTup (dCons (dC (.str "sum")) (dCons (dC (.str "loose")) dNil))))) (dSeq (dSet 4 (dTup (dCons (dC (.int 0)) (dCons (dC (.int 1)) dNil))))
  (dSeq (dFor (dZip (dCons (dOp dIx (dVar 1) (dC (.int 1))) (dCons (dVar 2) dNil))) (.tp [(.nm 5), (.nm 6)]) (dSet 4 (dCB sp_Lplus (dCons (dVar 4) (dCons (dCB sp_Ltimes (dCons (dTup (dCons (dVar 5) (dCons (dC (.int 1)) dNil))) (dCons (dVar 6) dNil))) dNil)))))
  (dRet (dIf (dTest (dOp dEq (dVar 3) (dC (.str "sum")))) (dCB sp_Lover (dCons (dVar 4) (dCons (dTup (dCons (dOp dIx (dVar 1) (dC (.int 2))) (dCons (dC (.int 1)) dNil))) dNil))) (dVar 4))))) dNext)
  (dSeq (dIfS (dTest (dOp dEq (dVar 3) (dC (.str "told")))) (dRet (dOp dIx (dVar 1) (dC (.int 1)))) dNext)
  (dSeq (dIfS (dTest (dOp dEq (dVar 3) (dC (.str "moved")))) (dRet (dCB sp_Ltimes (dCons (dOp dIx (dVar 2) (dC (.int 0))) (dCons (dCB sp_Lpower (dCons (dVar 0) (dCons (dOp dIx (dVar 1) (dC (.int 1))) dNil))) dNil)))) dNext)
  (dSeq (dIfS (dTest (dOp dEq (dVar 3) (dC (.str "choose")))) (dRet (dIf (dTest (dOp dGe (dOp dIx (dOp dIx (dVar 2) (dC (.int 0))) (dC (.int 0))) (dC (.int 0)))) (dOp dIx (dVar 2) (dC (.int 1))) (dOp dIx (dVar 2) (dC (.int 2))))) dNext)
  (dSeq (dAsg (.tp [(.nm 6), (.nm 7)]) (dVar 2))
  (dSeq (dIfS (dTest (dOp dEq (dVar 3) (dC (.str "over")))) (dSeq (dSet 8 (dCB sp_Lpower (dCons (dVar 0) (dCons (dUn dNeg (dOp dIx (dVar 1) (dC (.int 1)))) dNil))))
  (dRet (dCB sp_Lover (dCons (dVar 6) (dCons (dIf (dTest (dCB sp_Lbelow (dCons (dVar 7) (dCons (dVar 8) dNil)))) (dVar 8) (dVar 7)) dNil))))) dNext)
  (dSeq (dIfS (dTest (dOp dEq (dVar 3) (dC (.str "times")))) (dRet (dCB sp_Ltimes (dCons (dVar 6) (dCons (dVar 7) dNil)))) dNext)
  (dRet (dIf (dTest (dOp dEq (dCB sp_Lbelow (dCons (dVar 6) (dCons (dVar 7) dNil))) (dOp dEq (dVar 3) (dC (.str "least"))))) (dVar 6) (dVar 7)))))))))))
def goal_Lcame : Prop := ∀ (x0 x1 x2 : D) (S : Store) (P : D → Store → Prop), sp_Lcame [x0, x1, x2] S P → rd_Lcame (dEnd P) [some x0, some x1, some x2, none, none, none, none, none, none] S
def rd_Lsources : DS :=
  (dRet (dLc (dRng1 (dCons (dCB sp_Lmany (dCons (dVar 2) dNil)) dNil)) (.nm 4) dYes (dCB sp_Lrow (dCons (dVar 0) (dCons (dVar 1) (dCons (dVar 3) dNil))))))
def goal_Lsources : Prop := ∀ (x0 x1 x2 x3 : D) (S : Store) (P : D → Store → Prop), sp_Lsources [x0, x1, x2, x3] S P → rd_Lsources (dEnd P) [some x0, some x1, some x2, some x3, none] S
theorem len_Lcame : ∀ ds S P, sp_Lcame ds S P → ds.length = 3 := len_applied
theorem len_Lsources : ∀ ds S P, sp_Lsources ds S P → ds.length = 4 := by
  rintro ds S P ⟨a, b, c, d, e, rfl, _⟩; rfl
theorem vc_Lcame : goal_Lcame := by
  rintro x0 x1 x2 S P ⟨b, kn, xs, z, y, e, hy, hk, hl, b0, b1, z0, z1, hx, h⟩
  cases e
  have bp : (0 : Int) < b := by omega
  unfold rd_Lcame
  -- the loop of weights
  have loop : ∀ (kd : D) (wd : D) (ws : List Int) (DD : DEnds), ws.length = xs.length → ws.length ≤ 4 → (∀ w, w ∈ ws → w.natAbs ≤ 100) →
      (∀ z5 z6, DD.nx [some (.int b), some kd, some x2, some wd, some (encR (wsum ws xs)), z5, z6, none, none] S) →
      ForB (.tp [.nm 5, .nm 6]) (dSet 4 (dCB sp_Lplus (dCons (dVar 4) (dCons (dCB sp_Ltimes (dCons (dTup (dCons (dVar 5) (dCons (dC (.int 1)) dNil))) (dCons (dVar 6) dNil))) dNil)))) DD (zipD (ws.map .int) (xs.map encR)) [some (.int b), some kd, some x2, some wd, some (encR 0), none, none, none, none] S := fun kd wd ws DD hl2 hl4 hw hn => by
    refine ⟨fun i ρ S' => S' = S ∧ ∃ z5 z6, ρ = [some (.int b), some kd, some x2, some wd, some (encR (wsum (ws.take i) (xs.take i))), z5, z6, none, none], ⟨rfl, none, none, by rw [wsum_zero]⟩, ?_, ?_⟩
    · rintro i d ρ S' hd ⟨rfl, z4, z5, rfl⟩
      obtain ⟨a, c, h1, h2, rfl⟩ := zipD_get hd
      rw [List.getElem?_map] at h1 h2
      obtain ⟨w, hw1, rfl⟩ := Option.map_eq_some_iff.mp h1
      obtain ⟨x, hx1, rfl⟩ := Option.map_eq_some_iff.mp h2
      refine ⟨_, rfl, ?_⟩
      walk_at "dg3"
      have ew : D.tup [.int w, .int 1] = encR ((w : Int) : Rat) := rfl
      rw [ew]
      have wb := hw w (List.mem_of_getElem? hw1)
      have sw : Sz 8 ((w : Int) : Rat) := sz_int (by omega)
      have sx := hx x (List.mem_of_getElem? hx1)
      have il := (List.getElem?_eq_some_iff.mp hw1).1
      have ss := wsum_sz hw hx i (by omega) (by omega)
      have ib : i * (z + 12) ≤ 3 * (z + 12) := Nat.mul_le_mul_right _ (by omega)
      refine ⟨_, _, rfl, sw.mono (by decide), sx.mono (by omega), ?_⟩
      refine ⟨_, _, rfl, ss.mono (by omega), (sz_mul sw sx).mono (by omega), ?_⟩
      rw [← wsum_take ws xs i w x hw1 hx1]
      exact ⟨rfl, _, _, rfl⟩
    · rintro ρ S' ⟨rfl, z4, z5, rfl⟩
      have zl : (zipD (ws.map D.int) (xs.map encR)).length = ws.length := by
        unfold zipD; rw [List.length_zipWith, List.length_map, List.length_map]; omega
      rw [zl, List.take_length, show xs.take ws.length = xs from by rw [hl2, List.take_length]]
      exact hn _ _
  have e0 : D.tup [.int 0, .int 1] = encR 0 := rfl
  cases kn with
  | sum ws v =>
    obtain ⟨h1, h2, h3, h4⟩ := hk
    have hl2 : ws.length = xs.length := hl.symm
    have ss := wsum_sz h2 hx ws.length (Nat.le_refl _) (by omega)
    rw [List.take_length, show xs.take ws.length = xs from by rw [hl2, List.take_length]] at ss
    have ib : ws.length * (z + 12) ≤ 4 * (z + 12) := Nat.mul_le_mul_right _ h1
    have vn : ((v : Int) : Rat) ≠ 0 := by
      have : v ≠ 0 := by omega
      exact_mod_cast this
    have fin : ∀ z5 z6 : Option D, sp_Lover [encR (wsum ws xs), .tup [.int v, .int 1]] S P := fun _ _ => by
      have ev : D.tup [.int v, .int 1] = encR ((v : Int) : Rat) := rfl
      rw [ev]
      exact ⟨_, _, rfl, vn, ss.mono (by omega), (sz_int (n := 11) (by omega)).mono (by decide), h⟩
    simp only [Kn.d]
    rcases hy with rfl | rfl <;> walk_at "dg3" <;> rw [e0] <;> refine loop _ _ ws _ hl2 h1 h2 fun z5 z6 => ?_ <;> walk_at "dg3" <;> exact fin z5 z6
  | loose ws =>
    obtain ⟨h1, h2⟩ := hk
    have hl2 : ws.length = xs.length := hl.symm
    simp only [Kn.d]
    rcases hy with rfl | rfl <;> walk_at "dg3" <;> rw [e0] <;> refine loop _ _ ws _ hl2 h1 h2 fun z5 z6 => ?_ <;> walk_at "dg3" <;> exact h
  | moved e =>
    have he : e.natAbs ≤ 30 := hk
    match xs, hl with
    | [x], _ =>
      simp only [Kn.d]
      walk_at "dg3"
      rw [nums_ix hy (i := 0) (k := 0) rfl rfl]
      exact ⟨b, e, rfl, bp, b1, by omega, _, _, rfl, (hx x (by simp)).mono (by omega), (sz_zpow bp b1).mono (by omega), h⟩
  | told q =>
    simp only [Kn.d]
    walk_at "dg3"
    exact h
  | choose =>
    match xs, hl with
    | [x, u, w], _ =>
      simp only [Kn.d]
      walk_at "dg3"
      rw [nums_ix hy (i := 0) (k := 0) rfl rfl, g_ix_enc0]
      have e : Kn.app b .choose [x, u, w] = if x < 0 then w else u := rfl
      rw [e] at h
      have en : (0 ≤ x.num) = ¬ (x < 0) := propext (by rw [Rat.num_nonneg, Rat.not_lt])
      simp only [en]
      by_cases hc : x < 0
      · simp only [hc, not_true, reduceIte] at h ⊢
        rw [nums_ix hy (i := 2) (k := 2) rfl rfl]
        exact h
      · simp only [hc, not_false_eq_true, reduceIte] at h ⊢
        rw [nums_ix hy (i := 1) (k := 1) rfl rfl]
        exact h
  | times =>
    match xs, hl with
    | [x, u], _ =>
      have sx := hx x (by simp)
      have su := hx u (by simp)
      simp only [Kn.d]
      rcases hy with rfl | rfl <;> simp only [List.map_cons, List.map_nil] <;> walk_at "dg3" <;> exact ⟨_, _, rfl, sx.mono (by omega), su.mono (by omega), h⟩
  | over k =>
    have he : k.natAbs ≤ 20 := hk
    have p := Rat.zpow_pos (n := -k) (ratpos bp)
    match xs, hl with
    | [x, u], _ =>
      have sx := hx x (by simp)
      have su := hx u (by simp)
      have sp := sz_zpow (k := -k) bp b1
      have hp := max_pos (x := u) p
      have e : Kn.app b (.over k) [x, u] = x / max u ((b : Rat) ^ (-k)) := rfl
      rw [e, max_if] at h
      rw [max_if] at hp
      have fin : sp_power [.int b, .int (-k)] S fun c S1 => sp_Lbelow [encR u, c] S1 fun t S1 => match t with
          | .bl k => if k = true then sp_Lover [encR x, c] S1 P else sp_Lover [encR x, encR u] S1 P
          | _ => False := by
        refine ⟨b, -k, rfl, bp, b1, by omega, _, _, rfl, su.mono (by omega), sp.mono (by omega), ?_⟩
        by_cases hc : u < (b : Rat) ^ (-k)
        · simp only [hc, decide_true, reduceIte] at h hp ⊢
          exact ⟨_, _, rfl, by grind, sx.mono (by omega), sp.mono (by omega), h⟩
        · simp only [hc, decide_false, reduceIte, Bool.false_eq_true] at h hp ⊢
          exact ⟨_, _, rfl, by grind, sx.mono (by omega), su.mono (by omega), h⟩
      simp only [Kn.d]
      rcases hy with rfl | rfl <;> simp only [List.map_cons, List.map_nil] <;> walk_at "dg3" <;> exact fin
  | least =>
    match xs, hl with
    | [x, u], _ =>
      have sx := hx x (by simp)
      have su := hx u (by simp)
      have e : Kn.app b .least [x, u] = min x u := rfl
      rw [e, min_if] at h
      have fin : sp_Lbelow [encR x, encR u] S fun t S1 => match dEqB t (.bl true) with
          | some k => if k = true then P (encR x) S1 else P (encR u) S1
          | none => False := by
        refine ⟨_, _, rfl, sx.mono (by omega), su.mono (by omega), ?_⟩
        by_cases hc : x < u
        · have hn : ¬ u < x := by grind
          simp only [hn, reduceIte] at h
          simp only [hc, decide_true, eqB_bb, reduceIte]
          exact h
        · simp only [hc, decide_false, eqB_bb]
          by_cases hn : u < x
          · simp only [hn, reduceIte] at h
            exact h
          · simp only [hn, reduceIte] at h
            have : x = u := by grind
            rw [this] at h
            exact h
      simp only [Kn.d]
      rcases hy with rfl | rfl <;> simp only [List.map_cons, List.map_nil] <;> walk_at "dg3" <;> exact fin
  | most =>
    match xs, hl with
    | [x, u], _ =>
      have sx := hx x (by simp)
      have su := hx u (by simp)
      have e : Kn.app b .most [x, u] = max x u := rfl
      rw [e, max_if] at h
      have fin : sp_Lbelow [encR x, encR u] S fun t S1 => match dEqB t (.bl false) with
          | some k => if k = true then P (encR x) S1 else P (encR u) S1
          | none => False := by
        refine ⟨_, _, rfl, sx.mono (by omega), su.mono (by omega), ?_⟩
        by_cases hc : x < u
        · simp only [hc, reduceIte] at h
          simp only [hc, decide_true, eqB_bb, reduceIte]
          exact h
        · simp only [hc, reduceIte] at h
          simp only [hc, decide_false, eqB_bb]
          exact h
      simp only [Kn.d]
      rcases hy with rfl | rfl <;> simp only [List.map_cons, List.map_nil] <;> walk_at "dg3" <;> exact fin
theorem vc_Lsources : goal_Lsources := by
  rintro x0 x1 x2 x3 S P ⟨p, n, b, k, kn, e, hb, hn, b0, b1, k0, k1, hk, h⟩
  cases e
  unfold rd_Lsources
  have hm := hk.many
  walk_at "dg3"
  refine ⟨kn, rfl, ?_⟩
  walk_at "dg3"
  refine ⟨by omega, by omega, ?_⟩
  refine lc_st (fun _ y => ∃ r : Rw, y = r.d ∧ Small b k r) (fun i S' => Dk S S' p (n + 210 * i)) (by rw [rng_len]; omega) (.refl hb) (fun i d S1 hd hb1 => ?_) fun ys S1 hyl hy hb1 => ?_
  · obtain ⟨hi, rfl⟩ := rng_get hd
    refine ⟨_, rfl, fun Q hq => ?_⟩
    walk_at "dg3"
    exact ⟨p, _, b, k, rfl, hb1.1, by omega, b0, b1, k0, k1, fun r S2 hr hb2 => hq _ _ ⟨r, rfl, hr⟩ ((hb1.trans hb2).mono (by omega))⟩
  obtain ⟨rs, rfl, hrs⟩ := ex_map (f := Rw.d) (R := fun r => Small b k r) (ys := ys) fun y hm => by
    obtain ⟨i, hi⟩ := List.mem_iff_getElem?.mp hm
    exact hy i y hi
  rw [rng_len] at hyl hb1
  rw [List.length_map] at hyl
  exact h rs S1 (by omega) hrs (hb1.mono (by omega))
theorem up_spans {b : Int} {rs : List Rw} (h : ∀ r, r ∈ rs → r.Ok b) : Up (rs.map (spanQ b)) := fun s hs => by
  obtain ⟨r, hr, rfl⟩ := List.mem_map.mp hs
  exact lo_le_hi (h r hr)
theorem ch_sz {z : Nat} : ∀ {ss : List (Rat × Rat)}, (∀ s, s ∈ ss → Sz z s.1 ∧ Sz z s.2) → ∀ (xs : List Rat), Ch ss xs → ∀ x, x ∈ xs → Sz z x
  | [], _, [], _, x, hx => by cases hx
  | [], _, _ :: _, h, _, _ => h.elim
  | _ :: _, _, [], h, _, _ => h.elim
  | s :: ss, hs, y :: ys, h, x, hx => by
    rcases List.mem_cons.mp hx with rfl | hx
    · rcases h.1 with e | e
      · rw [e]; exact (hs s (by simp)).1
      · rw [e]; exact (hs s (by simp)).2
    · exact ch_sz (fun t ht => hs t (by simp [ht])) ys h.2 x hx
/-! ### rows with figures behind -/
def Rw.app (r : Rw) (gs : List Int) : Rw := ⟨r.e, r.m, r.fs ++ gs⟩
theorem Rw.app_nil (r : Rw) : r.app [] = r := by unfold Rw.app; simp
theorem Rw.app_cons (r : Rw) (g : Int) (gs : List Int) : r.app (g :: gs) = (r.snoc g).app gs := by unfold Rw.app Rw.snoc; simp
theorem app_in {b : Int} (b0 : 2 ≤ b) : ∀ (gs : List Int) (r : Rw), (∀ g, g ∈ gs → -r.m ≤ g ∧ g ≤ r.m) → r.lo b ≤ (r.app gs).lo b ∧ (r.app gs).hi b ≤ r.hi b
  | [], r, _ => by rw [Rw.app_nil]; exact ⟨Rat.le_refl, Rat.le_refl⟩
  | g :: gs, r, h => by
    rw [Rw.app_cons]
    have h1 := snoc_in' (r := r) b0 (h g (by simp)).1 (h g (by simp)).2
    have h2 := app_in b0 gs (r.snoc g) fun z hz => h z (by simp [hz])
    exact ⟨Rat.le_trans h1.1 h2.1, Rat.le_trans h2.2 h1.2⟩
theorem Small.app {b k : Int} {r : Rw} {gs : List Int} (h : Small b k r) (hg : ∀ g, g ∈ gs → -r.m ≤ g ∧ g ≤ r.m) {j : Int} (hj : (gs.length : Int) ≤ j) : Small b (k + j) (r.app gs) :=
  ⟨h.e0, h.e1, h.m0, h.m1, by have := h.l; show ((r.fs ++ gs).length : Int) ≤ _; rw [List.length_append]; omega, fun f hf => by
    rcases List.mem_append.mp hf with hf | hf
    · exact h.f f hf
    · exact hg f hf⟩
theorem Small.mono {b k j : Int} {r : Rw} (h : Small b k r) (hj : k ≤ j) : Small b j r := ⟨h.e0, h.e1, h.m0, h.m1, by have := h.l; omega, h.f⟩
/-! ### spans within spans -/
def Sub : List (Rat × Rat) → List (Rat × Rat) → Prop
  | [], [] => True
  | t :: ts, s :: ss => (s.1 ≤ t.1 ∧ t.2 ≤ s.2) ∧ Sub ts ss
  | _, _ => False
theorem Sub.refl : ∀ ss, Sub ss ss
  | [] => trivial
  | _ :: ss => ⟨⟨Rat.le_refl, Rat.le_refl⟩, Sub.refl ss⟩
theorem Sub.len : ∀ {ts ss}, Sub ts ss → ts.length = ss.length
  | [], [], _ => rfl
  | [], _ :: _, h => h.elim
  | _ :: _, [], h => h.elim
  | _ :: ts, _ :: ss, h => by have := Sub.len h.2; simp [this]
theorem Sub.ins : ∀ {ts ss xs}, Sub ts ss → Ins ts xs → Ins ss xs
  | [], [], [], _, _ => trivial
  | [], [], _ :: _, _, h => h.elim
  | [], _ :: _, _, h, _ => h.elim
  | _ :: _, [], _, h, _ => h.elim
  | _ :: _, _ :: _, [], _, h => h.elim
  | _ :: ts, _ :: ss, x :: xs, h, g => ⟨⟨Rat.le_trans h.1.1 g.1.1, Rat.le_trans g.1.2 h.1.2⟩, Sub.ins h.2 g.2⟩
def reachQ (b : Int) (kn : Kn) (ss : List (Rat × Rat)) : Rat × Rat := (minL (kn.vals b ss), maxL (kn.vals b ss))
theorem reachQ_d (b : Int) (kn : Kn) (ss : List (Rat × Rat)) : reachD b kn ss = spD (reachQ b kn ss) := rfl
theorem pk {s : Rat × Rat} {e : Int} : (if e = 0 then s.1 else s.2) = s.1 ∨ (if e = 0 then s.1 else s.2) = s.2 := by
  split
  · exact .inl rfl
  · exact .inr rfl
theorem some_ch : ∀ ss : List (Rat × Rat), ∃ xs, Ch ss xs
  | [] => ⟨[], trivial⟩
  | s :: ss => by
    obtain ⟨xs, h⟩ := some_ch ss
    exact ⟨s.1 :: xs, .inl rfl, h⟩
theorem reach_ends (b : Int) (kn : Kn) (ss : List (Rat × Rat)) : (∃ c, Ch ss c ∧ (reachQ b kn ss).1 = kn.app b c) ∧ ∃ c, Ch ss c ∧ (reachQ b kn ss).2 = kn.app b c := by
  have hv : kn.vals b ss ≠ [] := by
    obtain ⟨xs, hx⟩ := some_ch ss
    exact List.ne_nil_of_mem (mem_vals.mpr ⟨xs, hx, rfl⟩)
  exact ⟨mem_vals.mp (minL_is hv).1, mem_vals.mp (maxL_is hv).1⟩
theorem tights {b : Int} {rs : List Rw} (h : ∀ r, r ∈ rs → r.Ok b) : ∀ s, s ∈ rs.map (spanQ b) → Sz 840 s.1 ∧ Sz 840 s.2 := fun s hs => by
  obtain ⟨r, hr, rfl⟩ := List.mem_map.mp hs
  exact (h r hr).tight
/-- rows, each with figures behind, by the ways of a corner -/
structure Beh (j : Int) (q : Int × Rw) (y : D) (gs : List Int) : Prop where
  e : y = (q.2.app gs).d
  l : gs.length = 5
  f : ∀ g, g ∈ gs → -q.2.m ≤ g ∧ g ≤ q.2.m
  lo : j / q.1 % 2 = 0 → ∀ g, g ∈ gs → g = -q.2.m
  hi : j / q.1 % 2 = 1 → ∀ g, g ∈ gs → g = q.2.m
/-! ### whole numbers in a stretch -/
def ivl (a : Int) (n : Nat) : List Int := (List.range n).map fun (i : Nat) => a + (i : Int)
theorem ivl_zero (a : Int) : ivl a 0 = [] := rfl
theorem ivl_succ (a : Int) (n : Nat) : ivl a (n + 1) = a :: ivl (a + 1) n := by
  unfold ivl
  rw [List.range_succ_eq_map, List.map_cons, List.map_map]
  congr 1
  · simp
  · refine List.map_congr_left fun i _ => ?_
    show a + ((i + 1 : Nat) : Int) = a + 1 + (i : Int)
    omega
theorem ivl_filter {L H : Int} {c : Int → Bool} (hc : ∀ d, c d = decide (L ≤ d ∧ d ≤ H)) : ∀ (n : Nat) (a lo : Int) (k : Nat), lo = (if L ≤ a then a else L) → k = ((if H < a + (n : Int) - 1 then H else a + (n : Int) - 1) + 1 - lo).toNat → (ivl a n).filter c = ivl lo k
  | 0, a, lo, k, h1, h2 => by
    have : k = 0 := by
      subst h1
      split at h2 <;> split at h2 <;> omega
    subst this
    simp [ivl_zero]
  | n + 1, a, lo, k, h1, h2 => by
    rw [ivl_succ, List.filter_cons, hc]
    by_cases h : L ≤ a ∧ a ≤ H
    · have e : lo = a := by rw [h1, if_pos h.1]
      subst e
      obtain ⟨k', hk⟩ : ∃ k', k = k' + 1 := ⟨k - 1, by
        have : 1 ≤ k := by
          rw [h2]
          split <;> omega
        omega⟩
      simp only [h, decide_true, reduceIte, and_self]
      rw [hk, ivl_succ, ivl_filter hc n (lo + 1) (lo + 1) k' (by rw [if_pos (by omega)]) (by
        have : ((k' + 1 : Nat) : Int) = ((if H < lo + ((n + 1 : Nat) : Int) - 1 then H else lo + ((n + 1 : Nat) : Int) - 1) + 1 - lo).toNat := by rw [← hk, h2]
        split at this <;> split <;> omega)]
    · simp only [h, decide_false, Bool.false_eq_true, reduceIte]
      by_cases hL : L ≤ a
      · have hH : H < a := by omega
        have k0 : k = 0 := by
          rw [h2, h1, if_pos hL]
          split <;> omega
        rw [ivl_filter hc n (a + 1) (a + 1) 0 (by rw [if_pos (by omega)]) (by split <;> omega), k0]
        rfl
      · have e : lo = L := by rw [h1, if_neg hL]
        refine ivl_filter hc n (a + 1) lo k ?_ ?_
        · split <;> omega
        · rw [h2]
          congr 1
          split <;> split <;> omega
/-! ### a number's floor and ceiling -/
theorem int_le_rat {d : Int} {q : Rat} : (d : Rat) ≤ q ↔ d * (q.den : Int) ≤ q.num := by
  rw [Rat.le_iff]
  show d * (q.den : Int) ≤ q.num * ((1 : Nat) : Int) ↔ _
  simp
theorem rat_le_int {d : Int} {q : Rat} : q ≤ (d : Rat) ↔ q.num ≤ d * (q.den : Int) := by
  rw [Rat.le_iff]
  show q.num * ((1 : Nat) : Int) ≤ d * (q.den : Int) ↔ _
  simp
theorem den_pos (q : Rat) : (0 : Int) < (q.den : Int) := by have := q.den_pos; omega
theorem floor_le {d : Int} {q : Rat} : d ≤ q.num.fdiv (q.den : Int) ↔ (d : Rat) ≤ q := by
  rw [int_le_rat, Int.fdiv_eq_ediv_of_nonneg _ (Int.le_of_lt (den_pos q))]
  exact Int.le_ediv_iff_mul_le (den_pos q)
theorem le_ceil {d : Int} {q : Rat} : -((-q.num).fdiv (q.den : Int)) ≤ d ↔ q ≤ (d : Rat) := by
  rw [rat_le_int, Int.fdiv_eq_ediv_of_nonneg _ (Int.le_of_lt (den_pos q))]
  have := Int.le_ediv_iff_mul_le (den_pos q) (a := -d) (b := -q.num)
  rw [Int.neg_mul] at this
  omega
/-! ### the right figures -/
def figOk (b : Int) (r : Rw) (q : Rat × Rat) (d : Int) : Bool := decide ((r.snoc d).lo b ≤ q.1 ∧ q.2 ≤ (r.snoc d).hi b)
def figsR (b : Int) (r : Rw) (q : Rat × Rat) : List Int := (ivl (-r.m) (2 * r.m + 1).toNat).filter (figOk b r q)
structure Own (b : Int) (r : Rw) : Prop where
  e0 : 0 ≤ r.e
  e1 : r.e ≤ 10
  m0 : b ≤ 2 * r.m
  m1 : r.m ≤ 15
  l : r.fs.length ≤ 11
  k : (r.fs.length : Int) - r.e ≤ 8
  f : ∀ f, f ∈ r.fs → -r.m ≤ f ∧ f ≤ r.m
theorem Own.ok {b : Int} {r : Rw} (h : Own b r) (b0 : 2 ≤ b) (b1 : b ≤ 10) : r.Ok b :=
  ⟨b0, by omega, by have := h.e0; omega, by have := h.e1; omega, by have := h.m0; omega, by have := h.m1; omega, by have := h.l; omega, fun f hf => by have := h.f f hf; have := h.m1; omega⟩
def Mg (q : Rat) : Prop := ((-268435456 : Int) : Rat) ≤ q ∧ q ≤ ((268435456 : Int) : Rat)
theorem zpow_le9 {b k : Int} (b0 : 2 ≤ b) (b1 : b ≤ 10) (hk : k ≤ 9) : (b : Rat) ^ k ≤ ((1000000000 : Int) : Rat) := by
  have bp : (0 : Rat) < (b : Rat) := ratpos (by omega)
  obtain ⟨n, hn⟩ : ∃ n : Nat, 9 - k = n := ⟨(9 - k).toNat, by omega⟩
  have e : (b : Rat) ^ k * (b : Rat) ^ (9 - k) = (b : Rat) ^ (9 : Int) := by
    rw [← Rat.zpow_add (by grind)]
    congr 1; omega
  have p1 : (1 : Rat) ≤ (b : Rat) ^ (9 - k) := by
    rw [hn, Rat.zpow_natCast, ← Rat.intCast_pow]
    have : (1 : Int) ≤ b ^ n := Int.pow_pos (by omega)
    exact_mod_cast this
  have p2 : (b : Rat) ^ (9 : Int) ≤ ((1000000000 : Int) : Rat) := by
    have e9 : (b : Rat) ^ (9 : Int) = ((b ^ 9 : Int) : Rat) := by
      rw [Rat.intCast_pow]
      exact Rat.zpow_natCast (q := (b : Rat)) (n := 9)
    rw [e9]
    have hb : b = 2 ∨ b = 3 ∨ b = 4 ∨ b = 5 ∨ b = 6 ∨ b = 7 ∨ b = 8 ∨ b = 9 ∨ b = 10 := by omega
    have : b ^ 9 ≤ 1000000000 := by
      rcases hb with rfl | rfl | rfl | rfl | rfl | rfl | rfl | rfl | rfl <;> decide
    exact Rat.intCast_le_intCast.mpr this
  have p0 := Rat.zpow_pos (n := k) bp
  have := Rat.mul_le_mul_of_nonneg_left p1 (Rat.le_of_lt p0)
  grind
/-- the bounds of the right figures -/
theorem fig_bounds {b : Int} {r : Rw} {q : Rat × Rat} (h : r.Ok b) {s : Rat} (hs : s = (b : Rat) ^ ((r.fs.length : Int) - r.e + 1)) (d : Int) :
    figOk b r q d = decide (-((-((q.2 - r.worth b) * s - (r.m : Rat) / ((b - 1 : Int) : Rat)).num).fdiv (((q.2 - r.worth b) * s - (r.m : Rat) / ((b - 1 : Int) : Rat)).den : Int)) ≤ d ∧
      d ≤ ((q.1 - r.worth b) * s + (r.m : Rat) / ((b - 1 : Int) : Rat)).num.fdiv (((q.1 - r.worth b) * s + (r.m : Rat) / ((b - 1 : Int) : Rat)).den : Int)) := by
  unfold figOk
  rw [Rw.snoc_lo h.b0, Rw.snoc_hi h.b0]
  refine decide_eq_decide.mpr ?_
  rw [le_ceil, floor_le]
  have n0 := h.nxp
  have s0 : 0 < s := by rw [hs]; exact Rat.zpow_pos h.bp
  have ns : r.nx b * s = 1 := by
    rw [hs]
    unfold Rw.nx
    have hb := h.bp
    rw [← Rat.zpow_add (by grind), show r.e - (r.fs.length : Int) - 1 + ((r.fs.length : Int) - r.e + 1) = 0 by omega, Rat.zpow_zero]
  generalize r.nx b = n at *
  generalize r.worth b = w
  generalize (r.m : Rat) / ((b - 1 : Int) : Rat) = c
  generalize (d : Rat) = x
  have k1 : ∀ {y z : Rat}, y ≤ z ↔ y * s ≤ z * s := fun {y z} => ⟨fun h => Rat.mul_le_mul_of_nonneg_right h (Rat.le_of_lt s0), fun h => by
    have := Rat.mul_le_mul_of_nonneg_right h (Rat.le_of_lt n0)
    have e1 : y * s * n = y := by grind
    have e2 : z * s * n = z := by grind
    rwa [e1, e2] at this⟩
  have a1 : (w + x * n - c * n) * s = w * s + x - c := by grind
  have a2 : (w + x * n + c * n) * s = w * s + x + c := by grind
  rw [k1 (y := w + x * n - c * n), k1 (z := w + x * n + c * n), a1, a2]
  constructor
  · rintro ⟨h1, h2⟩; constructor <;> grind
  · rintro ⟨h1, h2⟩; constructor <;> grind
/-- they are not great -/
theorem fig_small {b : Int} {r : Rw} {v : Rat} (b0 : 2 ≤ b) (b1 : b ≤ 10) (h : Own b r) (hv : Mg v) {s : Rat} (hs : s = (b : Rat) ^ ((r.fs.length : Int) - r.e + 1)) :
    ((-(2 ^ 60) : Int) : Rat) ≤ (v - r.worth b) * s - 15 ∧ (v - r.worth b) * s + 15 ≤ ((2 ^ 60 : Int) : Rat) := by
  have ok := h.ok b0 b1
  have s0 : 0 < s := by rw [hs]; exact Rat.zpow_pos ok.bp
  have s9 : s ≤ ((1000000000 : Int) : Rat) := by rw [hs]; exact zpow_le9 b0 b1 (by have := h.k; omega)
  have ws : r.worth b * s = ((whole b r.fs * b : Int) : Rat) := by
    unfold Rw.worth Rw.pw
    rw [hs, Rat.mul_assoc, ← Rat.zpow_add (by have := ok.bp; grind), show r.e - (r.fs.length : Int) + ((r.fs.length : Int) - r.e + 1) = 1 by omega, Rat.zpow_one, Rat.intCast_mul]
  have wb : (whole b r.fs).natAbs ≤ 1000 * 16 ^ 11 := by
    have h1 := fold_bound ok.b0 ok.b1 r.fs 0 ok.f
    have h2 : (16 : Nat) ^ r.fs.length ≤ 16 ^ 11 := Nat.pow_le_pow_right (by decide) h.l
    unfold Lb.whole
    simp only [Int.natAbs_zero, Nat.zero_add] at h1
    have h4 := Nat.mul_le_mul_left 1000 h2
    omega
  have wb2 : (whole b r.fs * b).natAbs ≤ 1000 * 16 ^ 11 * 10 := by
    rw [Int.natAbs_mul]
    exact Nat.mul_le_mul wb (by omega)
  obtain ⟨w, hw⟩ : ∃ w, w = whole b r.fs * b := ⟨_, rfl⟩
  rw [← hw] at ws wb2
  have p1 := Rat.mul_le_mul_of_nonneg_right hv.1 (Rat.le_of_lt s0)
  have p2 := Rat.mul_le_mul_of_nonneg_right hv.2 (Rat.le_of_lt s0)
  have p3 : ((268435456 : Int) : Rat) * s ≤ ((268435456 : Int) : Rat) * ((1000000000 : Int) : Rat) := Rat.mul_le_mul_of_nonneg_left s9 (by decide)
  have e1 : ((268435456 : Int) : Rat) * ((1000000000 : Int) : Rat) = ((268435456000000000 : Int) : Rat) := by rw [← Rat.intCast_mul]; exact congrArg _ (by decide)
  have e2 : ((-268435456 : Int) : Rat) * s = -(((268435456 : Int) : Rat) * s) := by
    have : ((-268435456 : Int) : Rat) = -((268435456 : Int) : Rat) := rfl
    rw [this]; grind
  have d1 : ((-(2 ^ 60) : Int) : Rat) ≤ ((-268435456000000000 - w - 15 : Int) : Rat) := Rat.intCast_le_intCast.mpr (by omega)
  have d2 : ((268435456000000000 - w + 15 : Int) : Rat) ≤ ((2 ^ 60 : Int) : Rat) := Rat.intCast_le_intCast.mpr (by omega)
  rw [Rat.intCast_sub, Rat.intCast_sub] at d1
  rw [Rat.intCast_add, Rat.intCast_sub] at d2
  have e3 : ((-268435456000000000 : Int) : Rat) = -((268435456000000000 : Int) : Rat) := rfl
  have e4 : ((15 : Int) : Rat) = 15 := rfl
  have e5 : (v - r.worth b) * s = v * s - (w : Rat) := by rw [← ws]; grind
  rw [e5]
  constructor <;> grind
/-! ### promises -/
def sp_raised : DSp := fun ds S P => ∃ q : Rat, ds = [encR q] ∧ Sz 8000 q ∧ P (.int (-((-q.num).fdiv (q.den : Int)))) S
def sp_figures_between : DSp := fun ds S P => ∃ (b : Int) (r : Rw) (q : Rat × Rat), ds = [.int b, r.d, encR q.1, encR q.2] ∧ 2 ≤ b ∧ b ≤ 10 ∧ Own b r ∧ Sz 2900 q.1 ∧ Sz 2900 q.2 ∧ Mg q.1 ∧ Mg q.2 ∧ ∀ l, S l = none → P (.obj l) (supd S l (.lst ((figsR b r q).map .int)))
def sp_right_figures : DSp := fun ds S P => ∃ (b : Int) (kn : Kn) (rs : List Rw) (y : D) (r : Rw), ds = [.int b, kn.d, y, r.d] ∧ RowsD S y rs ∧ kn.Ok ∧ rs.length = kn.many ∧ 2 ≤ b ∧ b ≤ 10 ∧ (∀ r, r ∈ rs → r.Ok b) ∧ Own b r ∧
  Sz 2900 (reachQ b kn (rs.map (spanQ b))).1 ∧ Sz 2900 (reachQ b kn (rs.map (spanQ b))).2 ∧ Mg (reachQ b kn (rs.map (spanQ b))).1 ∧ Mg (reachQ b kn (rs.map (spanQ b))).2 ∧
  ∀ l, S l = none → P (.obj l) (supd S l (.lst ((figsR b r (reachQ b kn (rs.map (spanQ b)))).map .int)))
def sp_Lholds : DSp := fun ds S P => ∃ (b : Int) (r : Rw) (q : Rat × Rat), ds = [.int b, r.d, spD q] ∧ r.Ok b ∧ Sz 4000 q.1 ∧ Sz 4000 q.2 ∧ P (.bl (decide (r.lo b ≤ q.1 ∧ q.2 ≤ r.hi b))) S
def sp_Lfigures_right : DSp := fun ds S P => ∃ (b : Int) (r : Rw) (q : Rat × Rat), ds = [.int b, spD q, r.d] ∧ r.Ok b ∧ r.fs.length ≤ 79 ∧ Sz 4000 q.1 ∧ Sz 4000 q.2 ∧ P (.lst ((figsR b r q).map .int)) S
def rd_raised : DS :=
  (dRet (dUn dNeg (dOp dFdiv (dUn dNeg (dOp dIx (dVar 0) (dC (.int 0)))) (dOp dIx (dVar 0) (dC (.int 1))))))
def goal_raised : Prop := ∀ (x0 : D) (S : Store) (P : D → Store → Prop), sp_raised [x0] S P → rd_raised (dEnd P) [some x0] S
def rd_figures_between : DS :=
  (dSeq (dAsg (.tp [(.nm 4), (.nm 5), (.nm 6)]) (dVar 1))
  (dSeq (dSet 7 (dCB sp_power (dCons (dVar 0) (dCons (dOp dAdd (dCB sp_known_to (dCons (dVar 1) dNil)) (dC (.int 1))) dNil))))
  (dSeq (dPar 8 9 (dCons (dCB sp_frac (dCons (dVar 5) (dCons (dOp dSub (dVar 0) (dC (.int 1))) dNil))) (dCons (dCB sp_worth_of (dCons (dVar 0) (dCons (dVar 1) dNil))) dNil)))
  (dSeq (dSet 10 (dCB sp_raised (dCons (dCB sp_minus (dCons (dCB sp_times (dCons (dCB sp_minus (dCons (dVar 3) (dCons (dVar 9) dNil))) (dCons (dVar 7) dNil))) (dCons (dVar 8) dNil))) dNil)))
  (dSeq (dSet 11 (dCB sp_plus (dCons (dCB sp_times (dCons (dCB sp_minus (dCons (dVar 2) (dCons (dVar 9) dNil))) (dCons (dVar 7) dNil))) (dCons (dVar 8) dNil))))
  (dRet (dLstR2M (dCB cMax2 (dCons (dVar 10) (dCons (dUn dNeg (dVar 5)) dNil))) (dOp dAdd (dCB cMin2 (dCons (dOp dFdiv (dOp dIx (dVar 11) (dC (.int 0))) (dOp dIx (dVar 11) (dC (.int 1)))) (dCons (dVar 5) dNil))) (dC (.int 1))))))))))
def goal_figures_between : Prop := ∀ (x0 x1 x2 x3 : D) (S : Store) (P : D → Store → Prop), sp_figures_between [x0, x1, x2, x3] S P → rd_figures_between (dEnd P) [some x0, some x1, some x2, some x3, none, none, none, none, none, none, none, none] S
def rd_right_figures : DS :=
  (dSeq (dAsg (.tp [(.nm 4), (.nm 5)]) (dCB sp_reach_of (dCons (dVar 0) (dCons (dVar 1) (dCons (dVar 2) dNil)))))
  (dRet (dCB sp_figures_between (dCons (dVar 0) (dCons (dVar 3) (dCons (dVar 4) (dCons (dVar 5) dNil)))))))
def goal_right_figures : Prop := ∀ (x0 x1 x2 x3 : D) (S : Store) (P : D → Store → Prop), sp_right_figures [x0, x1, x2, x3] S P → rd_right_figures (dEnd P) [some x0, some x1, some x2, some x3, none, none] S
def rd_Lholds : DS :=
  (dSeq (dSet 3 (dCB sp_LspanQ (dCons (dVar 0) (dCons (dVar 1) dNil))))
  (dRet (dAndV (dNotV (dCB sp_Lbelow (dCons (dOp dIx (dVar 2) (dC (.int 0))) (dCons (dOp dIx (dVar 3) (dC (.int 0))) dNil)))) (dNotV (dCB sp_Lbelow (dCons (dOp dIx (dVar 3) (dC (.int 1))) (dCons (dOp dIx (dVar 2) (dC (.int 1))) dNil)))))))
def goal_Lholds : Prop := ∀ (x0 x1 x2 : D) (S : Store) (P : D → Store → Prop), sp_Lholds [x0, x1, x2] S P → rd_Lholds (dEnd P) [some x0, some x1, some x2, none] S
def rd_Lfigures_right : DS :=
  (dSeq (dAsg (.tp [(.nm 3), (.nm 4), (.nm 5)]) (dVar 2))
  (dSeq (dSet 6 (dLstR2 (dUn dNeg (dVar 4)) (dOp dAdd (dVar 4) (dC (.int 1)))))
  (dRet (dLc (dItSeq (dVar 6)) (.nm 7) (dTest (dCB sp_Lholds (dCons (dVar 0) (dCons (dTup (dCons (dVar 3) (dCons (dVar 4) (dCons (dOp dAdd (dVar 5) (dTup (dCons (dVar 7) dNil))) dNil)))) (dCons (dVar 1) dNil))))) (dVar 7)))))
def goal_Lfigures_right : Prop := ∀ (x0 x1 x2 : D) (S : Store) (P : D → Store → Prop), sp_Lfigures_right [x0, x1, x2] S P → rd_Lfigures_right (dEnd P) [some x0, some x1, some x2, none, none, none, none, none] S
theorem len_raised : ∀ ds S P, sp_raised ds S P → ds.length = 1 := by
  rintro ds S P ⟨a, rfl, _⟩; rfl
theorem len_figures_between : ∀ ds S P, sp_figures_between ds S P → ds.length = 4 := by
  rintro ds S P ⟨a, b, c, rfl, _⟩; rfl
theorem len_right_figures : ∀ ds S P, sp_right_figures ds S P → ds.length = 4 := by
  rintro ds S P ⟨a, b, c, d, e, rfl, _⟩; rfl
theorem len_Lholds : ∀ ds S P, sp_Lholds ds S P → ds.length = 3 := by
  rintro ds S P ⟨a, b, c, rfl, _⟩; rfl
theorem len_Lfigures_right : ∀ ds S P, sp_Lfigures_right ds S P → ds.length = 3 := by
  rintro ds S P ⟨a, b, c, rfl, _⟩; rfl
theorem sz_divB {n : Nat} {q : Rat} (h : Sz n q) (hn : n ≤ 8999) : DivB (q.den : Int) := divB (n := n) (by have := den_pos q; omega) (by rw [Int.natAbs_natCast]; exact h.2) hn
theorem vc_raised : goal_raised := by
  rintro x0 S P ⟨q, e, hq, h⟩
  cases e
  unfold rd_raised
  unfold encR
  walk_at "dg3"
  exact ⟨sz_divB hq (by decide), h⟩
theorem vc_Lholds : goal_Lholds := by
  rintro x0 x1 x2 S P ⟨b, r, q, e, hr, s1, s2, h⟩
  cases e
  unfold rd_Lholds
  walk_at "dg3"
  refine ⟨b, r, rfl, hr, ?_⟩
  walk_at "dg3"
  have t := hr.tight
  refine ⟨_, _, rfl, s1.mono (by decide), t.1.mono (by decide), ?_⟩
  by_cases h1 : q.1 < r.lo b
  · have c : ¬ (r.lo b ≤ q.1 ∧ q.2 ≤ r.hi b) := fun z => by have := z.1; grind
    simp only [c, decide_false] at h
    simp only [h1, decide_true]
    walk_at "dg3"
    exact h
  · simp only [h1, decide_false]
    walk_at "dg3"
    refine ⟨_, _, rfl, t.2.mono (by decide), s2.mono (by decide), ?_⟩
    by_cases h2 : r.hi b < q.2
    · have c : ¬ (r.lo b ≤ q.1 ∧ q.2 ≤ r.hi b) := fun z => by have := z.2; grind
      simp only [c, decide_false] at h
      simp only [h2, decide_true]
      walk_at "dg3"
      exact h
    · have c : r.lo b ≤ q.1 ∧ q.2 ≤ r.hi b := ⟨by grind, by grind⟩
      simp only [c, decide_true] at h
      simp only [h2, decide_false]
      walk_at "dg3"
      exact h
theorem vc_Lfigures_right : goal_Lfigures_right := by
  rintro x0 x1 x2 S P ⟨b, r, q, e, hr, hl, s1, s2, h⟩
  cases e
  unfold rd_Lfigures_right
  have m0 := hr.m0; have m1 := hr.m1
  walk_at "dg3"
  refine ⟨by unfold RgOk; omega, ?_⟩
  rw [show r.m + 1 - -r.m = 2 * r.m + 1 by omega]
  have er : rng (-r.m) (2 * r.m + 1).toNat = (ivl (-r.m) (2 * r.m + 1).toNat).map D.int := by unfold rng ivl; rw [List.map_map]; rfl
  rw [er]
  refine lc_filterA _ D.int (figOk b r q) (by unfold ivl; rw [List.length_map, List.length_range]; omega) (fun d hd => ?_) ?_
  · unfold ivl at hd
    obtain ⟨i, hi, rfl⟩ := List.mem_map.mp hd
    rw [List.mem_range] at hi
    have hz := hr.snoc hl (f := -r.m + (i : Int)) (by omega)
    refine ⟨_, rfl, fun Q q' => ?_, fun Q q' => ?_⟩
    · walk_at "dg3"
      have e1 : D.tup [D.int r.e, D.int r.m, D.tup (List.map D.int r.fs ++ [D.int (-r.m + (i : Int))])] = (r.snoc (-r.m + (i : Int))).d := by
        unfold Rw.snoc Rw.d; simp
      rw [e1]
      refine ⟨by rw [List.length_map]; omega, b, _, q, rfl, hz, s1, s2, ?_⟩
      exact q'
    · walk_at "dg3"
      exact q'
  · exact h
theorem vc_figures_between : goal_figures_between := by
  rintro x0 x1 x2 x3 S P ⟨b, r, q, e, b0, b1, hr, s1, s2, m1, m2, h⟩
  cases e
  unfold rd_figures_between
  have ok := hr.ok b0 b1
  have e0 := hr.e0; have e1 := hr.e1; have m0 := hr.m0; have mm := hr.m1; have ll := hr.l; have lk := hr.k
  obtain ⟨s, hs⟩ : ∃ s, s = (b : Rat) ^ ((r.fs.length : Int) - r.e + 1) := ⟨_, rfl⟩
  have ss : Sz 60 s := by rw [hs]; exact (sz_zpow (k := (r.fs.length : Int) - r.e + 1) (by omega) (by omega)).mono (by omega)
  have cs : Sz 11 ((r.m : Rat) / ((b - 1 : Int) : Rat)) := ok.fr
  have v1 := sz_mul (sz_sub s1 ok.worth) ss
  have v2 := sz_mul (sz_sub s2 ok.worth) ss
  walk_at "dg3"
  refine ⟨r, rfl, ?_⟩
  walk_at "dg3"
  refine ⟨b, _, rfl, by omega, by omega, by omega, ?_⟩
  rw [← hs]
  refine ⟨r.m, b - 1, rfl, by omega, bound_mono (n := 4) (by omega), bound_mono (n := 4) (by omega), ?_⟩
  refine ⟨b, r, rfl, ok, ?_⟩
  refine ⟨_, _, rfl, s2.mono (by decide), ok.worth.mono (by decide), ?_⟩
  refine ⟨_, _, rfl, (sz_sub s2 ok.worth).mono (by decide), ss.mono (by decide), ?_⟩
  refine ⟨_, _, rfl, v2.mono (by decide), cs.mono (by decide), ?_⟩
  refine ⟨_, rfl, (sz_sub v2 cs).mono (by decide), ?_⟩
  refine ⟨_, _, rfl, s1.mono (by decide), ok.worth.mono (by decide), ?_⟩
  refine ⟨_, _, rfl, (sz_sub s1 ok.worth).mono (by decide), ss.mono (by decide), ?_⟩
  refine ⟨_, _, rfl, v1.mono (by decide), cs.mono (by decide), ?_⟩
  have fb := fig_bounds (q := q) ok hs
  have g1 := fig_small b0 b1 hr m1 hs
  have g2 := fig_small b0 b1 hr m2 hs
  have sz1 := sz_add v1 cs
  have c0 : (0 : Rat) ≤ (r.m : Rat) / ((b - 1 : Int) : Rat) ∧ (r.m : Rat) / ((b - 1 : Int) : Rat) ≤ 15 := by
    have l0 := half_le (b := b) (r := r) b0 (by omega)
    have cp := ok.cp
    have c1 : ((1 : Int) : Rat) ≤ ((b - 1 : Int) : Rat) := Rat.intCast_le_intCast.mpr (by omega)
    have m15 : (r.m : Rat) ≤ ((15 : Int) : Rat) := Rat.intCast_le_intCast.mpr mm
    have e : (r.m : Rat) / ((b - 1 : Int) : Rat) * ((b - 1 : Int) : Rat) = (r.m : Rat) := by
      generalize ((b - 1 : Int) : Rat) = y at *
      rw [Rat.div_def, Rat.mul_assoc, Rat.inv_mul_cancel _ (by grind), Rat.mul_one]
    generalize (r.m : Rat) / ((b - 1 : Int) : Rat) = c at *
    have := Rat.mul_le_mul_of_nonneg_left c1 (c := c) (by grind)
    have o1 : ((1 : Int) : Rat) = 1 := rfl
    have o2 : ((15 : Int) : Rat) = 15 := rfl
    exact ⟨by grind, by grind⟩
  generalize (r.m : Rat) / ((b - 1 : Int) : Rat) = c at *
  generalize (q.2 - r.worth b) * s = X at *
  generalize (q.1 - r.worth b) * s = Y at *
  obtain ⟨C, hC⟩ : ∃ C, C = -((-(X - c).num).fdiv ((X - c).den : Int)) := ⟨_, rfl⟩
  obtain ⟨F, hF⟩ : ∃ F, F = (Y + c).num.fdiv ((Y + c).den : Int) := ⟨_, rfl⟩
  have C1 : C ≤ 2 ^ 60 := by rw [hC]; exact le_ceil.mpr (by grind)
  have C0 : -(2 ^ 60) ≤ C := by
    refine Int.not_lt.mp fun h => ?_
    have h2 : C ≤ -(2 ^ 60) - 1 := by omega
    rw [hC, le_ceil, Rat.intCast_sub] at h2
    have : ((1 : Int) : Rat) = 1 := rfl
    grind
  have F0 : -(2 ^ 60) ≤ F := by rw [hF]; exact floor_le.mpr (by grind)
  have F1 : F ≤ 2 ^ 60 := by
    refine Int.not_lt.mp fun h => ?_
    have h2 : 2 ^ 60 + 1 ≤ F := by omega
    rw [hF, floor_le, Rat.intCast_add] at h2
    have : ((1 : Int) : Rat) = 1 := rfl
    grind
  rw [← hC, ← hF] at fb
  unfold dLstR2M
  walk_at "dg3"
  rw [← hC, ← hF]
  refine ⟨sz_divB sz1 (by decide), by unfold RgOk; split <;> split <;> omega, fun l hl => ?_⟩
  have hh := h l hl
  have ef : figsR b r q = ivl (if -r.m > C then -r.m else C) ((if r.m < F then r.m else F) + 1 - if -r.m > C then -r.m else C).toNat := by
    unfold figsR
    refine ivl_filter fb _ _ _ _ ?_ ?_
    · split <;> split <;> omega
    · congr 1
      have : -r.m + ((2 * r.m + 1).toNat : Int) - 1 = r.m := by omega
      rw [this]
      congr 2
      split <;> split <;> omega
  have er : ∀ a n, rng a n = (ivl a n).map D.int := fun a n => by unfold rng ivl; rw [List.map_map]; rfl
  rw [er, ← ef]
  exact hh
theorem vc_right_figures : goal_right_figures := by
  rintro x0 x1 x2 x3 S P ⟨b, kn, rs, y, r, e, hy, hk, hl, b0, b1, hrs, hr, s1, s2, m1, m2, h⟩
  cases e
  unfold rd_right_figures
  walk_at "dg3"
  refine ⟨b, kn, rs, 840, _, rfl, hy, hk, hl, b0, by omega, by decide, by decide, rsOk_of hrs, ?_⟩
  rw [reachQ_d]
  walk_at "dg3"
  exact ⟨b, r, _, rfl, b0, b1, hr, s1, s2, m1, m2, h⟩
/-! ### what is drawn is not great -/
theorem zpow_le {b k : Int} (n : Nat) (b0 : 2 ≤ b) (b1 : b ≤ 10) (hk : k ≤ n) : (b : Rat) ^ k ≤ ((10 ^ n : Int) : Rat) := by
  have bp : (0 : Rat) < (b : Rat) := ratpos (by omega)
  obtain ⟨m, hm⟩ : ∃ m : Nat, (n : Int) - k = m := ⟨((n : Int) - k).toNat, by omega⟩
  have e : (b : Rat) ^ k * (b : Rat) ^ ((n : Int) - k) = (b : Rat) ^ (n : Int) := by
    rw [← Rat.zpow_add (by grind)]
    congr 1; omega
  have p1 : (1 : Rat) ≤ (b : Rat) ^ ((n : Int) - k) := by
    rw [hm, Rat.zpow_natCast, ← Rat.intCast_pow]
    have : (1 : Int) ≤ b ^ m := Int.pow_pos (by omega)
    exact_mod_cast this
  have p2 : (b : Rat) ^ (n : Int) ≤ ((10 ^ n : Int) : Rat) := by
    have e9 : (b : Rat) ^ (n : Int) = ((b ^ n : Int) : Rat) := by
      rw [Rat.intCast_pow]
      exact Rat.zpow_natCast (q := (b : Rat)) (n := n)
    rw [e9]
    have key : ∀ n : Nat, b ^ n ≤ 10 ^ n := fun n => by
      induction n with
      | zero => simp
      | succ n ih =>
        rw [Int.pow_succ, Int.pow_succ]
        exact Int.mul_le_mul ih b1 (by omega) (Int.le_of_lt (Int.pow_pos (by decide)))
    exact Rat.intCast_le_intCast.mpr (key n)
  have p0 := Rat.zpow_pos (n := k) bp
  have := Rat.mul_le_mul_of_nonneg_left p1 (Rat.le_of_lt p0)
  grind
def Bd (A q : Rat) : Prop := -A ≤ q ∧ q ≤ A
theorem Bd.mul {A B x y : Rat} (h1 : Bd A x) (h2 : Bd B y) : Bd (A * B) (x * y) := by
  have a1 := Rat.mul_nonneg (show 0 ≤ A - x by have := h1.2; grind) (show 0 ≤ B + y by have := h2.1; grind)
  have a2 := Rat.mul_nonneg (show 0 ≤ A + x by have := h1.1; grind) (show 0 ≤ B - y by have := h2.2; grind)
  have a3 := Rat.mul_nonneg (show 0 ≤ A - x by have := h1.2; grind) (show 0 ≤ B - y by have := h2.2; grind)
  have a4 := Rat.mul_nonneg (show 0 ≤ A + x by have := h1.1; grind) (show 0 ≤ B + y by have := h2.1; grind)
  exact ⟨by grind, by grind⟩
theorem Bd.mono {A B x : Rat} (h : Bd A x) (hB : A ≤ B) : Bd B x := ⟨by have := h.1; grind, by have := h.2; grind⟩
theorem Bd.add {A B x y : Rat} (h1 : Bd A x) (h2 : Bd B y) : Bd (A + B) (x + y) := ⟨by have := h1.1; have := h2.1; grind, by have := h1.2; have := h2.2; grind⟩
theorem bd_int {n : Int} {w : Int} (h : -n ≤ w ∧ w ≤ n) : Bd ((n : Int) : Rat) (w : Rat) := by
  refine ⟨?_, Rat.intCast_le_intCast.mpr h.2⟩
  rw [← Rat.intCast_neg]
  exact Rat.intCast_le_intCast.mpr h.1
theorem Bd.mg {q : Rat} {A : Rat} (h : Bd A q) (hA : A ≤ ((268435456 : Int) : Rat)) : Mg q := by
  have e : ((-268435456 : Int) : Rat) = -((268435456 : Int) : Rat) := rfl
  unfold Mg
  rw [e]
  exact (h.mono hA)
theorem bd_frac {m b : Int} (h0 : 0 ≤ m) (h1 : m ≤ 15) (b0 : 2 ≤ b) : (0 : Rat) ≤ (m : Rat) / ((b - 1 : Int) : Rat) ∧ (m : Rat) / ((b - 1 : Int) : Rat) ≤ 15 := by
  have cp : (0 : Rat) < ((b - 1 : Int) : Rat) := ratpos (by omega)
  have c1 : ((1 : Int) : Rat) ≤ ((b - 1 : Int) : Rat) := Rat.intCast_le_intCast.mpr (by omega)
  have m0 : ((0 : Int) : Rat) ≤ (m : Rat) := Rat.intCast_le_intCast.mpr h0
  have m15 : (m : Rat) ≤ ((15 : Int) : Rat) := Rat.intCast_le_intCast.mpr h1
  have ip : (0 : Rat) < ((b - 1 : Int) : Rat)⁻¹ := Rat.inv_pos.mpr cp
  have e : (m : Rat) / ((b - 1 : Int) : Rat) * ((b - 1 : Int) : Rat) = (m : Rat) := by
    generalize ((b - 1 : Int) : Rat) = y at *
    rw [Rat.div_def, Rat.mul_assoc, Rat.inv_mul_cancel _ (by grind), Rat.mul_one]
  have c0 : (0 : Rat) ≤ (m : Rat) / ((b - 1 : Int) : Rat) := by
    rw [Rat.div_def]
    exact Rat.mul_nonneg m0 (Rat.le_of_lt ip)
  generalize (m : Rat) / ((b - 1 : Int) : Rat) = c at *
  have := Rat.mul_le_mul_of_nonneg_left c1 c0
  have o1 : ((1 : Int) : Rat) = 1 := rfl
  have o2 : ((15 : Int) : Rat) = 15 := rfl
  exact ⟨by grind, by grind⟩
theorem Small.bd {b k : Int} {r : Rw} (h : Small b k r) (b0 : 2 ≤ b) (b1 : b ≤ 10) (hk : k ≤ 60) : Bd ((15000 : Int) : Rat) (r.lo b) ∧ Bd ((15000 : Int) : Rat) (r.hi b) := by
  have ok := h.ok b0 (by omega) hk
  have hin := app_in b0 r.fs ⟨r.e, r.m, []⟩ h.f
  have er : (⟨r.e, r.m, []⟩ : Rw).app r.fs = r := by unfold Rw.app; simp
  rw [er] at hin
  have lh := lo_le_hi ok
  have m0 := h.m0
  have fr := bd_frac (m := r.m) (b := b) (by omega) h.m1 b0
  have pe := zpow_le (b := b) (k := r.e) 3 b0 b1 (by have := h.e1; omega)
  have pp := Rat.zpow_pos (n := r.e) (ratpos (show 0 < b by omega))
  have w0 : (⟨r.e, r.m, []⟩ : Rw).worth b = 0 := by
    unfold Rw.worth
    show ((0 : Int) : Rat) * _ = 0
    have : ((0 : Int) : Rat) = 0 := rfl
    rw [this, Rat.zero_mul]
  have t0 : (⟨r.e, r.m, []⟩ : Rw).tail b = (r.m : Rat) / ((b - 1 : Int) : Rat) * (b : Rat) ^ r.e := by
    unfold Rw.tail Rw.pw
    simp
  have e3 : ((10 ^ 3 : Int) : Rat) = 1000 := rfl
  have e15 : ((15000 : Int) : Rat) = 15000 := rfl
  unfold Rw.lo Rw.hi at hin lh ⊢
  rw [w0, t0] at hin
  have bm := Bd.mul (A := 15) (B := 1000) (x := (r.m : Rat) / ((b - 1 : Int) : Rat)) (y := (b : Rat) ^ r.e) ⟨by grind, fr.2⟩ ⟨by grind, by grind⟩
  generalize (r.m : Rat) / ((b - 1 : Int) : Rat) * (b : Rat) ^ r.e = z at *
  have b2 := bm.2
  rw [e15]
  exact ⟨⟨by grind, by grind⟩, ⟨by grind, by grind⟩⟩
theorem wsum_bd : ∀ (ws : List Int) (xs : List Rat), (∀ w, w ∈ ws → w.natAbs ≤ 9) → (∀ x, x ∈ xs → Bd 15000 x) → Bd (135000 * (ws.length : Rat)) (wsum ws xs)
  | [], xs, _, _ => by
    show Bd (135000 * ((0 : Nat) : Rat)) (wsum [] xs)
    have : ((0 : Nat) : Rat) = 0 := rfl
    rw [this]
    simp [wsum, Bd]
  | w :: ws, [], _, _ => by
    have : (0 : Rat) ≤ (((w :: ws).length : Nat) : Rat) := Rat.natCast_nonneg
    simp only [wsum]
    exact ⟨by grind, by grind⟩
  | w :: ws, x :: xs, hw, hx => by
    have ih := wsum_bd ws xs (fun z hz => hw z (by simp [hz])) fun z hz => hx z (by simp [hz])
    have h1 : Bd ((9 : Int) : Rat) (w : Rat) := bd_int (by have := hw w (by simp); omega)
    have h2 := Bd.mul h1 (hx x (by simp))
    have h3 := h2.add ih
    have e : (((w :: ws).length : Nat) : Rat) = (ws.length : Rat) + 1 := by rw [List.length_cons]; exact Rat.natCast_add _ _
    rw [e]
    have e9 : ((9 : Int) : Rat) = 9 := rfl
    simp only [wsum]
    exact h3.mono (by grind)
theorem app_bd {b : Int} {kn : Kn} {xs : List Rat} (b0 : 2 ≤ b) (b1 : b ≤ 10) (hk : kn.Dr) (hl : xs.length = kn.many) (hx : ∀ x, x ∈ xs → Bd 15000 x) : Mg (kn.app b xs) := by
  have bp : (0 : Rat) < (b : Rat) := ratpos (by omega)
  have big : ((268435456 : Int) : Rat) = 268435456 := rfl
  have wb : ∀ ws : List Int, ws.length ≤ 3 → (∀ w, w ∈ ws → w.natAbs ≤ 9) → Bd 405000 (wsum ws xs) := fun ws h1 h2 => by
    refine (wsum_bd ws xs h2 hx).mono ?_
    have : ((ws.length : Int) : Rat) ≤ ((3 : Int) : Rat) := Rat.intCast_le_intCast.mpr (by omega)
    have e : ((ws.length : Int) : Rat) = (ws.length : Rat) := rfl
    have e3 : ((3 : Int) : Rat) = 3 := rfl
    grind
  cases kn with
  | sum ws v =>
    obtain ⟨_, h2, h3, h4, h5⟩ := hk
    have w := wb ws h2 fun w hw => (h3 w hw).2
    have v1 : ((1 : Int) : Rat) ≤ ((v : Int) : Rat) := Rat.intCast_le_intCast.mpr h4
    have o1 : ((1 : Int) : Rat) = 1 := rfl
    have vp : (0 : Rat) < ((v : Int) : Rat)⁻¹ := Rat.inv_pos.mpr (by grind)
    have vi : ((v : Int) : Rat) * ((v : Int) : Rat)⁻¹ = 1 := Rat.mul_inv_cancel _ (by grind)
    have := Rat.mul_le_mul_of_nonneg_right v1 (Rat.le_of_lt vp)
    have vb : Bd 1 (((v : Int) : Rat)⁻¹) := ⟨by grind, by grind⟩
    refine Bd.mg (A := 405000 * 1) ?_ (by rw [big]; grind)
    show Bd _ (wsum ws xs / ((v : Int) : Rat))
    rw [Rat.div_def]
    exact w.mul vb
  | loose ws =>
    obtain ⟨_, h2, h3⟩ := hk
    exact Bd.mg (wb ws h2 fun w hw => by have := (h3 w hw).2; omega) (by rw [big]; grind)
  | moved e =>
    have he : e.natAbs ≤ 4 := hk
    match xs, hl with
    | [x], _ =>
      have p := zpow_le (b := b) (k := e) 4 b0 b1 (by omega)
      have pp := Rat.zpow_pos (n := e) bp
      have e4 : ((10 ^ 4 : Int) : Rat) = 10000 := rfl
      exact Bd.mg (Bd.mul (hx x (by simp)) (B := 10000) ⟨by grind, by grind⟩) (by rw [big]; grind)
  | told q =>
    have hq : Sz 10 q := hk
    have d := den_pos q
    have n := hq.1
    have l1 : q ≤ ((1024 : Int) : Rat) := rat_le_int.mpr (by omega)
    have l2 : ((-1024 : Int) : Rat) ≤ q := int_le_rat.mpr (by omega)
    refine Bd.mg (A := ((1024 : Int) : Rat)) ⟨?_, l1⟩ (Rat.intCast_le_intCast.mpr (by decide))
    rw [← Rat.intCast_neg]
    exact l2
  | times =>
    match xs, hl with
    | [x, y], _ => exact Bd.mg (Bd.mul (hx x (by simp)) (hx y (by simp))) (by rw [big]; grind)
  | over k =>
    have hk2 : 0 ≤ k ∧ k ≤ 3 := hk
    match xs, hl with
    | [x, y], _ =>
      have p := zpow_le (b := b) (k := k) 3 b0 b1 (by omega)
      have pk := Rat.zpow_pos (n := k) bp
      have pn := Rat.zpow_pos (n := -k) bp
      have pe : (b : Rat) ^ (-k) * (b : Rat) ^ k = 1 := by
        rw [← Rat.zpow_add (by grind), show -k + k = 0 by omega, Rat.zpow_zero]
      have e3 : ((10 ^ 3 : Int) : Rat) = 1000 := rfl
      obtain ⟨m, hm⟩ : ∃ m, m = max y ((b : Rat) ^ (-k)) := ⟨_, rfl⟩
      have hm2 : (b : Rat) ^ (-k) ≤ m := by rw [hm, max_if]; split <;> grind
      have mp : 0 < m := by grind
      have ip : (0 : Rat) < m⁻¹ := Rat.inv_pos.mpr mp
      have mi : m * m⁻¹ = 1 := Rat.mul_inv_cancel _ (by grind)
      have t := Rat.mul_le_mul_of_nonneg_right (Rat.mul_le_mul_of_nonneg_right hm2 (Rat.le_of_lt ip)) (Rat.le_of_lt pk)
      have e1 : (b : Rat) ^ (-k) * m⁻¹ * (b : Rat) ^ k = m⁻¹ := by grind
      have e2 : m * m⁻¹ * (b : Rat) ^ k = (b : Rat) ^ k := by grind
      rw [e1, e2] at t
      refine Bd.mg (A := 15000 * 1000) ?_ (by rw [big]; grind)
      show Bd _ (x / max y ((b : Rat) ^ (-k)))
      rw [← hm, Rat.div_def]
      exact Bd.mul (hx x (by simp)) ⟨by grind, by grind⟩
  | least =>
    match xs, hl with
    | [x, y], _ =>
      refine Bd.mg (A := 15000) ?_ (by rw [big]; grind)
      show Bd _ (min x y)
      rw [min_if]; split <;> first | exact hx x (by simp) | exact hx y (by simp)
  | most =>
    match xs, hl with
    | [x, y], _ =>
      refine Bd.mg (A := 15000) ?_ (by rw [big]; grind)
      show Bd _ (max x y)
      rw [max_if]; split <;> first | exact hx x (by simp) | exact hx y (by simp)
  | choose =>
    match xs, hl with
    | [x, y, z], _ =>
      refine Bd.mg (A := 15000) ?_ (by rw [big]; grind)
      show Bd _ (if x < 0 then z else y)
      split
      · exact hx z (by simp)
      · exact hx y (by simp)
theorem Small.tight {b k : Int} {r : Rw} (h : Small b k r) (b0 : 2 ≤ b) (b1 : b ≤ 10) (hk : k ≤ 40) : Sz 500 (r.lo b) ∧ Sz 500 (r.hi b) := by
  have ok := h.ok b0 (by omega) (by omega)
  obtain ⟨e1, e2⟩ := lo_eq ok
  have hl := h.l; have he0 := h.e0; have he1 := h.e1; have m0 := h.m0; have m1 := h.m1
  have wb : (Lb.whole b r.fs).natAbs ≤ 1000 * 16 ^ 40 := by
    have h1 := fold_bound ok.b0 ok.b1 r.fs 0 ok.f
    have h2 : (16 : Nat) ^ r.fs.length ≤ 16 ^ 40 := Nat.pow_le_pow_right (by decide) (by omega)
    unfold Lb.whole
    simp only [Int.natAbs_zero, Nat.zero_add] at h1
    have h4 := Nat.mul_le_mul_left 1000 h2
    omega
  have wb2 : (Lb.whole b r.fs * (b - 1)).natAbs ≤ 1000 * 16 ^ 40 * 16 := by
    rw [Int.natAbs_mul]
    exact Nat.mul_le_mul wb (by omega)
  have c1 : (Lb.whole b r.fs * (b - 1) - r.m).natAbs < 2 ^ 180 := by omega
  have c2 : (Lb.whole b r.fs * (b - 1) + r.m).natAbs < 2 ^ 180 := by omega
  have d1 : (b - 1 : Int).natAbs < 2 ^ 180 := bound_mono (n := 4) (by omega)
  have pw : Sz 200 (r.pw b) := (sz_zpow (k := r.e - (r.fs.length : Int)) (by omega) (by omega)).mono (by omega)
  rw [e1, e2]
  exact ⟨(sz_mul (sz_frac ok.cne c1 d1) pw).mono (by decide), (sz_mul (sz_frac ok.cne c2 d1) pw).mono (by decide)⟩
/-- the reach of what is drawn -/
theorem reach_dr {b k : Int} {kn : Kn} {rs : List Rw} (b0 : 2 ≤ b) (b1 : b ≤ 10) (hk : kn.Dr) (hl : rs.length = kn.many) (k1 : k ≤ 40) (hs : ∀ r, r ∈ rs → Small b k r) :
    Sz 2900 (reachQ b kn (rs.map (spanQ b))).1 ∧ Sz 2900 (reachQ b kn (rs.map (spanQ b))).2 ∧ Mg (reachQ b kn (rs.map (spanQ b))).1 ∧ Mg (reachQ b kn (rs.map (spanQ b))).2 := by
  obtain ⟨⟨c1, h1, e1⟩, c2, h2, e2⟩ := reach_ends b kn (rs.map (spanQ b))
  have l1 : c1.length = kn.many := by rw [h1.len, List.length_map]; exact hl
  have l2 : c2.length = kn.many := by rw [h2.len, List.length_map]; exact hl
  have szs : ∀ s, s ∈ rs.map (spanQ b) → Sz 500 s.1 ∧ Sz 500 s.2 := fun s hm => by
    obtain ⟨r, hr, rfl⟩ := List.mem_map.mp hm
    exact (hs r hr).tight b0 b1 k1
  have bds : ∀ (ss : List (Rat × Rat)), (∀ s, s ∈ ss → Bd 15000 s.1 ∧ Bd 15000 s.2) → ∀ c, Ch ss c → ∀ x, x ∈ c → Bd 15000 x := fun ss h => by
    induction ss with
    | nil => intro c hc x hx; cases c with
      | nil => cases hx
      | cons _ _ => exact hc.elim
    | cons s ss ih => intro c hc x hx; cases c with
      | nil => exact hc.elim
      | cons y ys =>
        rcases List.mem_cons.mp hx with rfl | hx
        · rcases hc.1 with e | e
          · rw [e]; exact (h s (by simp)).1
          · rw [e]; exact (h s (by simp)).2
        · exact ih (fun t ht => h t (by simp [ht])) ys hc.2 x hx
  have hb : ∀ s, s ∈ rs.map (spanQ b) → Bd 15000 s.1 ∧ Bd 15000 s.2 := fun s hm => by
    obtain ⟨r, hr, rfl⟩ := List.mem_map.mp hm
    exact (hs r hr).bd b0 b1 (by omega)
  rw [e1, e2]
  exact ⟨(Kn.app_sz b0 (by omega) hk.ok l1 (by decide) (ch_sz szs c1 h1)).mono (by decide), (Kn.app_sz b0 (by omega) hk.ok l2 (by decide) (ch_sz szs c2 h2)).mono (by decide), app_bd b0 b1 hk l1 (bds _ hb c1 h1), app_bd b0 b1 hk l2 (bds _ hb c2 h2)⟩
/-! ### the ends that are told -/
def atO (b : Int) (kn : Kn) (ss : List (Rat × Rat)) (o : List Int) : Rat := kn.app b (pickAt ss o)
def loC (b : Int) (kn : Kn) (ss : List (Rat × Rat)) : List Int → List (List Int) → List Int
  | a, [] => a
  | a, o :: os => loC b kn ss (if atO b kn ss o < atO b kn ss a then o else a) os
def hiC (b : Int) (kn : Kn) (ss : List (Rat × Rat)) : List Int → List (List Int) → List Int
  | a, [] => a
  | a, o :: os => hiC b kn ss (if atO b kn ss a < atO b kn ss o then o else a) os
theorem loC_is (b : Int) (kn : Kn) (ss : List (Rat × Rat)) : ∀ (os : List (List Int)) (a : List Int), (loC b kn ss a os = a ∨ loC b kn ss a os ∈ os) ∧ atO b kn ss (loC b kn ss a os) ≤ atO b kn ss a ∧ ∀ o, o ∈ os → atO b kn ss (loC b kn ss a os) ≤ atO b kn ss o
  | [], a => ⟨.inl rfl, Rat.le_refl, by simp⟩
  | o :: os, a => by
    unfold loC
    obtain ⟨h1, h2, h3⟩ := loC_is b kn ss os (if atO b kn ss o < atO b kn ss a then o else a)
    by_cases h : atO b kn ss o < atO b kn ss a
    · simp only [h, reduceIte] at h1 h2 h3 ⊢
      refine ⟨?_, by grind, fun z hz => ?_⟩
      · rcases h1 with e | e
        · exact .inr (by rw [e]; simp)
        · exact .inr (by simp [e])
      · rcases List.mem_cons.mp hz with rfl | hz
        · exact h2
        · exact h3 z hz
    · simp only [h, reduceIte] at h1 h2 h3 ⊢
      refine ⟨?_, h2, fun z hz => ?_⟩
      · rcases h1 with e | e
        · exact .inl e
        · exact .inr (by simp [e])
      · rcases List.mem_cons.mp hz with rfl | hz
        · grind
        · exact h3 z hz
theorem hiC_is (b : Int) (kn : Kn) (ss : List (Rat × Rat)) : ∀ (os : List (List Int)) (a : List Int), (hiC b kn ss a os = a ∨ hiC b kn ss a os ∈ os) ∧ atO b kn ss a ≤ atO b kn ss (hiC b kn ss a os) ∧ ∀ o, o ∈ os → atO b kn ss o ≤ atO b kn ss (hiC b kn ss a os)
  | [], a => ⟨.inl rfl, Rat.le_refl, by simp⟩
  | o :: os, a => by
    unfold hiC
    obtain ⟨h1, h2, h3⟩ := hiC_is b kn ss os (if atO b kn ss a < atO b kn ss o then o else a)
    by_cases h : atO b kn ss a < atO b kn ss o
    · simp only [h, reduceIte] at h1 h2 h3 ⊢
      refine ⟨?_, by grind, fun z hz => ?_⟩
      · rcases h1 with e | e
        · exact .inr (by rw [e]; simp)
        · exact .inr (by simp [e])
      · rcases List.mem_cons.mp hz with rfl | hz
        · exact h2
        · exact h3 z hz
    · simp only [h, reduceIte] at h1 h2 h3 ⊢
      refine ⟨?_, h2, fun z hz => ?_⟩
      · rcases h1 with e | e
        · exact .inl e
        · exact .inr (by simp [e])
      · rcases List.mem_cons.mp hz with rfl | hz
        · grind
        · exact h3 z hz
theorem loC_snoc (b : Int) (kn : Kn) (ss : List (Rat × Rat)) (o : List Int) : ∀ (os : List (List Int)) (a : List Int), loC b kn ss a (os ++ [o]) = if atO b kn ss o < atO b kn ss (loC b kn ss a os) then o else loC b kn ss a os
  | [], a => rfl
  | x :: os, a => by
    show loC b kn ss (if atO b kn ss x < atO b kn ss a then x else a) (os ++ [o]) = _
    exact loC_snoc b kn ss o os _
theorem hiC_snoc (b : Int) (kn : Kn) (ss : List (Rat × Rat)) (o : List Int) : ∀ (os : List (List Int)) (a : List Int), hiC b kn ss a (os ++ [o]) = if atO b kn ss (hiC b kn ss a os) < atO b kn ss o then o else hiC b kn ss a os
  | [], a => rfl
  | x :: os, a => by
    show hiC b kn ss (if atO b kn ss a < atO b kn ss x then x else a) (os ++ [o]) = _
    exact hiC_snoc b kn ss o os _
/-- the first corner -/
def zeroO (n : Nat) : List Int := List.replicate n 0
theorem cor_head : ∀ n, ∃ os, cor n = zeroO n :: os
  | 0 => ⟨[], rfl⟩
  | n + 1 => by
    obtain ⟨os, h⟩ := cor_head n
    refine ⟨(zeroO n ++ [1]) :: os.flatMap fun o => [o ++ [0], o ++ [1]], ?_⟩
    show (cor n).flatMap (fun o => [o ++ [0], o ++ [1]]) = _
    rw [h]
    unfold zeroO
    simp [List.replicate_succ']
def endsQ (b : Int) (kn : Kn) (ss : List (Rat × Rat)) : List Int × List Int := (loC b kn ss (zeroO kn.many) (cor kn.many), hiC b kn ss (zeroO kn.many) (cor kn.many))
theorem ends_mem {b : Int} {kn : Kn} {ss : List (Rat × Rat)} : (endsQ b kn ss).1 ∈ cor kn.many ∧ (endsQ b kn ss).2 ∈ cor kn.many := by
  obtain ⟨os, h⟩ := cor_head kn.many
  have hz : zeroO kn.many ∈ cor kn.many := by rw [h]; simp
  constructor
  · rcases (loC_is b kn ss (cor kn.many) (zeroO kn.many)).1 with e | e
    · show loC _ _ _ _ _ ∈ _; rw [e]; exact hz
    · exact e
  · rcases (hiC_is b kn ss (cor kn.many) (zeroO kn.many)).1 with e | e
    · show hiC _ _ _ _ _ ∈ _; rw [e]; exact hz
    · exact e
theorem ends_at {b : Int} {kn : Kn} {ss : List (Rat × Rat)} (hl : ss.length = kn.many) : atO b kn ss (endsQ b kn ss).1 = (reachQ b kn ss).1 ∧ atO b kn ss (endsQ b kn ss).2 = (reachQ b kn ss).2 := by
  have hm := ends_mem (b := b) (kn := kn) (ss := ss)
  have hv : ∀ o, o ∈ cor kn.many → atO b kn ss o ∈ kn.vals b ss := fun o ho => by
    unfold Kn.vals
    rw [hl]
    exact List.mem_map.mpr ⟨o, ho, rfl⟩
  have hb : ∀ v, v ∈ kn.vals b ss → ∃ o, o ∈ cor kn.many ∧ v = atO b kn ss o := fun v h => by
    unfold Kn.vals at h
    rw [hl] at h
    obtain ⟨o, ho, rfl⟩ := List.mem_map.mp h
    exact ⟨o, ho, rfl⟩
  constructor
  · refine (minL_eq (hv _ hm.1) fun v h => ?_).symm
    obtain ⟨o, ho, rfl⟩ := hb v h
    exact (loC_is b kn ss (cor kn.many) (zeroO kn.many)).2.2 o ho
  · refine (maxL_eq (hv _ hm.2) fun v h => ?_).symm
    obtain ⟨o, ho, rfl⟩ := hb v h
    exact (hiC_is b kn ss (cor kn.many) (zeroO kn.many)).2.2 o ho
/-! ### promises -/
def sp_many_of : DSp := fun ds S P => ∃ kn : Kn, ds = [kn.d] ∧ P (.int kn.many) S
def sp_number_at : DSp := fun ds S P => ∃ (b : Int) (kn : Kn) (rs : List Rw) (o : List Int), ds = [.int b, kn.d, .lst (rs.map Rw.d), intsD o] ∧ kn.Ok ∧ rs.length = kn.many ∧ kn.many ≤ 4 ∧ 2 ≤ b ∧ b ≤ 16 ∧ (∀ r, r ∈ rs → r.Ok b) ∧ o ∈ cor kn.many ∧ P (encR (atO b kn (rs.map (spanQ b)) o)) S
def sp_ends_of : DSp := fun ds S P => ∃ (b : Int) (kn : Kn) (rs : List Rw), ds = [.int b, kn.d, .lst (rs.map Rw.d)] ∧ kn.Ok ∧ rs.length = kn.many ∧ kn.many ≤ 4 ∧ 2 ≤ b ∧ b ≤ 16 ∧ (∀ r, r ∈ rs → r.Ok b) ∧
  P (.tup [intsD (endsQ b kn (rs.map (spanQ b))).1, intsD (endsQ b kn (rs.map (spanQ b))).2]) S
def rd_many_of : DS :=
  (dSeq (dSet 1 (dOp dIx (dVar 0) (dC (.int 0))))
  (dSeq (dIfS (dTest (dOp (dIn false) (dVar 1) (dTup (dCons (dC (.str "sum")) (dCons (dC (.str "loose")) dNil))))) (dRet (dCB cLen (dCons (dOp dIx (dVar 0) (dC (.int 1))) dNil))) dNext)
  (dRet (dKGet [("times", 2), ("least", 2), ("most", 2), ("choose", 3)] ["sum", "loose", "moved", "told", "times", "over", "least", "most", "choose"] (dVar 1) (dDispGet [("moved", 1), ("over", 2)] (dVar 1) (dC (.int 0)))))))
def goal_many_of : Prop := ∀ (x0 : D) (S : Store) (P : D → Store → Prop), sp_many_of [x0] S P → rd_many_of (dEnd P) [some x0, none] S
def rd_number_at : DS :=
  (dRet (dCB sp_applied (dCons (dVar 0) (dCons (dVar 1) (dCons (dCB sp_numbers_at (dCons (dLc (dItSeq (dVar 2)) (.nm 4) dYes (dCB sp_span_of (dCons (dVar 0) (dCons (dVar 4) dNil)))) (dCons (dVar 3) dNil))) dNil)))))
def goal_number_at : Prop := ∀ (x0 x1 x2 x3 : D) (S : Store) (P : D → Store → Prop), sp_number_at [x0, x1, x2, x3] S P → rd_number_at (dEnd P) [some x0, some x1, some x2, some x3, none] S
def rd_ends_of_1 : DS :=
  (dSeq (dSet 7 (dCB sp_number_at (dCons (dVar 0) (dCons (dVar 1) (dCons (dVar 2) (dCons (dVar 6) dNil))))))
  (dSeq (dSet 4 (dIf (dTest (dCB sp_is_below (dCons (dVar 7) (dCons (dCB sp_number_at (dCons (dVar 0) (dCons (dVar 1) (dCons (dVar 2) (dCons (dVar 4) dNil))))) dNil)))) (dVar 6) (dVar 4)))
  (dSet 5 (dIf (dTest (dCB sp_is_below (dCons (dCB sp_number_at (dCons (dVar 0) (dCons (dVar 1) (dCons (dVar 2) (dCons (dVar 5) dNil))))) (dCons (dVar 7) dNil)))) (dVar 6) (dVar 5)))))
def rd_ends_of : DS :=
  (dSeq (dSet 3 (dCB sp_corners_of (dCons (dCB sp_many_of (dCons (dVar 1) dNil)) dNil)))
  (dSeq (dPar 4 5 (dCons (dOp dIx (dVar 3) (dC (.int 0))) (dCons (dOp dIx (dVar 3) (dC (.int 0))) dNil)))
  (dSeq (dFor (dItSeq (dVar 3)) (.nm 6) rd_ends_of_1)
  (dRet (dTup (dCons (dVar 4) (dCons (dVar 5) dNil)))))))
def goal_ends_of : Prop := ∀ (x0 x1 x2 : D) (S : Store) (P : D → Store → Prop), sp_ends_of [x0, x1, x2] S P → rd_ends_of (dEnd P) [some x0, some x1, some x2, none, none, none, none, none] S
theorem len_many_of : ∀ ds S P, sp_many_of ds S P → ds.length = 1 := by
  rintro ds S P ⟨a, rfl, _⟩; rfl
theorem len_number_at : ∀ ds S P, sp_number_at ds S P → ds.length = 4 := by
  rintro ds S P ⟨a, b, c, d, rfl, _⟩; rfl
theorem len_ends_of : ∀ ds S P, sp_ends_of ds S P → ds.length = 3 := by
  rintro ds S P ⟨a, b, c, rfl, _⟩; rfl
theorem vc_many_of : goal_many_of := by
  rintro x0 S P ⟨kn, e, h⟩
  cases e
  unfold rd_many_of
  cases kn <;> simp only [Kn.d, Kn.many] at h ⊢ <;> walk_at "dg3"
  all_goals first
    | exact h
    | (rw [List.length_map]; exact h)
    | (unfold dKGet
       walk_at "dg3"
       simp only [List.mem_cons, List.not_mem_nil, or_false, ofString_inj, String.reduceEq, or_true, true_or, false_or, true_and]
       exact h)
theorem vc_number_at : goal_number_at := by
  rintro x0 x1 x2 x3 S P ⟨b, kn, rs, o, e, hk, hl, m4, b0, b1, hr, ho, h⟩
  cases e
  unfold rd_number_at
  obtain ⟨o1, o2⟩ := mem_cor.mp ho
  have sl : (rs.map (spanQ b)).length = kn.many := by rw [List.length_map]; exact hl
  walk_at "dg3"
  refine lc_mapA Rw.d (fun r => spD (spanQ b r)) (by omega) (fun r hr' => ⟨_, rfl, fun Q q => ?_⟩) ?_
  · walk_at "dg3"
    exact ⟨b, r, rfl, hr r hr', q⟩
  have esp : rs.map (fun r => spD (spanQ b r)) = (rs.map (spanQ b)).map spD := by rw [List.map_map]; rfl
  rw [esp]
  walk_at "dg3"
  refine ⟨rs.map (spanQ b), o, rfl, by omega, o2, by omega, ?_⟩
  refine ⟨b, kn, pickAt (rs.map (spanQ b)) o, 840, _, rfl, .inl rfl, hk, by rw [pickAt_len (by omega)]; exact sl, b0, b1, by decide, by decide, fun x hx => ?_, h⟩
  obtain ⟨s, hs, hx | hx⟩ := pickAt_mem hx
  · rw [hx]; exact (tights hr s hs).1
  · rw [hx]; exact (tights hr s hs).2
theorem vc_ends_of : goal_ends_of := by
  rintro x0 x1 x2 S P ⟨b, kn, rs, e, hk, hl, m4, b0, b1, hr, h⟩
  cases e
  unfold rd_ends_of
  walk_at "dg3"
  refine ⟨kn, rfl, ?_⟩
  refine ⟨kn.many, rfl, by omega, ?_⟩
  obtain ⟨os, hos⟩ := cor_head kn.many
  have at0 : atI ((cor kn.many).map intsD) 0 = some (intsD (zeroO kn.many)) := by rw [hos]; exact atI_0 _ _
  walk_at "dg3"
  simp only [at0]
  walk_at "dg3"
  have sl : (rs.map (spanQ b)).length = kn.many := by rw [List.length_map]; exact hl
  have hz : zeroO kn.many ∈ cor kn.many := by rw [hos]; simp
  have sz : ∀ o, o ∈ cor kn.many → Sz 400000 (atO b kn (rs.map (spanQ b)) o) := fun o ho => by
    obtain ⟨o1, o2⟩ := mem_cor.mp ho
    refine (Kn.app_sz (z := 840) b0 b1 hk (by rw [pickAt_len (by omega)]; exact sl) (by decide) fun x hx => ?_).mono (by decide)
    obtain ⟨s, hs, hx | hx⟩ := pickAt_mem hx
    · rw [hx]; exact (tights hr s hs).1
    · rw [hx]; exact (tights hr s hs).2
  have na : ∀ o, o ∈ cor kn.many → ∀ Q : D → Store → Prop, Q (encR (atO b kn (rs.map (spanQ b)) o)) S → sp_number_at [.int b, kn.d, .lst (rs.map Rw.d), intsD o] S Q := fun o ho Q q => ⟨b, kn, rs, o, rfl, hk, hl, m4, b0, b1, hr, ho, q⟩
  have lm : ∀ i, loC b kn (rs.map (spanQ b)) (zeroO kn.many) ((cor kn.many).take i) ∈ cor kn.many := fun i => by
    rcases (loC_is b kn (rs.map (spanQ b)) ((cor kn.many).take i) (zeroO kn.many)).1 with e | e
    · rw [e]; exact hz
    · exact List.mem_of_mem_take e
  have hm : ∀ i, hiC b kn (rs.map (spanQ b)) (zeroO kn.many) ((cor kn.many).take i) ∈ cor kn.many := fun i => by
    rcases (hiC_is b kn (rs.map (spanQ b)) ((cor kn.many).take i) (zeroO kn.many)).1 with e | e
    · rw [e]; exact hz
    · exact List.mem_of_mem_take e
  refine ⟨fun i ρ S' => S' = S ∧ ∃ z6 z7, ρ = [some (.int b), some kn.d, some (.lst (rs.map Rw.d)), some (.lst ((cor kn.many).map intsD)), some (intsD (loC b kn (rs.map (spanQ b)) (zeroO kn.many) ((cor kn.many).take i))), some (intsD (hiC b kn (rs.map (spanQ b)) (zeroO kn.many) ((cor kn.many).take i))), z6, z7], ⟨rfl, none, none, rfl⟩, ?_, ?_⟩
  · rintro i d ρ S' hd ⟨rfl, z6, z7, rfl⟩
    rw [List.getElem?_map] at hd
    obtain ⟨o, ho, rfl⟩ := Option.map_eq_some_iff.mp hd
    have hoc := List.mem_of_getElem? ho
    have l1 := lm i
    have h1 := hm i
    have t : (cor kn.many).take (i + 1) = (cor kn.many).take i ++ [o] := by rw [List.take_add_one, ho]; rfl
    dsimp only
    rw [t, loC_snoc, hiC_snoc]
    generalize loC b kn (rs.map (spanQ b)) (zeroO kn.many) ((cor kn.many).take i) = lo at *
    generalize hiC b kn (rs.map (spanQ b)) (zeroO kn.many) ((cor kn.many).take i) = hi at *
    refine ⟨_, rfl, ?_⟩
    unfold rd_ends_of_1
    walk_at "dg3"
    refine na o hoc _ ?_
    refine na lo l1 _ ?_
    refine ⟨_, _, rfl, sz o hoc, sz lo l1, ?_⟩
    walk_at "dg3"
    by_cases c1 : atO b kn (rs.map (spanQ b)) o < atO b kn (rs.map (spanQ b)) lo
    · simp only [c1, decide_true, reduceIte]
      walk_at "dg3"
      refine na hi h1 _ ?_
      refine ⟨_, _, rfl, sz hi h1, sz o hoc, ?_⟩
      by_cases c2 : atO b kn (rs.map (spanQ b)) hi < atO b kn (rs.map (spanQ b)) o
      · simp only [c2, decide_true, reduceIte]
        exact ⟨trivial, _, _, rfl⟩
      · simp only [c2, decide_false, reduceIte, Bool.false_eq_true]
        exact ⟨trivial, _, _, rfl⟩
    · simp only [c1, decide_false, reduceIte, Bool.false_eq_true]
      walk_at "dg3"
      refine na hi h1 _ ?_
      refine ⟨_, _, rfl, sz hi h1, sz o hoc, ?_⟩
      by_cases c2 : atO b kn (rs.map (spanQ b)) hi < atO b kn (rs.map (spanQ b)) o
      · simp only [c2, decide_true, reduceIte]
        exact ⟨trivial, _, _, rfl⟩
      · simp only [c2, decide_false, reduceIte, Bool.false_eq_true]
        exact ⟨trivial, _, _, rfl⟩
  · rintro ρ S' ⟨rfl, z6, z7, rfl⟩
    rw [List.length_map, List.take_length]
    walk_at "dg3"
    exact h
/-! ### the right figures, where nothing changes them -/
def sp_figures_betweenV : DSp := fun ds S P => ∃ (b : Int) (r : Rw) (q : Rat × Rat), ds = [.int b, r.d, encR q.1, encR q.2] ∧ 2 ≤ b ∧ b ≤ 10 ∧ Own b r ∧ Sz 2900 q.1 ∧ Sz 2900 q.2 ∧ Mg q.1 ∧ Mg q.2 ∧ P (.lst ((figsR b r q).map .int)) S
def sp_right_figuresV : DSp := fun ds S P => ∃ (b : Int) (kn : Kn) (rs : List Rw) (y : D) (r : Rw), ds = [.int b, kn.d, y, r.d] ∧ RowsD S y rs ∧ kn.Ok ∧ rs.length = kn.many ∧ 2 ≤ b ∧ b ≤ 10 ∧ (∀ r, r ∈ rs → r.Ok b) ∧ Own b r ∧
  Sz 2900 (reachQ b kn (rs.map (spanQ b))).1 ∧ Sz 2900 (reachQ b kn (rs.map (spanQ b))).2 ∧ Mg (reachQ b kn (rs.map (spanQ b))).1 ∧ Mg (reachQ b kn (rs.map (spanQ b))).2 ∧
  P (.lst ((figsR b r (reachQ b kn (rs.map (spanQ b)))).map .int)) S
def heldD (b : Int) (kn : Kn) (rs : List Rw) (r : Rw) : D := if figsR b r (reachQ b kn (rs.map (spanQ b))) = [] then .tup [intsD (endsQ b kn (rs.map (spanQ b))).1, intsD (endsQ b kn (rs.map (spanQ b))).2] else .non
def sp_held_by : DSp := fun ds S P => ∃ (b : Int) (kn : Kn) (rs : List Rw) (r : Rw), ds = [.int b, kn.d, .lst (rs.map Rw.d), r.d] ∧ kn.Ok ∧ rs.length = kn.many ∧ kn.many ≤ 4 ∧ 2 ≤ b ∧ b ≤ 10 ∧ (∀ r, r ∈ rs → r.Ok b) ∧ Own b r ∧
  Sz 2900 (reachQ b kn (rs.map (spanQ b))).1 ∧ Sz 2900 (reachQ b kn (rs.map (spanQ b))).2 ∧ Mg (reachQ b kn (rs.map (spanQ b))).1 ∧ Mg (reachQ b kn (rs.map (spanQ b))).2 ∧ P (heldD b kn rs r) S
def sp_are_ends : DSp := fun ds S P => ∃ o : List Int, ds = [.int o.length, intsD o] ∧ (∀ e, e ∈ o → e = 0 ∨ e = 1) ∧ o.length ≤ 100 ∧ P (.bl true) S
def pairQ (x y : Rat) : Rat × Rat := if y < x then (y, x) else (x, y)
def sp_shows_held : DSp := fun ds S P => ∃ (b : Int) (kn : Kn) (rs : List Rw) (r : Rw) (o1 o2 : List Int), ds = [.int b, kn.d, .lst (rs.map Rw.d), r.d, .tup [intsD o1, intsD o2]] ∧ kn.Ok ∧ rs.length = kn.many ∧ kn.many ≤ 4 ∧ 2 ≤ b ∧ b ≤ 10 ∧ (∀ r, r ∈ rs → r.Ok b) ∧ Own b r ∧
  o1 ∈ cor kn.many ∧ o2 ∈ cor kn.many ∧ (∀ o, o ∈ cor kn.many → Sz 2900 (atO b kn (rs.map (spanQ b)) o) ∧ Mg (atO b kn (rs.map (spanQ b)) o)) ∧
  P (.bl (decide (figsR b r (pairQ (atO b kn (rs.map (spanQ b)) o1) (atO b kn (rs.map (spanQ b)) o2)) = []))) S
def rd_figures_betweenV : DS :=
  (dSeq (dAsg (.tp [(.nm 4), (.nm 5), (.nm 6)]) (dVar 1))
  (dSeq (dSet 7 (dCB sp_power (dCons (dVar 0) (dCons (dOp dAdd (dCB sp_known_to (dCons (dVar 1) dNil)) (dC (.int 1))) dNil))))
  (dSeq (dPar 8 9 (dCons (dCB sp_frac (dCons (dVar 5) (dCons (dOp dSub (dVar 0) (dC (.int 1))) dNil))) (dCons (dCB sp_worth_of (dCons (dVar 0) (dCons (dVar 1) dNil))) dNil)))
  (dSeq (dSet 10 (dCB sp_raised (dCons (dCB sp_minus (dCons (dCB sp_times (dCons (dCB sp_minus (dCons (dVar 3) (dCons (dVar 9) dNil))) (dCons (dVar 7) dNil))) (dCons (dVar 8) dNil))) dNil)))
  (dSeq (dSet 11 (dCB sp_plus (dCons (dCB sp_times (dCons (dCB sp_minus (dCons (dVar 2) (dCons (dVar 9) dNil))) (dCons (dVar 7) dNil))) (dCons (dVar 8) dNil))))
  (dRet (dLstR2 (dCB cMax2 (dCons (dVar 10) (dCons (dUn dNeg (dVar 5)) dNil))) (dOp dAdd (dCB cMin2 (dCons (dOp dFdiv (dOp dIx (dVar 11) (dC (.int 0))) (dOp dIx (dVar 11) (dC (.int 1)))) (dCons (dVar 5) dNil))) (dC (.int 1))))))))))
def goal_figures_betweenV : Prop := ∀ (x0 x1 x2 x3 : D) (S : Store) (P : D → Store → Prop), sp_figures_betweenV [x0, x1, x2, x3] S P → rd_figures_betweenV (dEnd P) [some x0, some x1, some x2, some x3, none, none, none, none, none, none, none, none] S
def rd_right_figuresV : DS :=
  (dSeq (dAsg (.tp [(.nm 4), (.nm 5)]) (dCB sp_reach_of (dCons (dVar 0) (dCons (dVar 1) (dCons (dVar 2) dNil)))))
  (dRet (dCB sp_figures_betweenV (dCons (dVar 0) (dCons (dVar 3) (dCons (dVar 4) (dCons (dVar 5) dNil)))))))
def goal_right_figuresV : Prop := ∀ (x0 x1 x2 x3 : D) (S : Store) (P : D → Store → Prop), sp_right_figuresV [x0, x1, x2, x3] S P → rd_right_figuresV (dEnd P) [some x0, some x1, some x2, some x3, none, none] S
def rd_held_by : DS :=
  (dRet (dIf (dTest (dOp dGt (dCB cLen (dCons (dCB sp_right_figuresV (dCons (dVar 0) (dCons (dVar 1) (dCons (dVar 2) (dCons (dVar 3) dNil))))) dNil)) (dC (.int 0)))) (dC .non) (dCB sp_ends_of (dCons (dVar 0) (dCons (dVar 1) (dCons (dVar 2) dNil))))))
def goal_held_by : Prop := ∀ (x0 x1 x2 x3 : D) (S : Store) (P : D → Store → Prop), sp_held_by [x0, x1, x2, x3] S P → rd_held_by (dEnd P) [some x0, some x1, some x2, some x3] S
def rd_are_ends : DS :=
  (dSeq (dIfS (dOr (dNot (dTest (dCB cIsi (dCons (dVar 1) (dCons (dC (.ty "tuple")) dNil))))) (dTest (dOp dNe (dCB cLen (dCons (dVar 1) dNil)) (dVar 0)))) (dRet (dC (.bl false))) dNext)
  (dRet (dCB cAll (dCons (dLc (dItSeq (dVar 1)) (.nm 2) dYes (dAndV (dCB cIsi (dCons (dVar 2) (dCons (dC (.ty "int")) dNil))) (dAndV (dNotV (dCB cIsi (dCons (dVar 2) (dCons (dC (.ty "bool")) dNil)))) (dOp (dIn false) (dVar 2) (dTup (dCons (dC (.int 0)) (dCons (dC (.int 1)) dNil))))))) dNil))))
def goal_are_ends : Prop := ∀ (x0 x1 : D) (S : Store) (P : D → Store → Prop), sp_are_ends [x0, x1] S P → rd_are_ends (dEnd P) [some x0, some x1, none] S
def rd_shows_held : DS :=
  (dSeq (dIfS (dOr (dNot (dTest (dCB cIsi (dCons (dVar 4) (dCons (dC (.ty "tuple")) dNil))))) (dTest (dOp dNe (dCB cLen (dCons (dVar 4) dNil)) (dC (.int 2))))) (dRet (dC (.bl false))) dNext)
  (dSeq (dIfS (dNot (dTest (dCB cAll (dCons (dLc (dItSeq (dVar 4)) (.nm 5) dYes (dCB sp_are_ends (dCons (dCB sp_many_of (dCons (dVar 1) dNil)) (dCons (dVar 5) dNil)))) dNil)))) (dRet (dC (.bl false))) dNext)
  (dSeq (dAsg (.tp [(.nm 6), (.nm 7)]) (dLc (dItSeq (dVar 4)) (.nm 5) dYes (dCB sp_number_at (dCons (dVar 0) (dCons (dVar 1) (dCons (dVar 2) (dCons (dVar 5) dNil)))))))
  (dSeq (dAsg (.tp [(.nm 8), (.nm 9)]) (dIf (dTest (dCB sp_is_below (dCons (dVar 7) (dCons (dVar 6) dNil)))) (dTup (dCons (dVar 7) (dCons (dVar 6) dNil))) (dTup (dCons (dVar 6) (dCons (dVar 7) dNil)))))
  (dRet (dOp dEq (dCB sp_figures_betweenV (dCons (dVar 0) (dCons (dVar 3) (dCons (dVar 8) (dCons (dVar 9) dNil))))) (dLst dNil)))))))
def goal_shows_held : Prop := ∀ (x0 x1 x2 x3 x4 : D) (S : Store) (P : D → Store → Prop), sp_shows_held [x0, x1, x2, x3, x4] S P → rd_shows_held (dEnd P) [some x0, some x1, some x2, some x3, some x4, none, none, none, none, none] S
theorem len_figures_betweenV : ∀ ds S P, sp_figures_betweenV ds S P → ds.length = 4 := by
  rintro ds S P ⟨a, b, c, rfl, _⟩; rfl
theorem len_right_figuresV : ∀ ds S P, sp_right_figuresV ds S P → ds.length = 4 := by
  rintro ds S P ⟨a, b, c, d, e, rfl, _⟩; rfl
theorem len_held_by : ∀ ds S P, sp_held_by ds S P → ds.length = 4 := by
  rintro ds S P ⟨a, b, c, d, rfl, _⟩; rfl
theorem len_are_ends : ∀ ds S P, sp_are_ends ds S P → ds.length = 2 := by
  rintro ds S P ⟨a, rfl, _⟩; rfl
theorem len_shows_held : ∀ ds S P, sp_shows_held ds S P → ds.length = 5 := by
  rintro ds S P ⟨a, b, c, d, e, f, rfl, _⟩; rfl
theorem vc_figures_betweenV : goal_figures_betweenV := by
  rintro x0 x1 x2 x3 S P ⟨b, r, q, e, b0, b1, hr, s1, s2, m1, m2, h⟩
  cases e
  unfold rd_figures_betweenV
  have ok := hr.ok b0 b1
  have e0 := hr.e0; have e1 := hr.e1; have m0 := hr.m0; have mm := hr.m1; have ll := hr.l; have lk := hr.k
  obtain ⟨s, hs⟩ : ∃ s, s = (b : Rat) ^ ((r.fs.length : Int) - r.e + 1) := ⟨_, rfl⟩
  have ss : Sz 60 s := by rw [hs]; exact (sz_zpow (k := (r.fs.length : Int) - r.e + 1) (by omega) (by omega)).mono (by omega)
  have cs : Sz 11 ((r.m : Rat) / ((b - 1 : Int) : Rat)) := ok.fr
  have v1 := sz_mul (sz_sub s1 ok.worth) ss
  have v2 := sz_mul (sz_sub s2 ok.worth) ss
  walk_at "dg3"
  refine ⟨r, rfl, ?_⟩
  walk_at "dg3"
  refine ⟨b, _, rfl, by omega, by omega, by omega, ?_⟩
  rw [← hs]
  refine ⟨r.m, b - 1, rfl, by omega, bound_mono (n := 4) (by omega), bound_mono (n := 4) (by omega), ?_⟩
  refine ⟨b, r, rfl, ok, ?_⟩
  refine ⟨_, _, rfl, s2.mono (by decide), ok.worth.mono (by decide), ?_⟩
  refine ⟨_, _, rfl, (sz_sub s2 ok.worth).mono (by decide), ss.mono (by decide), ?_⟩
  refine ⟨_, _, rfl, v2.mono (by decide), cs.mono (by decide), ?_⟩
  refine ⟨_, rfl, (sz_sub v2 cs).mono (by decide), ?_⟩
  refine ⟨_, _, rfl, s1.mono (by decide), ok.worth.mono (by decide), ?_⟩
  refine ⟨_, _, rfl, (sz_sub s1 ok.worth).mono (by decide), ss.mono (by decide), ?_⟩
  refine ⟨_, _, rfl, v1.mono (by decide), cs.mono (by decide), ?_⟩
  have fb := fig_bounds (q := q) ok hs
  have g1 := fig_small b0 b1 hr m1 hs
  have g2 := fig_small b0 b1 hr m2 hs
  have sz1 := sz_add v1 cs
  have c0 : (0 : Rat) ≤ (r.m : Rat) / ((b - 1 : Int) : Rat) ∧ (r.m : Rat) / ((b - 1 : Int) : Rat) ≤ 15 := by
    have l0 := half_le (b := b) (r := r) b0 (by omega)
    have cp := ok.cp
    have c1 : ((1 : Int) : Rat) ≤ ((b - 1 : Int) : Rat) := Rat.intCast_le_intCast.mpr (by omega)
    have m15 : (r.m : Rat) ≤ ((15 : Int) : Rat) := Rat.intCast_le_intCast.mpr mm
    have e : (r.m : Rat) / ((b - 1 : Int) : Rat) * ((b - 1 : Int) : Rat) = (r.m : Rat) := by
      generalize ((b - 1 : Int) : Rat) = y at *
      rw [Rat.div_def, Rat.mul_assoc, Rat.inv_mul_cancel _ (by grind), Rat.mul_one]
    generalize (r.m : Rat) / ((b - 1 : Int) : Rat) = c at *
    have := Rat.mul_le_mul_of_nonneg_left c1 (c := c) (by grind)
    have o1 : ((1 : Int) : Rat) = 1 := rfl
    have o2 : ((15 : Int) : Rat) = 15 := rfl
    exact ⟨by grind, by grind⟩
  generalize (r.m : Rat) / ((b - 1 : Int) : Rat) = c at *
  generalize (q.2 - r.worth b) * s = X at *
  generalize (q.1 - r.worth b) * s = Y at *
  obtain ⟨C, hC⟩ : ∃ C, C = -((-(X - c).num).fdiv ((X - c).den : Int)) := ⟨_, rfl⟩
  obtain ⟨F, hF⟩ : ∃ F, F = (Y + c).num.fdiv ((Y + c).den : Int) := ⟨_, rfl⟩
  have C1 : C ≤ 2 ^ 60 := by rw [hC]; exact le_ceil.mpr (by grind)
  have C0 : -(2 ^ 60) ≤ C := by
    refine Int.not_lt.mp fun h => ?_
    have h2 : C ≤ -(2 ^ 60) - 1 := by omega
    rw [hC, le_ceil, Rat.intCast_sub] at h2
    have : ((1 : Int) : Rat) = 1 := rfl
    grind
  have F0 : -(2 ^ 60) ≤ F := by rw [hF]; exact floor_le.mpr (by grind)
  have F1 : F ≤ 2 ^ 60 := by
    refine Int.not_lt.mp fun h => ?_
    have h2 : 2 ^ 60 + 1 ≤ F := by omega
    rw [hF, floor_le, Rat.intCast_add] at h2
    have : ((1 : Int) : Rat) = 1 := rfl
    grind
  rw [← hC, ← hF] at fb
  unfold dLstR2
  walk_at "dg3"
  rw [← hC, ← hF]
  refine ⟨sz_divB sz1 (by decide), by unfold RgOk; split <;> split <;> omega, ?_⟩
  have ef : figsR b r q = ivl (if -r.m > C then -r.m else C) ((if r.m < F then r.m else F) + 1 - if -r.m > C then -r.m else C).toNat := by
    unfold figsR
    refine ivl_filter fb _ _ _ _ ?_ ?_
    · split <;> split <;> omega
    · congr 1
      have : -r.m + ((2 * r.m + 1).toNat : Int) - 1 = r.m := by omega
      rw [this]
      congr 2
      split <;> split <;> omega
  have er : ∀ a n, rng a n = (ivl a n).map D.int := fun a n => by unfold rng ivl; rw [List.map_map]; rfl
  rw [er, ← ef]
  exact h
theorem vc_right_figuresV : goal_right_figuresV := by
  rintro x0 x1 x2 x3 S P ⟨b, kn, rs, y, r, e, hy, hk, hl, b0, b1, hrs, hr, s1, s2, m1, m2, h⟩
  cases e
  unfold rd_right_figuresV
  walk_at "dg3"
  refine ⟨b, kn, rs, 840, _, rfl, hy, hk, hl, b0, by omega, by decide, by decide, rsOk_of hrs, ?_⟩
  rw [reachQ_d]
  walk_at "dg3"
  exact ⟨b, r, _, rfl, b0, b1, hr, s1, s2, m1, m2, h⟩
theorem vc_held_by : goal_held_by := by
  rintro x0 x1 x2 x3 S P ⟨b, kn, rs, r, e, hk, hl, m4, b0, b1, hrs, hr, s1, s2, m1, m2, h⟩
  cases e
  unfold rd_held_by
  walk_at "dg3"
  refine ⟨b, kn, rs, _, r, rfl, .inl rfl, hk, hl, b0, b1, hrs, hr, s1, s2, m1, m2, ?_⟩
  unfold heldD at h
  walk_at "dg3"
  rw [List.length_map]
  by_cases hF : figsR b r (reachQ b kn (rs.map (spanQ b))) = []
  · rw [if_pos hF] at h
    rw [hF]
    walk_at "dg3"
    simp
    exact ⟨b, kn, rs, rfl, hk, hl, m4, b0, by omega, hrs, h⟩
  · rw [if_neg hF] at h
    have lp := List.length_pos_iff.mpr hF
    have c : (0 : Int) < ((figsR b r (reachQ b kn (rs.map (spanQ b)))).length : Int) := by omega
    simp only [c, decide_true, reduceIte]
    exact h
theorem allR (S : Store) (P : D → Store → Prop) (n : Nat) (h : P (.bl true) S) : cAll [.lst (List.replicate n (.bl true))] S P := by
  have hb : dBools (List.replicate n (.bl true)) = some (List.replicate n true) := by
    have := dBools_map (List.replicate n true)
    rwa [List.map_replicate] at this
  unfold cAll
  simp only [lstOf, Option.bind, hb]
  have ht : (List.replicate n true).all id = true := by simp
  rw [ht]
  exact h
theorem vc_are_ends : goal_are_ends := by
  rintro x0 x1 S P ⟨o, e, ho, hl, h⟩
  cases e
  unfold rd_are_ends intsD
  walk_at "dg3"
  rw [List.length_map]
  walk_at "dg3"
  refine lc_mapA D.int (fun _ => .bl true) (by omega) (fun e he => ⟨_, rfl, fun Q q => ?_⟩) ?_
  · walk_at "dg3"
    rcases ho e he with rfl | rfl <;> walk_at "dg3" <;> exact q
  have er : o.map (fun _ => D.bl true) = List.replicate o.length (.bl true) := List.map_const' ..
  rw [er]
  exact allR S P _ h
theorem vc_shows_held : goal_shows_held := by
  rintro x0 x1 x2 x3 x4 S P ⟨b, kn, rs, r, o1, o2, e, hk, hl, m4, b0, b1, hrs, hr, h1, h2, hz, h⟩
  cases e
  unfold rd_shows_held
  obtain ⟨l1, p1⟩ := mem_cor.mp h1
  obtain ⟨l2, p2⟩ := mem_cor.mp h2
  walk_at "dg3"
  rw [if_neg (by decide)]
  have e2 : [intsD o1, intsD o2] = [o1, o2].map intsD := rfl
  rw [e2]
  refine lc_mapA intsD (fun _ => .bl true) (by simp) (fun o ho => ⟨_, rfl, fun Q q => ?_⟩) ?_
  · have hoc : o ∈ cor kn.many := by
      simp only [List.mem_cons, List.not_mem_nil, or_false] at ho
      rcases ho with rfl | rfl
      · exact h1
      · exact h2
    obtain ⟨lo, po⟩ := mem_cor.mp hoc
    walk_at "dg3"
    refine ⟨kn, rfl, ?_⟩
    exact ⟨o, by rw [lo], po, by omega, q⟩
  refine allR S _ 2 ?_
  walk_at "dg3"
  refine lc_mapA intsD (fun o => encR (atO b kn (rs.map (spanQ b)) o)) (by simp) (fun o ho => ⟨_, rfl, fun Q q => ?_⟩) ?_
  · have hoc : o ∈ cor kn.many := by
      simp only [List.mem_cons, List.not_mem_nil, or_false] at ho
      rcases ho with rfl | rfl
      · exact h1
      · exact h2
    walk_at "dg3"
    exact ⟨b, kn, rs, o, rfl, hk, hl, m4, b0, by omega, hrs, hoc, q⟩
  have z1 := hz o1 h1
  have z2 := hz o2 h2
  simp only [List.map_cons, List.map_nil]
  generalize atO b kn (rs.map (spanQ b)) o1 = x at *
  generalize atO b kn (rs.map (spanQ b)) o2 = y at *
  walk_at "dg3"
  refine ⟨_, _, rfl, z2.1.mono (by decide), z1.1.mono (by decide), ?_⟩
  unfold pairQ at h
  by_cases hc : y < x
  · rw [if_pos hc] at h
    simp only [hc, decide_true]
    walk_at "dg3"
    refine ⟨b, r, (y, x), rfl, b0, b1, hr, z2.1, z1.1, z2.2, z1.2, ?_⟩
    dsimp only
    rw [show dEqB (.lst ((figsR b r (y, x)).map D.int)) (.lst []) = some (decide (figsR b r (y, x) = [])) from eqB_ints _ []]
    exact h
  · rw [if_neg hc] at h
    simp only [hc, decide_false]
    walk_at "dg3"
    refine ⟨b, r, (x, y), rfl, b0, b1, hr, z1.1, z2.1, z1.2, z2.2, ?_⟩
    dsimp only
    rw [show dEqB (.lst ((figsR b r (x, y)).map D.int)) (.lst []) = some (decide (figsR b r (x, y) = [])) from eqB_ints _ []]
    exact h
/-! ### the same, also of two numbers that are not -/
def spr_LsameW : Nat → DSp
  | 0 => fun _ _ _ => False
  | n + 1 => fun ds S P => ∃ x y, ds = [x, y] ∧ ((Plain n y ∧ (x = y ∨ ∃ l zs, x = .obj l ∧ S l = some (.lst zs) ∧ y = .lst zs) ∧ P (.bl true) S) ∨ ∃ i j : Int, x = .int i ∧ y = .int j ∧ P (.bl (decide (i = j))) S)
def sp_LsameW : DSp := spr_LsameW 6
def rd_LsameW (sp_LsameW : DSp) : DS :=
  (dSeq (dIfS (dTest (dCB cIsi (dCons (dVar 1) (dCons (dC (.ty "dict")) dNil)))) dNever dNext)
  (dSeq (dIfS (dTest (dCB cIsi (dCons (dVar 1) (dCons (dTup (dCons (dC (.ty "list")) (dCons (dC (.ty "tuple")) dNil))) dNil)))) (dSeq (dIfS (dOr (dTest (dOp dNe (dCB cIsi (dCons (dVar 0) (dCons (dC (.ty "list")) dNil))) (dCB cIsi (dCons (dVar 1) (dCons (dC (.ty "list")) dNil))))) (dTest (dOp dNe (dCB cIsi (dCons (dVar 0) (dCons (dC (.ty "tuple")) dNil))) (dCB cIsi (dCons (dVar 1) (dCons (dC (.ty "tuple")) dNil)))))) (dRet (dC (.bl false))) dNext)
  (dRet (dAndV (dOp dEq (dCB cLen (dCons (dVar 0) dNil)) (dCB cLen (dCons (dVar 1) dNil))) (dCB cAll (dCons (dLc (dZip (dCons (dVar 0) (dCons (dVar 1) dNil))) (.tp [(.nm 3), (.nm 4)]) dYes (dCB sp_LsameW (dCons (dVar 3) (dCons (dVar 4) dNil)))) dNil))))) dNext)
  (dSeq (dIfS (dOr (dTest (dOp dIsN (dVar 1) (dC .non))) (dTest (dCB cIsi (dCons (dVar 1) (dCons (dTup (dCons (dC (.ty "bool")) (dCons (dC (.ty "str")) dNil))) dNil))))) (dRet (dAndV (dOp dEq (dVar 0) (dVar 1)) (dAndV (dOp dEq (dCB cIsi (dCons (dVar 0) (dCons (dC (.ty "bool")) dNil))) (dCB cIsi (dCons (dVar 1) (dCons (dC (.ty "bool")) dNil)))) (dOp dEq (dOp dIsN (dVar 0) (dC .non)) (dOp dIsN (dVar 1) (dC .non)))))) dNext)
  (dRet (dAndV (dCB cIsi (dCons (dVar 0) (dCons (dC (.ty "int")) dNil))) (dAndV (dNotV (dCB cIsi (dCons (dVar 0) (dCons (dC (.ty "bool")) dNil)))) (dOp dEq (dVar 0) (dVar 1))))))))
def goal_LsameW : Prop := ∀ (n : Nat) (x0 x1 : D) (S : Store) (P : D → Store → Prop), spr_LsameW (n + 1) [x0, x1] S P → rd_LsameW (spr_LsameW n) (dEnd P) [some x0, some x1, none, none, none] S
theorem z_LsameW : ∀ ds S P, spr_LsameW 0 ds S P → False := fun _ _ _ h => h
theorem len_LsameW : ∀ n ds S P, spr_LsameW n ds S P → ds.length = 2
  | 0, _, _, _, h => h.elim
  | n + 1, _, _, _, ⟨x, y, rfl, _⟩ => rfl
theorem vc_LsameW : goal_LsameW := by
  rintro n x0 x1 S P ⟨x, y, e, hh⟩
  cases e
  unfold rd_LsameW
  rcases hh with ⟨hp, hxy, h⟩ | ⟨i, j, rfl, rfl, h⟩
  · rcases hxy with rfl | ⟨l, zs, rfl, hS, rfl⟩
    · cases hp with
      | non => walk_at "dg3"; exact h
      | bl => walk_at "dg3"; exact h
      | int => walk_at "dg3"; exact h
      | str => walk_at "dg3"; exact h
      | lst hl hy =>
        walk_at "dg3"
        rw [zipD_self]
        refine all_same hl (fun d hd => ⟨_, rfl, fun Q q => ?_⟩) h
        walk_at "dg3"
        exact ⟨d, d, rfl, .inl ⟨hy d hd, .inl rfl, q⟩⟩
      | tup hl hy =>
        walk_at "dg3"
        rw [zipD_self]
        refine all_same hl (fun d hd => ⟨_, rfl, fun Q q => ?_⟩) h
        walk_at "dg3"
        exact ⟨d, d, rfl, .inl ⟨hy d hd, .inl rfl, q⟩⟩
    · cases hp with
      | lst hl hy =>
        walk_at "dg3"
        rw [isi_obj_list hS]
        walk_at "dg3"
        rw [isi_obj_tuple hS]
        walk_at "dg3"
        rw [ln_obj hS]
        walk_at "dg3"
        simp only [hS, decide_true, reduceIte]
        rw [zipD_self]
        refine all_sameP hl hS (fun d hd => ⟨_, rfl, fun Q q => ?_⟩) h
        walk_at "dg3"
        exact ⟨d, d, rfl, .inl ⟨hy d hd, .inl rfl, q⟩⟩
  · walk_at "dg3"
    exact h
theorem same_okW {x : D} {S : Store} {P : D → Store → Prop} (hp : Plain 5 x) (h : P (.bl true) S) : sp_LsameW [x, x] S P := ⟨x, x, rfl, .inl ⟨hp, .inl rfl, h⟩⟩
/-! ### stores that grow -/
def Grown (S S' : Store) : Prop := ∀ a m, S a = some m → S' a = some m
theorem Grown.refl {S : Store} : Grown S S := fun _ _ h => h
theorem Grown.trans {S S1 S2 : Store} (h : Grown S S1) (h2 : Grown S1 S2) : Grown S S2 := fun a m e => h2 a m (h a m e)
theorem Grown.new {S : Store} {p : Addr} {m : MO} (n : S p = none) : Grown S (supd S p m) := fun a x e => by
  unfold supd
  rw [if_neg fun z => by rw [z, n] at e; cases e]; exact e
theorem Grown.ne {S : Store} {p q : Addr} {m : MO} (h : S p = some m) (n : S q = none) : p ≠ q := fun z => by rw [z, n] at h; cases h
/-! ### lists of numbers -/
/-- range(lo, hi) -/
def irg (lo hi : Int) : List Int := (List.range (hi - lo).toNat).map fun (i : Nat) => lo + (i : Int)
/-- rising, just the members of l -/
structure Srt (l ys : List Int) : Prop where
  lt : ys.Pairwise (· < ·)
  mem : ∀ k, k ∈ ys ↔ k ∈ l
/-! ### a game -/
structure Gm where
  b : Int
  w : Int
  st : Int
  sums : List Int
def Gm.top (g : Gm) : Int := g.sums.getLastD 0
def Gm.gr (g : Gm) : Int := (g.st * g.w - g.top).fdiv (g.b - 1)
def Gm.rests (g : Gm) : List Int := irg (-g.gr) (g.gr + 1)
def Gm.led (g : Gm) (a : Int) : List Int := (irg (max (-g.w) (-((g.gr - a).fdiv g.st))) (min g.w ((a + g.gr).fdiv g.st) + 1)).map fun f => a - f * g.st
/-- some figure leads to one of those held -/
def Gm.heldB (g : Gm) (H : List Int) (a : Int) : Bool := (g.led a).any fun x => decide (x ∈ H)
/-- the first sum behind which none does -/
def Gm.fatal (g : Gm) (H : List Int) (r : Int) : Option Int := g.sums.find? fun s => !g.heldB H (g.b * r + s)
def Gm.safe (g : Gm) (H : List Int) (r : Int) : Bool := (g.fatal H r).isNone
/-- the rests that go, each with its rank and its sum -/
def Gm.gone (g : Gm) (H : List Int) (k : Int) : List (Int × Int × Int) := (H.filter fun r => !g.safe H r).map fun r => (r, k, (g.fatal H r).getD 0)
def Gm.ranksN (g : Gm) : Nat → List (Int × Int × Int) → List Int → Int → List (Int × Int × Int) × List Int
  | 0, found, H, _ => (found, H)
  | n + 1, found, H, k => if H.all (g.safe H) = true then (found, H) else g.ranksN n (found ++ g.gone H k) (H.filter (g.safe H)) (k + 1)
def Gm.ranks (g : Gm) : List (Int × Int × Int) × List Int := g.ranksN (g.rests.length + 1) [] g.rests 0
/-- what is wanted of a game -/
structure GmOk (g : Gm) : Prop where
  b0 : 2 ≤ g.b
  b1 : g.b ≤ 16
  w0 : 0 ≤ g.w
  w1 : g.w ≤ 1000
  s0 : 0 < g.st
  s1 : g.st < 2 ^ 40
  ne : g.sums ≠ []
  sl : g.sums.length ≤ 2000
  sb : ∀ s ∈ g.sums, s.natAbs < 2 ^ 40
  few : 2 * g.gr + 1 ≤ 2000
/-! ### isinstance of dict, of (bool, str) -/
theorem isiG_non_dict {S : Store} {P : D → Store → Prop} : cIsi [.non, .ty "dict"] S P = P (.bl false) S := propext ⟨fun h => h.2, fun h => ⟨by decide, h⟩⟩
theorem isiG_bl_dict {k : Bool} {S : Store} {P : D → Store → Prop} : cIsi [(.bl k), .ty "dict"] S P = P (.bl false) S := propext ⟨fun h => h.2, fun h => ⟨by decide, h⟩⟩
theorem isiG_int_dict {k : Int} {S : Store} {P : D → Store → Prop} : cIsi [(.int k), .ty "dict"] S P = P (.bl false) S := propext ⟨fun h => h.2, fun h => ⟨by decide, h⟩⟩
theorem isiG_str_dict {k : Str} {S : Store} {P : D → Store → Prop} : cIsi [(.str k), .ty "dict"] S P = P (.bl false) S := propext ⟨fun h => h.2, fun h => ⟨by decide, h⟩⟩
theorem isiG_lst_dict {k : List D} {S : Store} {P : D → Store → Prop} : cIsi [(.lst k), .ty "dict"] S P = P (.bl false) S := propext ⟨fun h => h.2, fun h => ⟨by decide, h⟩⟩
theorem isiG_tup_dict {k : List D} {S : Store} {P : D → Store → Prop} : cIsi [(.tup k), .ty "dict"] S P = P (.bl false) S := propext ⟨fun h => h.2, fun h => ⟨by decide, h⟩⟩
theorem isiG_non_bs {S : Store} {P : D → Store → Prop} : cIsi [.non, .tup [.ty "bool", .ty "str"]] S P = P (.bl false) S := rfl
theorem isiG_bl_bs {k : Bool} {S : Store} {P : D → Store → Prop} : cIsi [(.bl k), .tup [.ty "bool", .ty "str"]] S P = P (.bl true) S := rfl
theorem isiG_int_bs {k : Int} {S : Store} {P : D → Store → Prop} : cIsi [(.int k), .tup [.ty "bool", .ty "str"]] S P = P (.bl false) S := rfl
theorem isiG_str_bs {k : Str} {S : Store} {P : D → Store → Prop} : cIsi [(.str k), .tup [.ty "bool", .ty "str"]] S P = P (.bl true) S := rfl
theorem isiG_lst_bs {k : List D} {S : Store} {P : D → Store → Prop} : cIsi [(.lst k), .tup [.ty "bool", .ty "str"]] S P = P (.bl false) S := rfl
theorem isiG_tup_bs {k : List D} {S : Store} {P : D → Store → Prop} : cIsi [(.tup k), .tup [.ty "bool", .ty "str"]] S P = P (.bl false) S := rfl
end Lb

namespace K14
open PySem PySem.Spec PyProof.Rows L2 DL Lb
local macro_rules | `(tactic| walk_at "dg7") => `(tactic| try simp only [dWk, weakD_tq, weakD_tup, weakD_int, weakD_non, weakD_str, weakD_bl, weakD_obj, weakD_lst, weakL_nil, weakL_cons, weakL_ints, dTupQ, cTupleQ, dTNew, dTOne, dTPut, dTGet, dTIn, dTKeys, dTItems, dFrzT, cListT, cLenT, isiG_non_dict, isiG_bl_dict, isiG_int_dict, isiG_str_dict, isiG_lst_dict, isiG_tup_dict, isiG_non_bs, isiG_bl_bs, isiG_int_bs, isiG_str_bs, isiG_lst_bs, isiG_tup_bs, dCall, dNewD, dDisp, dPrs, dkvsOf, dDGet, dDIn, dDGet1, dDGet2, dDPut, dDPop1, dDPop2, dDUpd, cLenD, cListD, cListDM, cDictD, cDictP, cSortDB, cSortL, dBack, dClear, dJoin, dLenO, dSlT, dSortIt, dItKeys, dItItems, dItVals, keyOf_int, keyOf_str, dDc, dDc2, dLstR1, dLstR2, dFld, dSetFld, dFldAdd, dMeth, dMake, dMakeK, dFld2, put_tl, dSeq, dSet, dPar, dOp, dUn, dVar, dC, dCB, dCons, dNil, dTup, dLst, dLstM, dIfS, dIf, dTest, dNot, dAnd, dOr, dAndV, dOrV, dNotV, dRet, dRetN, dEnd, dNext, dAdd, dSub, dMul, dFdiv, dMod, dPow, dNeg, dLt, dLe, dGt, dGe, dEq, dNe, eqB_ii, eqB_bb, eqB_ss, eqB_nn, eqB_ni, eqB_in, eqB_ns, eqB_sn, eqB_is, eqB_si, eqB_nb, eqB_bn, dIx, dIn, dIsN, dNotN, DL.isNon, cAbs, cMax2, cMin2, cInt, cLen, cList, cTuple, dIsB, dNotB, dPar3, ForN, LcN, pinOf, pin2, dEnum2, dAppend, supd_same0, isi_non_int, isi_non_bool, isi_non_str, isi_non_list, isi_non_tuple, isi_non_lt, isi_bl_int, isi_bl_bool, isi_bl_str, isi_bl_list, isi_bl_tuple, isi_bl_lt, isi_int_int, isi_int_bool, isi_int_str, isi_int_list, isi_int_tuple, isi_int_lt, isi_str_int, isi_str_bool, isi_str_str, isi_str_list, isi_str_tuple, isi_str_lt, isi_lst_int, isi_lst_bool, isi_lst_str, isi_lst_list, isi_lst_tuple, isi_lst_lt, isi_tup_int, isi_tup_bool, isi_tup_str, isi_tup_list, isi_tup_tuple, isi_tup_lt, dAug, dIAdd, dIMul, dDrop, dSl, dPart, dNoPart, dRevL, dCallK, dChainR, dAsg, put_nm, put_tp, put_tl, putL_nil, putL_cons, Option.bind, seqOf, lstOf, dFor, dLc, dLcM, dItSeq, dZip, dZipS, dEnum, dRng1, dRng2, dYes, dwipe, Tgt.slots, Tgt.slotsL,
  atI_0, atI_1, atI_2, atI_3, List.getElem?_cons_zero, List.getElem?_cons_succ, List.set_cons_zero, List.set_cons_succ, decide_eq_true_eq, List.length_cons, List.length_nil, List.cons_append, List.nil_append, List.append_nil, ofString_inj, String.reduceEq, decide_true, decide_false, reduceIte, Bool.false_eq_true, Bool.not_true, Bool.not_false, eqFlat, isFlat, List.any_cons, List.any_nil, List.all_cons, List.all_nil, Bool.or_false, Bool.or_true, Bool.false_or, Bool.true_or, Bool.and_true, Bool.true_and, true_and, and_true, Nat.reduceAdd, Nat.reduceLeDiff, Int.reduceLT, Int.reduceLE, Int.reduceNeg])
/-! ### promises -/
def spr_Lsame : Nat → DSp := spr_LsameW
def sp_Lsame : DSp := sp_LsameW
def sp_figures_between : DSp := sp_figures_betweenV
def sp_right_figures : DSp := sp_right_figuresV
def sp_Lmost : DSp := sp_LmostQ
def sp_Lfigures : DSp := sp_LfiguresQ
def sp_Lworth : DSp := sp_LworthQ
def sp_Lspan : DSp := sp_LspanQ
def words : List Str := ["sum", "sum", "sum", "told", "times", "over", "least", "most", "choose"]
def sp_Lchoosing : DSp := fun ds S P => ds = [] ∧ P (.lst (words.map .str)) S
def TameI : D → Prop
  | .int _ => True | .bl _ => True | .str _ => True | .non => True | _ => False
def TameE : D → Prop
  | .int _ => True | .bl _ => True | .str _ => True | .non => True | .lst _ => True
  | .tup es => es.length ≤ 100 ∧ ∀ e, e ∈ es → TameI e
  | _ => False
def isEnd : D → Bool
  | .int i => decide (i = 0 ∨ i = 1) | _ => false
def endsB (k : Nat) : D → Bool
  | .tup es => decide (es.length = k) && es.all isEnd | _ => false
theorem endsB_tup (k : Nat) (es : List D) : endsB k (.tup es) = (decide (es.length = k) && es.all isEnd) := rfl
/-- no pair of ends -/
def TameX (k : Nat) : D → Prop
  | .int _ => True | .bl _ => True | .str _ => True | .non => True | .lst _ => True
  | .tup ds => ds.length ≤ 100 ∧ (ds.length = 2 → (∀ d, d ∈ ds → TameE d) ∧ ds.all (endsB k) = false)
  | _ => False
def sp_are_ends : DSp := fun ds S P => ∃ (k : Nat) (x : D), ds = [.int k, x] ∧ TameE x ∧ P (.bl (endsB k x)) S
def sp_shows_held : DSp := fun ds S P => ∃ (b : Int) (kn : Kn) (rs : List Rw) (r : Rw) (x : D), ds = [.int b, kn.d, .lst (rs.map Rw.d), r.d, x] ∧ kn.Ok ∧ rs.length = kn.many ∧ kn.many ≤ 4 ∧ 2 ≤ b ∧ b ≤ 10 ∧ (∀ r, r ∈ rs → r.Ok b) ∧ Own b r ∧
  ((∃ o1 o2, x = .tup [intsD o1, intsD o2] ∧ o1 ∈ cor kn.many ∧ o2 ∈ cor kn.many ∧ (∀ o, o ∈ cor kn.many → Sz 2900 (atO b kn (rs.map (spanQ b)) o) ∧ Mg (atO b kn (rs.map (spanQ b)) o)) ∧
  P (.bl (decide (figsR b r (pairQ (atO b kn (rs.map (spanQ b)) o1) (atO b kn (rs.map (spanQ b)) o2)) = []))) S) ∨ (TameX kn.many x ∧ P (.bl false) S))
/-- corners in the law's order -/
def corL : Nat → List (List Int)
  | 0 => [[]]
  | 1 => [[0], [1]]
  | 2 => [[0, 0], [1, 0], [0, 1], [1, 1]]
  | _ => [[0, 0, 0], [1, 0, 0], [0, 1, 0], [1, 1, 0], [0, 0, 1], [1, 0, 1], [0, 1, 1], [1, 1, 1]]
def kq (o : List Int) : List Key := o.map Sum.inl
def tqD (o : List Int) : D := .tq (o.map .int)
def sp_Lcorners : DSp := fun ds S P => ∃ k : Nat, ds = [.int k] ∧ k ≤ 3 ∧ P (.lst ((corL k).map tqD)) S
def figO (b : Int) (kn : Kn) (rs : List Rw) (r : Rw) (o : List Int) : List Int := figsR b r (atO b kn (rs.map (spanQ b)) o, atO b kn (rs.map (spanQ b)) o)
def knownD (b : Int) (kn : Kn) (rs : List Rw) (r : Rw) (os : List (List Int)) : List (List Key × D) := os.map fun o => (kq o, .lst ((figO b kn rs r o).map .int))
def sp_Lby_corners : DSp := fun ds S P => ∃ (b : Int) (kn : Kn) (rs : List Rw) (r : Rw), ds = [.int b, kn.d, .lst (rs.map Rw.d), r.d] ∧ kn.Ok ∧ rs.length = kn.many ∧ kn.many ≤ 3 ∧ 2 ≤ b ∧ b ≤ 10 ∧ (∀ r, r ∈ rs → r.Ok b) ∧ r.Ok b ∧ r.fs.length ≤ 79 ∧
  (∀ o, o ∈ cor kn.many → Sz 2900 (atO b kn (rs.map (spanQ b)) o)) ∧ ∀ a, S a = none → P (.obj a) (supd S a (.dT (knownD b kn rs r (corL kn.many))))
def OddT (k : Nat) (x : D) : Prop := TameX k x ∧ Gd 4 60000 x
def sp_Lodd : DSp := fun ds S P => ∃ (p : Addr) (n k : Nat) (A B : List Int), ds = [.obj p, .tup [intsD A, intsD B]] ∧ BoxAt S p n ∧ n ≤ 1000000 ∧ k ≤ 3 ∧ A ∈ cor k ∧ B ∈ cor k ∧ ∀ x S', OddT k x → Dk S S' p (n + 20) → P x S'
def sp_Lright : DSp := fun ds S P => ∃ (p : Addr) (n : Nat), ds = [.obj p] ∧ BoxAt S p n ∧ n ≤ 100 ∧ ∀ S', P (.bl true) S'
/-- common(one, other): slots 0 one, 1 other -/
def rd_common : DS :=
  (dSeq (dWhile (dTest (dOp dGt (dVar 1) (dC (.int 0)))) (dPar 0 1 (dCons (dVar 1) (dCons (dOp dMod (dVar 0) (dVar 1)) dNil))))
  (dRet (dVar 0)))
def goal_common : Prop := ∀ (x0 x1 : D) (S : Store) (P : D → Store → Prop), sp_common [x0, x1] S P → rd_common (dEnd P) [some x0, some x1] S

/-- frac(top, bottom): slots 0 top, 1 bottom, 2 by -/
def rd_frac : DS :=
  (dSeq (dSet 2 (dCB sp_common (dCons (dCB cAbs (dCons (dVar 0) dNil)) (dCons (dCB cAbs (dCons (dVar 1) dNil)) dNil))))
  (dSeq (dSet 2 (dIf (dTest (dOp dGt (dVar 1) (dC (.int 0)))) (dVar 2) (dUn dNeg (dVar 2))))
  (dRet (dTup (dCons (dOp dFdiv (dVar 0) (dVar 2)) (dCons (dOp dFdiv (dVar 1) (dVar 2)) dNil))))))
def goal_frac : Prop := ∀ (x0 x1 : D) (S : Store) (P : D → Store → Prop), sp_frac [x0, x1] S P → rd_frac (dEnd P) [some x0, some x1, none] S

/-- plus(one, other): slots 0 one, 1 other -/
def rd_plus : DS :=
  (dRet (dCB sp_frac (dCons (dOp dAdd (dOp dMul (dOp dIx (dVar 0) (dC (.int 0))) (dOp dIx (dVar 1) (dC (.int 1)))) (dOp dMul (dOp dIx (dVar 1) (dC (.int 0))) (dOp dIx (dVar 0) (dC (.int 1))))) (dCons (dOp dMul (dOp dIx (dVar 0) (dC (.int 1))) (dOp dIx (dVar 1) (dC (.int 1)))) dNil))))
def goal_plus : Prop := ∀ (x0 x1 : D) (S : Store) (P : D → Store → Prop), sp_plus [x0, x1] S P → rd_plus (dEnd P) [some x0, some x1] S

/-- minus(one, other): slots 0 one, 1 other -/
def rd_minus : DS :=
  (dRet (dCB sp_frac (dCons (dOp dSub (dOp dMul (dOp dIx (dVar 0) (dC (.int 0))) (dOp dIx (dVar 1) (dC (.int 1)))) (dOp dMul (dOp dIx (dVar 1) (dC (.int 0))) (dOp dIx (dVar 0) (dC (.int 1))))) (dCons (dOp dMul (dOp dIx (dVar 0) (dC (.int 1))) (dOp dIx (dVar 1) (dC (.int 1)))) dNil))))
def goal_minus : Prop := ∀ (x0 x1 : D) (S : Store) (P : D → Store → Prop), sp_minus [x0, x1] S P → rd_minus (dEnd P) [some x0, some x1] S

/-- times(one, other): slots 0 one, 1 other -/
def rd_times : DS :=
  (dRet (dCB sp_frac (dCons (dOp dMul (dOp dIx (dVar 0) (dC (.int 0))) (dOp dIx (dVar 1) (dC (.int 0)))) (dCons (dOp dMul (dOp dIx (dVar 0) (dC (.int 1))) (dOp dIx (dVar 1) (dC (.int 1)))) dNil))))
def goal_times : Prop := ∀ (x0 x1 : D) (S : Store) (P : D → Store → Prop), sp_times [x0, x1] S P → rd_times (dEnd P) [some x0, some x1] S

/-- over(one, other): slots 0 one, 1 other -/
def rd_over : DS :=
  (dRet (dCB sp_frac (dCons (dOp dMul (dOp dIx (dVar 0) (dC (.int 0))) (dOp dIx (dVar 1) (dC (.int 1)))) (dCons (dOp dMul (dOp dIx (dVar 0) (dC (.int 1))) (dOp dIx (dVar 1) (dC (.int 0)))) dNil))))
def goal_over : Prop := ∀ (x0 x1 : D) (S : Store) (P : D → Store → Prop), sp_over [x0, x1] S P → rd_over (dEnd P) [some x0, some x1] S

/-- is_below(one, other): slots 0 one, 1 other -/
def rd_is_below : DS :=
  (dRet (dOp dLt (dOp dMul (dOp dIx (dVar 0) (dC (.int 0))) (dOp dIx (dVar 1) (dC (.int 1)))) (dOp dMul (dOp dIx (dVar 1) (dC (.int 0))) (dOp dIx (dVar 0) (dC (.int 1))))))
def goal_is_below : Prop := ∀ (x0 x1 : D) (S : Store) (P : D → Store → Prop), sp_is_below [x0, x1] S P → rd_is_below (dEnd P) [some x0, some x1] S

/-- lesser(one, other): slots 0 one, 1 other -/
def rd_lesser : DS :=
  (dRet (dIf (dTest (dCB sp_is_below (dCons (dVar 1) (dCons (dVar 0) dNil)))) (dVar 1) (dVar 0)))
def goal_lesser : Prop := ∀ (x0 x1 : D) (S : Store) (P : D → Store → Prop), sp_lesser [x0, x1] S P → rd_lesser (dEnd P) [some x0, some x1] S

/-- greater(one, other): slots 0 one, 1 other -/
def rd_greater : DS :=
  (dRet (dIf (dTest (dCB sp_is_below (dCons (dVar 0) (dCons (dVar 1) dNil)))) (dVar 1) (dVar 0)))
def goal_greater : Prop := ∀ (x0 x1 : D) (S : Store) (P : D → Store → Prop), sp_greater [x0, x1] S P → rd_greater (dEnd P) [some x0, some x1] S

/-- power(base, many): slots 0 base, 1 many, 2 found, 3 turn -/
def rd_power : DS :=
  (dSeq (dSet 2 (dC (.int 1)))
  (dSeq (dFor (dRng1 (dCons (dCB cAbs (dCons (dVar 1) dNil)) dNil)) (.nm 3) (dAug 2 dIMul (dVar 0)))
  (dRet (dIf (dTest (dOp dGe (dVar 1) (dC (.int 0)))) (dTup (dCons (dVar 2) (dCons (dC (.int 1)) dNil))) (dTup (dCons (dC (.int 1)) (dCons (dVar 2) dNil)))))))
def goal_power : Prop := ∀ (x0 x1 : D) (S : Store) (P : D → Store → Prop), sp_power [x0, x1] S P → rd_power (dEnd P) [some x0, some x1, none, none] S

/-- known_to(row): slots 0 row, 1 begin, 2 most, 3 figures -/
def rd_known_to : DS :=
  (dSeq (dAsg (.tp [(.nm 1), (.nm 2), (.nm 3)]) (dVar 0))
  (dRet (dOp dSub (dCB cLen (dCons (dVar 3) dNil)) (dVar 1))))
def goal_known_to : Prop := ∀ (x0 : D) (S : Store) (P : D → Store → Prop), sp_known_to [x0] S P → rd_known_to (dEnd P) [some x0, none, none, none] S

/-- whole_of(base, figures): slots 0 base, 1 figures, 2 found, 3 figure -/
def rd_whole_of : DS :=
  (dSeq (dSet 2 (dC (.int 0)))
  (dSeq (dFor (dItSeq (dVar 1)) (.nm 3) (dSet 2 (dOp dAdd (dOp dMul (dVar 2) (dVar 0)) (dVar 3))))
  (dRet (dVar 2))))
def goal_whole_of : Prop := ∀ (x0 x1 : D) (S : Store) (P : D → Store → Prop), sp_whole_of [x0, x1] S P → rd_whole_of (dEnd P) [some x0, some x1, none, none] S

/-- worth_of(base, row): slots 0 base, 1 row -/
def rd_worth_of : DS :=
  (dRet (dCB sp_times (dCons (dTup (dCons (dCB sp_whole_of (dCons (dVar 0) (dCons (dOp dIx (dVar 1) (dC (.int 2))) dNil))) (dCons (dC (.int 1)) dNil))) (dCons (dCB sp_power (dCons (dVar 0) (dCons (dUn dNeg (dCB sp_known_to (dCons (dVar 1) dNil))) dNil))) dNil))))
def goal_worth_of : Prop := ∀ (x0 x1 : D) (S : Store) (P : D → Store → Prop), sp_worth_of [x0, x1] S P → rd_worth_of (dEnd P) [some x0, some x1] S

/-- tail_of(base, row): slots 0 base, 1 row -/
def rd_tail_of : DS :=
  (dRet (dCB sp_times (dCons (dCB sp_frac (dCons (dOp dIx (dVar 1) (dC (.int 1))) (dCons (dOp dSub (dVar 0) (dC (.int 1))) dNil))) (dCons (dCB sp_power (dCons (dVar 0) (dCons (dUn dNeg (dCB sp_known_to (dCons (dVar 1) dNil))) dNil))) dNil))))
def goal_tail_of : Prop := ∀ (x0 x1 : D) (S : Store) (P : D → Store → Prop), sp_tail_of [x0, x1] S P → rd_tail_of (dEnd P) [some x0, some x1] S

/-- span_of(base, row): slots 0 base, 1 row, 2 worth, 3 tail -/
def rd_span_of : DS :=
  (dSeq (dPar 2 3 (dCons (dCB sp_worth_of (dCons (dVar 0) (dCons (dVar 1) dNil))) (dCons (dCB sp_tail_of (dCons (dVar 0) (dCons (dVar 1) dNil))) dNil)))
  (dRet (dTup (dCons (dCB sp_minus (dCons (dVar 2) (dCons (dVar 3) dNil))) (dCons (dCB sp_plus (dCons (dVar 2) (dCons (dVar 3) dNil))) dNil)))))
def goal_span_of : Prop := ∀ (x0 x1 : D) (S : Store) (P : D → Store → Prop), sp_span_of [x0, x1] S P → rd_span_of (dEnd P) [some x0, some x1, none, none] S

/-- many_of(kind): slots 0 kind, 1 word -/
def rd_many_of : DS :=
  (dSeq (dSet 1 (dOp dIx (dVar 0) (dC (.int 0))))
  (dSeq (dIfS (dTest (dOp (dIn false) (dVar 1) (dTup (dCons (dC (.str "sum")) (dCons (dC (.str "loose")) dNil))))) (dRet (dCB cLen (dCons (dOp dIx (dVar 0) (dC (.int 1))) dNil))) dNext)
  (dRet (dKGet [("times", 2), ("least", 2), ("most", 2), ("choose", 3)] ["sum", "loose", "moved", "told", "times", "over", "least", "most", "choose"] (dVar 1) (dDispGet [("moved", 1), ("over", 2)] (dVar 1) (dC (.int 0)))))))
def goal_many_of : Prop := ∀ (x0 : D) (S : Store) (P : D → Store → Prop), sp_many_of [x0] S P → rd_many_of (dEnd P) [some x0, none] S

/-- weighed(weights, numbers, by): slots 0 weights, 1 numbers, 2 by, 3 found, 4 weight, 5 number -/
def rd_weighed : DS :=
  (dSeq (dSet 3 (dC (.tup [(.int 0), (.int 1)])))
  (dSeq (dFor (dZipS (dCons (dVar 0) (dCons (dVar 1) dNil))) (.tp [(.nm 4), (.nm 5)]) (dSet 3 (dCB sp_plus (dCons (dVar 3) (dCons (dCB sp_times (dCons (dTup (dCons (dVar 4) (dCons (dC (.int 1)) dNil))) (dCons (dVar 5) dNil))) dNil)))))
  (dRet (dCB sp_over (dCons (dVar 3) (dCons (dTup (dCons (dVar 2) (dCons (dC (.int 1)) dNil))) dNil))))))
def goal_weighed : Prop := ∀ (x0 x1 x2 : D) (S : Store) (P : D → Store → Prop), sp_weighed [x0, x1, x2] S P → rd_weighed (dEnd P) [some x0, some x1, some x2, none, none, none] S

/-- applied(base, kind, numbers): slots 0 base, 1 kind, 2 numbers, 3 word, 4 one, 5 other -/
def rd_applied : DS :=
  (dSeq (dSet 3 (dOp dIx (dVar 1) (dC (.int 0))))
  (dSeq (dIfS (dTest (dOp dEq (dVar 3) (dC (.str "sum")))) (dRet (dCB sp_weighed (dCons (dOp dIx (dVar 1) (dC (.int 1))) (dCons (dVar 2) (dCons (dOp dIx (dVar 1) (dC (.int 2))) dNil))))) dNext)
  (dSeq (dIfS (dTest (dOp dEq (dVar 3) (dC (.str "loose")))) (dRet (dCB sp_weighed (dCons (dOp dIx (dVar 1) (dC (.int 1))) (dCons (dVar 2) (dCons (dC (.int 1)) dNil))))) dNext)
  (dSeq (dIfS (dTest (dOp dEq (dVar 3) (dC (.str "moved")))) (dRet (dCB sp_times (dCons (dOp dIx (dVar 2) (dC (.int 0))) (dCons (dCB sp_power (dCons (dVar 0) (dCons (dOp dIx (dVar 1) (dC (.int 1))) dNil))) dNil)))) dNext)
  (dSeq (dIfS (dTest (dOp dEq (dVar 3) (dC (.str "told")))) (dRet (dOp dIx (dVar 1) (dC (.int 1)))) dNext)
  (dSeq (dIfS (dTest (dOp dEq (dVar 3) (dC (.str "choose")))) (dRet (dIf (dTest (dOp dLt (dOp dIx (dOp dIx (dVar 2) (dC (.int 0))) (dC (.int 0))) (dC (.int 0)))) (dOp dIx (dVar 2) (dC (.int 2))) (dOp dIx (dVar 2) (dC (.int 1))))) dNext)
  (dSeq (dAsg (.tp [(.nm 4), (.nm 5)]) (dVar 2))
  (dSeq (dIfS (dTest (dOp dEq (dVar 3) (dC (.str "times")))) (dRet (dCB sp_times (dCons (dVar 4) (dCons (dVar 5) dNil)))) dNext)
  (dSeq (dIfS (dTest (dOp dEq (dVar 3) (dC (.str "over")))) (dRet (dCB sp_over (dCons (dVar 4) (dCons (dCB sp_greater (dCons (dVar 5) (dCons (dCB sp_power (dCons (dVar 0) (dCons (dUn dNeg (dOp dIx (dVar 1) (dC (.int 1)))) dNil))) dNil))) dNil)))) dNext)
  (dRet (dIf (dTest (dOp dEq (dVar 3) (dC (.str "least")))) (dCB sp_lesser (dCons (dVar 4) (dCons (dVar 5) dNil))) (dCB sp_greater (dCons (dVar 4) (dCons (dVar 5) dNil))))))))))))))
def goal_applied : Prop := ∀ (x0 x1 x2 : D) (S : Store) (P : D → Store → Prop), sp_applied [x0, x1, x2] S P → rd_applied (dEnd P) [some x0, some x1, some x2, none, none, none] S

/-- corners_of(many): slots 0 many, 1 found, 2 turn, 3 one, 4 end -/
def rd_corners_of : DS :=
  (dSeq (dSet 1 (dLst (dCons (dTup dNil) dNil)))
  (dSeq (dFor (dRng1 (dCons (dVar 0) dNil)) (.nm 2) (dSet 1 (dLc2 (dItSeq (dVar 1)) (.nm 3) dYes (dItSeq (dTup (dCons (dC (.int 0)) (dCons (dC (.int 1)) dNil)))) (.nm 4) dYes (dOp dAdd (dVar 3) (dTup (dCons (dVar 4) dNil))))))
  (dRet (dVar 1))))
def goal_corners_of : Prop := ∀ (x0 : D) (S : Store) (P : D → Store → Prop), sp_corners_of [x0] S P → rd_corners_of (dEnd P) [some x0, none, none, none, none] S

/-- numbers_at(spans, ends): slots 0 spans, 1 ends, 2 span, 3 end -/
def rd_numbers_at : DS :=
  (dRet (dLc (dZipS (dCons (dVar 0) (dCons (dVar 1) dNil))) (.tp [(.nm 2), (.nm 3)]) dYes (dOp dIx (dVar 2) (dVar 3))))
def goal_numbers_at : Prop := ∀ (x0 x1 : D) (S : Store) (P : D → Store → Prop), sp_numbers_at [x0, x1] S P → rd_numbers_at (dEnd P) [some x0, some x1, none, none] S

/-- reach_of(base, kind, rows): slots 0 base, 1 kind, 2 rows, 3 spans, 4 row, 5 some, 6 ends, 7 least, 8 most, 9 one -/
def rd_reach_of : DS :=
  (dSeq (dSet 3 (dLc (dItSeq (dVar 2)) (.nm 4) dYes (dCB sp_span_of (dCons (dVar 0) (dCons (dVar 4) dNil)))))
  (dSeq (dSet 5 (dLc (dItSeq (dCB sp_corners_of (dCons (dCB cLen (dCons (dVar 3) dNil)) dNil))) (.nm 6) dYes (dCB sp_applied (dCons (dVar 0) (dCons (dVar 1) (dCons (dCB sp_numbers_at (dCons (dVar 3) (dCons (dVar 6) dNil))) dNil))))))
  (dSeq (dPar 7 8 (dCons (dOp dIx (dVar 5) (dC (.int 0))) (dCons (dOp dIx (dVar 5) (dC (.int 0))) dNil)))
  (dSeq (dFor (dItSeq (dVar 5)) (.nm 9) (dPar 7 8 (dCons (dCB sp_lesser (dCons (dVar 7) (dCons (dVar 9) dNil))) (dCons (dCB sp_greater (dCons (dVar 8) (dCons (dVar 9) dNil))) dNil))))
  (dRet (dTup (dCons (dVar 7) (dCons (dVar 8) dNil))))))))
def goal_reach_of : Prop := ∀ (x0 x1 x2 : D) (S : Store) (P : D → Store → Prop), sp_reach_of [x0, x1, x2] S P → rd_reach_of (dEnd P) [some x0, some x1, some x2, none, none, none, none, none, none, none] S

/-- raised(number): slots 0 number -/
def rd_raised : DS :=
  (dRet (dUn dNeg (dOp dFdiv (dUn dNeg (dOp dIx (dVar 0) (dC (.int 0)))) (dOp dIx (dVar 0) (dC (.int 1))))))
def goal_raised : Prop := ∀ (x0 : D) (S : Store) (P : D → Store → Prop), sp_raised [x0] S P → rd_raised (dEnd P) [some x0] S

/-- figures_between(base, own, least, most): slots 0 base, 1 own, 2 least, 3 most, 4 begin, 5 top, 6 figures, 7 scale, 8 spread, 9 ahead, 10 low, 11 high -/
def rd_figures_between : DS :=
  (dSeq (dAsg (.tp [(.nm 4), (.nm 5), (.nm 6)]) (dVar 1))
  (dSeq (dSet 7 (dCB sp_power (dCons (dVar 0) (dCons (dOp dAdd (dCB sp_known_to (dCons (dVar 1) dNil)) (dC (.int 1))) dNil))))
  (dSeq (dPar 8 9 (dCons (dCB sp_frac (dCons (dVar 5) (dCons (dOp dSub (dVar 0) (dC (.int 1))) dNil))) (dCons (dCB sp_worth_of (dCons (dVar 0) (dCons (dVar 1) dNil))) dNil)))
  (dSeq (dSet 10 (dCB sp_raised (dCons (dCB sp_minus (dCons (dCB sp_times (dCons (dCB sp_minus (dCons (dVar 3) (dCons (dVar 9) dNil))) (dCons (dVar 7) dNil))) (dCons (dVar 8) dNil))) dNil)))
  (dSeq (dSet 11 (dCB sp_plus (dCons (dCB sp_times (dCons (dCB sp_minus (dCons (dVar 2) (dCons (dVar 9) dNil))) (dCons (dVar 7) dNil))) (dCons (dVar 8) dNil))))
  (dRet (dLstR2 (dCB cMax2 (dCons (dVar 10) (dCons (dUn dNeg (dVar 5)) dNil))) (dOp dAdd (dCB cMin2 (dCons (dOp dFdiv (dOp dIx (dVar 11) (dC (.int 0))) (dOp dIx (dVar 11) (dC (.int 1)))) (dCons (dVar 5) dNil))) (dC (.int 1))))))))))
def goal_figures_between : Prop := ∀ (x0 x1 x2 x3 : D) (S : Store) (P : D → Store → Prop), sp_figures_between [x0, x1, x2, x3] S P → rd_figures_between (dEnd P) [some x0, some x1, some x2, some x3, none, none, none, none, none, none, none, none] S

/-- right_figures(base, kind, rows, own): slots 0 base, 1 kind, 2 rows, 3 own, 4 least, 5 most -/
def rd_right_figures : DS :=
  (dSeq (dAsg (.tp [(.nm 4), (.nm 5)]) (dCB sp_reach_of (dCons (dVar 0) (dCons (dVar 1) (dCons (dVar 2) dNil)))))
  (dRet (dCB sp_figures_between (dCons (dVar 0) (dCons (dVar 3) (dCons (dVar 4) (dCons (dVar 5) dNil)))))))
def goal_right_figures : Prop := ∀ (x0 x1 x2 x3 : D) (S : Store) (P : D → Store → Prop), sp_right_figures [x0, x1, x2, x3] S P → rd_right_figures (dEnd P) [some x0, some x1, some x2, some x3, none, none] S

/-- number_at(base, kind, rows, ends): slots 0 base, 1 kind, 2 rows, 3 ends, 4 row -/
def rd_number_at : DS :=
  (dRet (dCB sp_applied (dCons (dVar 0) (dCons (dVar 1) (dCons (dCB sp_numbers_at (dCons (dLc (dItSeq (dVar 2)) (.nm 4) dYes (dCB sp_span_of (dCons (dVar 0) (dCons (dVar 4) dNil)))) (dCons (dVar 3) dNil))) dNil)))))
def goal_number_at : Prop := ∀ (x0 x1 x2 x3 : D) (S : Store) (P : D → Store → Prop), sp_number_at [x0, x1, x2, x3] S P → rd_number_at (dEnd P) [some x0, some x1, some x2, some x3, none] S

/-- ends_of(base, kind, rows): slots 0 base, 1 kind, 2 rows, 3 some, 4 low, 5 high, 6 ends, 7 number -/
def rd_ends_of_1 : DS :=
  (dSeq (dSet 7 (dCB sp_number_at (dCons (dVar 0) (dCons (dVar 1) (dCons (dVar 2) (dCons (dVar 6) dNil))))))
  (dSeq (dSet 4 (dIf (dTest (dCB sp_is_below (dCons (dVar 7) (dCons (dCB sp_number_at (dCons (dVar 0) (dCons (dVar 1) (dCons (dVar 2) (dCons (dVar 4) dNil))))) dNil)))) (dVar 6) (dVar 4)))
  (dSet 5 (dIf (dTest (dCB sp_is_below (dCons (dCB sp_number_at (dCons (dVar 0) (dCons (dVar 1) (dCons (dVar 2) (dCons (dVar 5) dNil))))) (dCons (dVar 7) dNil)))) (dVar 6) (dVar 5)))))
def rd_ends_of : DS :=
  (dSeq (dSet 3 (dCB sp_corners_of (dCons (dCB sp_many_of (dCons (dVar 1) dNil)) dNil)))
  (dSeq (dPar 4 5 (dCons (dOp dIx (dVar 3) (dC (.int 0))) (dCons (dOp dIx (dVar 3) (dC (.int 0))) dNil)))
  (dSeq (dFor (dItSeq (dVar 3)) (.nm 6) rd_ends_of_1)
  (dRet (dTup (dCons (dVar 4) (dCons (dVar 5) dNil)))))))
def goal_ends_of : Prop := ∀ (x0 x1 x2 : D) (S : Store) (P : D → Store → Prop), sp_ends_of [x0, x1, x2] S P → rd_ends_of (dEnd P) [some x0, some x1, some x2, none, none, none, none, none] S

/-- held_by(base, kind, rows, own): slots 0 base, 1 kind, 2 rows, 3 own -/
def rd_held_by : DS :=
  (dRet (dIf (dTest (dOp dGt (dCB cLen (dCons (dCB sp_right_figures (dCons (dVar 0) (dCons (dVar 1) (dCons (dVar 2) (dCons (dVar 3) dNil))))) dNil)) (dC (.int 0)))) (dC .non) (dCB sp_ends_of (dCons (dVar 0) (dCons (dVar 1) (dCons (dVar 2) dNil))))))
def goal_held_by : Prop := ∀ (x0 x1 x2 x3 : D) (S : Store) (P : D → Store → Prop), sp_held_by [x0, x1, x2, x3] S P → rd_held_by (dEnd P) [some x0, some x1, some x2, some x3] S

/-- are_ends(many, thing): slots 0 many, 1 thing, 2 end -/
def rd_are_ends : DS :=
  (dSeq (dIfS (dOr (dNot (dTest (dCB cIsi (dCons (dVar 1) (dCons (dC (.ty "tuple")) dNil))))) (dTest (dOp dNe (dCB cLen (dCons (dVar 1) dNil)) (dVar 0)))) (dRet (dC (.bl false))) dNext)
  (dRet (dCB cAll (dCons (dLc (dItSeq (dVar 1)) (.nm 2) dYes (dAndV (dCB cIsi (dCons (dVar 2) (dCons (dC (.ty "int")) dNil))) (dAndV (dNotV (dCB cIsi (dCons (dVar 2) (dCons (dC (.ty "bool")) dNil)))) (dOp (dIn false) (dVar 2) (dTup (dCons (dC (.int 0)) (dCons (dC (.int 1)) dNil))))))) dNil))))
def goal_are_ends : Prop := ∀ (x0 x1 : D) (S : Store) (P : D → Store → Prop), sp_are_ends [x0, x1] S P → rd_are_ends (dEnd P) [some x0, some x1, none] S

/-- shows_held(base, kind, rows, own, thing): slots 0 base, 1 kind, 2 rows, 3 own, 4 thing, 5 ends, 6 one, 7 other, 8 least, 9 most -/
def rd_shows_held : DS :=
  (dSeq (dIfS (dOr (dNot (dTest (dCB cIsi (dCons (dVar 4) (dCons (dC (.ty "tuple")) dNil))))) (dTest (dOp dNe (dCB cLen (dCons (dVar 4) dNil)) (dC (.int 2))))) (dRet (dC (.bl false))) dNext)
  (dSeq (dIfS (dNot (dTest (dCB cAll (dCons (dLc (dItSeq (dVar 4)) (.nm 5) dYes (dCB sp_are_ends (dCons (dCB sp_many_of (dCons (dVar 1) dNil)) (dCons (dVar 5) dNil)))) dNil)))) (dRet (dC (.bl false))) dNext)
  (dSeq (dAsg (.tp [(.nm 6), (.nm 7)]) (dLc (dItSeq (dVar 4)) (.nm 5) dYes (dCB sp_number_at (dCons (dVar 0) (dCons (dVar 1) (dCons (dVar 2) (dCons (dVar 5) dNil)))))))
  (dSeq (dAsg (.tp [(.nm 8), (.nm 9)]) (dIf (dTest (dCB sp_is_below (dCons (dVar 7) (dCons (dVar 6) dNil)))) (dTup (dCons (dVar 7) (dCons (dVar 6) dNil))) (dTup (dCons (dVar 6) (dCons (dVar 7) dNil)))))
  (dRet (dOp dEq (dCB sp_figures_between (dCons (dVar 0) (dCons (dVar 3) (dCons (dVar 8) (dCons (dVar 9) dNil))))) (dLst dNil)))))))
def goal_shows_held : Prop := ∀ (x0 x1 x2 x3 x4 : D) (S : Store) (P : D → Store → Prop), sp_shows_held [x0, x1, x2, x3, x4] S P → rd_shows_held (dEnd P) [some x0, some x1, some x2, some x3, some x4, none, none, none, none, none] S

/-- _law_cell_at(_law_script, _law_k): slots 0 _law_script, 1 _law_k -/
def rd_Lcell_at : DS :=
  (dSeq (dIfS (dTest (dOp dLt (dVar 1) (dCB cLen (dCons (dVar 0) dNil)))) (dRet (dOp dIx (dVar 0) (dVar 1))) dNext)
  (dRet (dC (.int 0))))
def goal_Lcell_at : Prop := ∀ (x0 x1 : D) (S : Store) (P : D → Store → Prop), sp_Lcell_at [x0, x1] S P → rd_Lcell_at (dEnd P) [some x0, some x1] S

/-- _law_box(_law_script, _law_k): slots 0 _law_script, 1 _law_k, 2 _law_core -/
def rd_Lbox : DS :=
  (dSeq (dSet 2 (dCB sp_Lcell_at (dCons (dVar 0) (dCons (dVar 1) dNil))))
  (dRet (dLstM (dCons (dOp dMul (dCB cAbs (dCons (dVar 2) dNil)) (dCB cInt (dCons (dOp dGe (dCB cAbs (dCons (dVar 2) dNil)) (dOp dPow (dC (.int 10)) (dC (.int 18)))) dNil))) (dCons (dOp dAdd (dOp dAdd (dOp dMod (dVar 2) (dC (.int 2305843009213693951))) (dOp dMul (dC (.int 39373)) (dVar 1))) (dC (.int 17))) (dCons (dC (.int 0)) dNil))))))
def goal_Lbox : Prop := ∀ (x0 x1 : D) (S : Store) (P : D → Store → Prop), sp_Lbox [x0, x1] S P → rd_Lbox (dEnd P) [some x0, some x1, none] S

/-- _law_take(_law_box_here, _law_size): slots 0 _law_box_here, 1 _law_size, 2 _law_found, 3 _law_once, 4 _law_twice -/
def rd_Ltake : DS :=
  (dSeq (dIfS (dTest (dOp dGt (dOp dIx (dVar 0) (dC (.int 0))) (dC (.int 0)))) (dSeq (dSet 2 (dOp dMod (dOp dIx (dVar 0) (dC (.int 0))) (dVar 1)))
  (dSeq (dSetIx (dOp dFdiv (dOp dIx (dVar 0) (dC (.int 0))) (dVar 1)) (dVar 0) (dC (.int 0)))
  (dRet (dVar 2)))) dNext)
  (dSeq (dSetIx (dOp dAdd (dOp dIx (dVar 0) (dC (.int 2))) (dC (.int 1))) (dVar 0) (dC (.int 2)))
  (dSeq (dSet 3 (dOp dMod (dOp dMul (dOp dAdd (dOp dIx (dVar 0) (dC (.int 1))) (dOp dMul (dC (.int 48271)) (dOp dIx (dVar 0) (dC (.int 2))))) (dOp dAdd (dC (.int 39373)) (dOp dIx (dVar 0) (dC (.int 2))))) (dC (.int 2147483647))))
  (dSeq (dSet 4 (dOp dMod (dOp dMul (dOp dAdd (dOp dAdd (dVar 3) (dOp dIx (dVar 0) (dC (.int 2)))) (dOp dFdiv (dOp dIx (dVar 0) (dC (.int 1))) (dC (.int 1000003)))) (dOp dAdd (dOp dMod (dVar 3) (dC (.int 40009))) (dC (.int 7)))) (dC (.int 2147483629))))
  (dRet (dOp dMod (dOp dFdiv (dOp dMod (dOp dAdd (dOp dMul (dVar 4) (dC (.int 48271))) (dVar 3)) (dC (.int 2147483587))) (dC (.int 64))) (dVar 1)))))))
def goal_Ltake : Prop := ∀ (x0 x1 : D) (S : Store) (P : D → Store → Prop), sp_Ltake [x0, x1] S P → rd_Ltake (dEnd P) [some x0, some x1, none, none, none] S

/-- _law_of(_law_box_here, _law_some): slots 0 _law_box_here, 1 _law_some -/
def rd_Lof : DS :=
  (dRet (dOp dIx (dVar 1) (dCB sp_Ltake (dCons (dVar 0) (dCons (dCB cLen (dCons (dVar 1) dNil)) dNil)))))
def goal_Lof : Prop := ∀ (x0 x1 : D) (S : Store) (P : D → Store → Prop), sp_Lof [x0, x1] S P → rd_Lof (dEnd P) [some x0, some x1] S

/-- _law_same(_law_found, _law_due): slots 0 _law_found, 1 _law_due, 2 _law_key, 3 _law_one, 4 _law_two -/
def rd_Lsame (sp_Lsame : DSp) : DS :=
  (dSeq (dIfS (dTest (dCB cIsi (dCons (dVar 1) (dCons (dC (.ty "dict")) dNil)))) dNever dNext)
  (dSeq (dIfS (dTest (dCB cIsi (dCons (dVar 1) (dCons (dTup (dCons (dC (.ty "list")) (dCons (dC (.ty "tuple")) dNil))) dNil)))) (dSeq (dIfS (dOr (dTest (dOp dNe (dCB cIsi (dCons (dVar 0) (dCons (dC (.ty "list")) dNil))) (dCB cIsi (dCons (dVar 1) (dCons (dC (.ty "list")) dNil))))) (dTest (dOp dNe (dCB cIsi (dCons (dVar 0) (dCons (dC (.ty "tuple")) dNil))) (dCB cIsi (dCons (dVar 1) (dCons (dC (.ty "tuple")) dNil)))))) (dRet (dC (.bl false))) dNext)
  (dRet (dAndV (dOp dEq (dCB cLen (dCons (dVar 0) dNil)) (dCB cLen (dCons (dVar 1) dNil))) (dCB cAll (dCons (dLc (dZip (dCons (dVar 0) (dCons (dVar 1) dNil))) (.tp [(.nm 3), (.nm 4)]) dYes (dCB sp_Lsame (dCons (dVar 3) (dCons (dVar 4) dNil)))) dNil))))) dNext)
  (dSeq (dIfS (dOr (dTest (dOp dIsN (dVar 1) (dC .non))) (dTest (dCB cIsi (dCons (dVar 1) (dCons (dTup (dCons (dC (.ty "bool")) (dCons (dC (.ty "str")) dNil))) dNil))))) (dRet (dAndV (dOp dEq (dVar 0) (dVar 1)) (dAndV (dOp dEq (dCB cIsi (dCons (dVar 0) (dCons (dC (.ty "bool")) dNil))) (dCB cIsi (dCons (dVar 1) (dCons (dC (.ty "bool")) dNil)))) (dOp dEq (dOp dIsN (dVar 0) (dC .non)) (dOp dIsN (dVar 1) (dC .non)))))) dNext)
  (dRet (dAndV (dCB cIsi (dCons (dVar 0) (dCons (dC (.ty "int")) dNil))) (dAndV (dNotV (dCB cIsi (dCons (dVar 0) (dCons (dC (.ty "bool")) dNil)))) (dOp dEq (dVar 0) (dVar 1))))))))
def goal_Lsame : Prop := ∀ (n : Nat) (x0 x1 : D) (S : Store) (P : D → Store → Prop), spr_Lsame (n + 1) [x0, x1] S P → rd_Lsame (spr_Lsame n) (dEnd P) [some x0, some x1, none, none, none] S

/-- _law_base(_law_box_here): slots 0 _law_box_here -/
def rd_Lbase : DS :=
  (dRet (dCB sp_Lof (dCons (dVar 0) (dCons (dLst (dCons (dC (.int 2)) (dCons (dC (.int 2)) (dCons (dC (.int 3)) (dCons (dC (.int 4)) (dCons (dC (.int 5)) (dCons (dC (.int 10)) dNil))))))) dNil))))
def goal_Lbase : Prop := ∀ (x0 : D) (S : Store) (P : D → Store → Prop), sp_Lbase [x0] S P → rd_Lbase (dEnd P) [some x0] S

/-- _law_most(_law_box_here, _law_base_here): slots 0 _law_box_here, 1 _law_base_here -/
def rd_Lmost : DS :=
  (dRet (dCB sp_Lof (dCons (dVar 0) (dCons (dLst (dCons (dOp dFdiv (dOp dAdd (dVar 1) (dC (.int 1))) (dC (.int 2))) (dCons (dOp dSub (dVar 1) (dC (.int 1))) (dCons (dVar 1) (dCons (dOp dAdd (dOp dFdiv (dOp dAdd (dVar 1) (dC (.int 1))) (dC (.int 2))) (dCB sp_Ltake (dCons (dVar 0) (dCons (dVar 1) dNil)))) dNil))))) dNil))))
def goal_Lmost : Prop := ∀ (x0 x1 : D) (S : Store) (P : D → Store → Prop), sp_Lmost [x0, x1] S P → rd_Lmost (dEnd P) [some x0, some x1] S

/-- _law_figures(_law_box_here, _law_most_here, _law_many_here): slots 0 _law_box_here, 1 _law_most_here, 2 _law_many_here, 3 _law_way, 4 _law_some, 5 _law_k, 6 _law_any_one -/
def rd_Lfigures_1 : DS :=
  (dSeq (dSet 6 (dOp dSub (dCB sp_Ltake (dCons (dVar 0) (dCons (dOp dAdd (dOp dMul (dC (.int 2)) (dVar 1)) (dC (.int 1))) dNil))) (dVar 1)))
  (dDrop (dAppend (dVar 4) (dOp dIx (dLst (dCons (dVar 6) (dCons (dVar 6) (dCons (dOp dIx (dLst (dCons (dVar 1) (dCons (dOp dSub (dC (.int 0)) (dVar 1)) dNil))) (dOp dMod (dVar 6) (dC (.int 2)))) (dCons (dC (.int 0)) dNil))))) (dIf (dTest (dOp dGt (dCB sp_Ltake (dCons (dVar 0) (dCons (dC (.int 5)) dNil))) (dC (.int 0)))) (dVar 3) (dC (.int 0)))))))
def rd_Lfigures : DS :=
  (dSeq (dSet 3 (dCB sp_Ltake (dCons (dVar 0) (dCons (dC (.int 4)) dNil))))
  (dSeq (dSet 4 (dLstM dNil))
  (dSeq (dFor (dRng1 (dCons (dVar 2) dNil)) (.nm 5) rd_Lfigures_1)
  (dRet (dCB cTuple (dCons (dVar 4) dNil))))))
def goal_Lfigures : Prop := ∀ (x0 x1 x2 : D) (S : Store) (P : D → Store → Prop), sp_Lfigures [x0, x1, x2] S P → rd_Lfigures (dEnd P) [some x0, some x1, some x2, none, none, none, none] S

/-- _law_row(_law_box_here, _law_base_here, _law_many_here): slots 0 _law_box_here, 1 _law_base_here, 2 _law_many_here, 3 _law_most_here -/
def rd_Lrow : DS :=
  (dSeq (dSet 3 (dCB sp_Lmost (dCons (dVar 0) (dCons (dVar 1) dNil))))
  (dRet (dTup (dCons (dOp dSub (dCB sp_Ltake (dCons (dVar 0) (dCons (dC (.int 6)) dNil))) (dC (.int 2))) (dCons (dVar 3) (dCons (dCB sp_Lfigures (dCons (dVar 0) (dCons (dVar 3) (dCons (dCB sp_Ltake (dCons (dVar 0) (dCons (dOp dAdd (dVar 2) (dC (.int 1))) dNil))) dNil)))) dNil))))))
def goal_Lrow : Prop := ∀ (x0 x1 x2 : D) (S : Store) (P : D → Store → Prop), sp_Lrow [x0, x1, x2] S P → rd_Lrow (dEnd P) [some x0, some x1, some x2, none] S

/-- _law_frac(_law_top, _law_under): slots 0 _law_top, 1 _law_under, 2 _law_big, 3 _law_small, 4 _law_sign -/
def rd_Lfrac : DS :=
  (dSeq (dPar 2 3 (dCons (dCB cAbs (dCons (dVar 0) dNil)) (dCons (dCB cAbs (dCons (dVar 1) dNil)) dNil)))
  (dSeq (dWhile (dTest (dOp dGt (dVar 3) (dC (.int 0)))) (dPar 2 3 (dCons (dVar 3) (dCons (dOp dMod (dVar 2) (dVar 3)) dNil))))
  (dSeq (dSet 4 (dIf (dTest (dOp dGt (dVar 1) (dC (.int 0)))) (dC (.int 1)) (dUn dNeg (dC (.int 1)))))
  (dRet (dTup (dCons (dOp dFdiv (dOp dMul (dVar 4) (dVar 0)) (dVar 2)) (dCons (dOp dFdiv (dCB cAbs (dCons (dVar 1) dNil)) (dVar 2)) dNil)))))))
def goal_Lfrac : Prop := ∀ (x0 x1 : D) (S : Store) (P : D → Store → Prop), sp_Lfrac [x0, x1] S P → rd_Lfrac (dEnd P) [some x0, some x1, none, none, none] S

/-- _law_plus(_law_one, _law_other): slots 0 _law_one, 1 _law_other -/
def rd_Lplus : DS :=
  (dRet (dCB sp_Lfrac (dCons (dOp dAdd (dOp dMul (dOp dIx (dVar 0) (dC (.int 0))) (dOp dIx (dVar 1) (dC (.int 1)))) (dOp dMul (dOp dIx (dVar 1) (dC (.int 0))) (dOp dIx (dVar 0) (dC (.int 1))))) (dCons (dOp dMul (dOp dIx (dVar 0) (dC (.int 1))) (dOp dIx (dVar 1) (dC (.int 1)))) dNil))))
def goal_Lplus : Prop := ∀ (x0 x1 : D) (S : Store) (P : D → Store → Prop), sp_Lplus [x0, x1] S P → rd_Lplus (dEnd P) [some x0, some x1] S

/-- _law_less(_law_one, _law_other): slots 0 _law_one, 1 _law_other -/
def rd_Lless : DS :=
  (dRet (dCB sp_Lfrac (dCons (dOp dSub (dOp dMul (dOp dIx (dVar 0) (dC (.int 0))) (dOp dIx (dVar 1) (dC (.int 1)))) (dOp dMul (dOp dIx (dVar 1) (dC (.int 0))) (dOp dIx (dVar 0) (dC (.int 1))))) (dCons (dOp dMul (dOp dIx (dVar 0) (dC (.int 1))) (dOp dIx (dVar 1) (dC (.int 1)))) dNil))))
def goal_Lless : Prop := ∀ (x0 x1 : D) (S : Store) (P : D → Store → Prop), sp_Lless [x0, x1] S P → rd_Lless (dEnd P) [some x0, some x1] S

/-- _law_times(_law_one, _law_other): slots 0 _law_one, 1 _law_other -/
def rd_Ltimes : DS :=
  (dRet (dCB sp_Lfrac (dCons (dOp dMul (dOp dIx (dVar 0) (dC (.int 0))) (dOp dIx (dVar 1) (dC (.int 0)))) (dCons (dOp dMul (dOp dIx (dVar 0) (dC (.int 1))) (dOp dIx (dVar 1) (dC (.int 1)))) dNil))))
def goal_Ltimes : Prop := ∀ (x0 x1 : D) (S : Store) (P : D → Store → Prop), sp_Ltimes [x0, x1] S P → rd_Ltimes (dEnd P) [some x0, some x1] S

/-- _law_below(_law_one, _law_other): slots 0 _law_one, 1 _law_other -/
def rd_Lbelow : DS :=
  (dRet (dOp dLt (dOp dMul (dOp dIx (dVar 0) (dC (.int 0))) (dOp dIx (dVar 1) (dC (.int 1)))) (dOp dMul (dOp dIx (dVar 1) (dC (.int 0))) (dOp dIx (dVar 0) (dC (.int 1))))))
def goal_Lbelow : Prop := ∀ (x0 x1 : D) (S : Store) (P : D → Store → Prop), sp_Lbelow [x0, x1] S P → rd_Lbelow (dEnd P) [some x0, some x1] S

/-- _law_power(_law_base_here, _law_size): slots 0 _law_base_here, 1 _law_size, 2 _law_found, 3 _law_turn -/
def rd_Lpower : DS :=
  (dSeq (dSet 2 (dC (.int 1)))
  (dSeq (dFor (dRng1 (dCons (dCB cAbs (dCons (dVar 1) dNil)) dNil)) (.nm 3) (dSet 2 (dOp dMul (dVar 2) (dVar 0))))
  (dRet (dIf (dTest (dOp dGe (dVar 1) (dC (.int 0)))) (dTup (dCons (dVar 2) (dCons (dC (.int 1)) dNil))) (dTup (dCons (dC (.int 1)) (dCons (dVar 2) dNil)))))))
def goal_Lpower : Prop := ∀ (x0 x1 : D) (S : Store) (P : D → Store → Prop), sp_Lpower [x0, x1] S P → rd_Lpower (dEnd P) [some x0, some x1, none, none] S

/-- _law_worth(_law_base_here, _law_row_here): slots 0 _law_base_here, 1 _law_row_here, 2 _law_found, 3 _law_k, 4 _law_figure -/
def rd_Lworth : DS :=
  (dSeq (dSet 2 (dTup (dCons (dC (.int 0)) (dCons (dC (.int 1)) dNil))))
  (dSeq (dFor (dEnum (dCons (dOp dIx (dVar 1) (dC (.int 2))) dNil)) (.tp [(.nm 3), (.nm 4)]) (dSet 2 (dCB sp_Lplus (dCons (dVar 2) (dCons (dCB sp_Ltimes (dCons (dTup (dCons (dVar 4) (dCons (dC (.int 1)) dNil))) (dCons (dCB sp_Lpower (dCons (dVar 0) (dCons (dOp dSub (dOp dSub (dOp dIx (dVar 1) (dC (.int 0))) (dC (.int 1))) (dVar 3)) dNil))) dNil))) dNil)))))
  (dRet (dVar 2))))
def goal_Lworth : Prop := ∀ (x0 x1 : D) (S : Store) (P : D → Store → Prop), sp_Lworth [x0, x1] S P → rd_Lworth (dEnd P) [some x0, some x1, none, none, none] S

/-- _law_span(_law_base_here, _law_row_here): slots 0 _law_base_here, 1 _law_row_here, 2 _law_off, 3 _law_mid -/
def rd_Lspan : DS :=
  (dSeq (dSet 2 (dCB sp_Ltimes (dCons (dCB sp_Lfrac (dCons (dOp dIx (dVar 1) (dC (.int 1))) (dCons (dOp dSub (dVar 0) (dC (.int 1))) dNil))) (dCons (dCB sp_Lpower (dCons (dVar 0) (dCons (dOp dSub (dOp dIx (dVar 1) (dC (.int 0))) (dCB cLen (dCons (dOp dIx (dVar 1) (dC (.int 2))) dNil))) dNil))) dNil))))
  (dSeq (dSet 3 (dCB sp_Lworth (dCons (dVar 0) (dCons (dVar 1) dNil))))
  (dRet (dTup (dCons (dCB sp_Lless (dCons (dVar 3) (dCons (dVar 2) dNil))) (dCons (dCB sp_Lplus (dCons (dVar 3) (dCons (dVar 2) dNil))) dNil))))))
def goal_Lspan : Prop := ∀ (x0 x1 : D) (S : Store) (P : D → Store → Prop), sp_Lspan [x0, x1] S P → rd_Lspan (dEnd P) [some x0, some x1, none, none] S

/-- _law_over(_law_one, _law_other): slots 0 _law_one, 1 _law_other -/
def rd_Lover : DS :=
  (dRet (dCB sp_Lfrac (dCons (dOp dMul (dOp dIx (dVar 0) (dC (.int 0))) (dOp dIx (dVar 1) (dC (.int 1)))) (dCons (dOp dMul (dOp dIx (dVar 0) (dC (.int 1))) (dOp dIx (dVar 1) (dC (.int 0)))) dNil))))
def goal_Lover : Prop := ∀ (x0 x1 : D) (S : Store) (P : D → Store → Prop), sp_Lover [x0, x1] S P → rd_Lover (dEnd P) [some x0, some x1] S

/-- _law_kind(_law_box_here, _law_words): slots 0 _law_box_here, 1 _law_words, 2 _law_word, 3 _law_sizes, 4 _law_turn, 5 _law_weights, 6 _law_size -/
def rd_Lkind : DS :=
  (dSeq (dSet 2 (dCB sp_Lof (dCons (dVar 0) (dCons (dVar 1) dNil))))
  (dSeq (dIfS (dTest (dOp (dIn false) (dVar 2) (dTup (dCons (dC (.str "sum")) (dCons (dC (.str "loose")) dNil))))) (dSeq (dSet 3 (dLc (dRng1 (dCons (dOp dAdd (dC (.int 1)) (dCB sp_Ltake (dCons (dVar 0) (dCons (dC (.int 3)) dNil)))) dNil)) (.nm 4) dYes (dIf (dTest (dOp dEq (dVar 2) (dC (.str "sum")))) (dOp dIx (dLst (dCons (dC (.int 1)) (dCons (dC (.int 2)) (dCons (dC (.int 3)) (dCons (dC (.int 9)) dNil))))) (dCB sp_Ltake (dCons (dVar 0) (dCons (dC (.int 4)) dNil)))) (dC (.int 1)))))
  (dSeq (dSet 5 (dCB cTuple (dCons (dLc (dItSeq (dVar 3)) (.nm 6) dYes (dOp dMul (dVar 6) (dOp dIx (dLst (dCons (dC (.int 1)) (dCons (dUn dNeg (dC (.int 1))) dNil))) (dCB sp_Ltake (dCons (dVar 0) (dCons (dC (.int 2)) dNil)))))) dNil)))
  (dRet (dIf (dTest (dOp dEq (dVar 2) (dC (.str "sum")))) (dTup (dCons (dVar 2) (dCons (dVar 5) (dCons (dCB sp_Lof (dCons (dVar 0) (dCons (dLst (dCons (dC (.int 1)) (dCons (dC (.int 1)) (dCons (dC (.int 2)) (dCons (dC (.int 3)) (dCons (dC (.int 10)) (dCons (dC (.int 1000)) dNil))))))) dNil))) dNil)))) (dTup (dCons (dVar 2) (dCons (dVar 5) dNil))))))) dNext)
  (dSeq (dIfS (dTest (dOp dEq (dVar 2) (dC (.str "moved")))) (dRet (dTup (dCons (dVar 2) (dCons (dOp dSub (dCB sp_Ltake (dCons (dVar 0) (dCons (dC (.int 9)) dNil))) (dC (.int 4))) dNil)))) dNext)
  (dSeq (dIfS (dTest (dOp dEq (dVar 2) (dC (.str "told")))) (dRet (dTup (dCons (dVar 2) (dCons (dCB sp_Lfrac (dCons (dOp dSub (dCB sp_Ltake (dCons (dVar 0) (dCons (dC (.int 41)) dNil))) (dC (.int 20))) (dCons (dOp dAdd (dC (.int 1)) (dCB sp_Ltake (dCons (dVar 0) (dCons (dC (.int 9)) dNil)))) dNil))) dNil)))) dNext)
  (dRet (dIf (dTest (dOp dEq (dVar 2) (dC (.str "over")))) (dTup (dCons (dVar 2) (dCons (dCB sp_Ltake (dCons (dVar 0) (dCons (dC (.int 4)) dNil))) dNil))) (dTup (dCons (dVar 2) dNil))))))))
def goal_Lkind : Prop := ∀ (x0 x1 : D) (S : Store) (P : D → Store → Prop), sp_Lkind [x0, x1] S P → rd_Lkind (dEnd P) [some x0, some x1, none, none, none, none, none] S

/-- _law_many(_law_kind_here): slots 0 _law_kind_here -/
def rd_Lmany : DS :=
  (dSeq (dIfS (dTest (dOp (dIn false) (dOp dIx (dVar 0) (dC (.int 0))) (dTup (dCons (dC (.str "sum")) (dCons (dC (.str "loose")) dNil))))) (dRet (dCB cLen (dCons (dOp dIx (dVar 0) (dC (.int 1))) dNil))) dNext)
  (dRet (dDispGet [("told", 0), ("moved", 1), ("choose", 3)] (dOp dIx (dVar 0) (dC (.int 0))) (dC (.int 2)))))
def goal_Lmany : Prop := ∀ (x0 : D) (S : Store) (P : D → Store → Prop), sp_Lmany [x0] S P → rd_Lmany (dEnd P) [some x0] S

/-- _law_came(_law_base_here, _law_kind_here, _law_some): slots 0 _law_base_here, 1 _law_kind_here, 2 _law_some, 3 _law_word, 4 _law_total, 5 _law_weight, 6 _law_one, 7 _law_other, 8 _law_clip -/
def rd_Lcame : DS :=
  (dSeq (dSet 3 (dOp dIx (dVar 1) (dC (.int 0))))
  (dSeq (dIfS (dTest (dOp (dIn false) (dVar 3) (dTup (dCons (dC (.str "sum")) (dCons (dC (.str "loose")) dNil))))) (dSeq (dSet 4 (dTup (dCons (dC (.int 0)) (dCons (dC (.int 1)) dNil))))
  (dSeq (dFor (dZip (dCons (dOp dIx (dVar 1) (dC (.int 1))) (dCons (dVar 2) dNil))) (.tp [(.nm 5), (.nm 6)]) (dSet 4 (dCB sp_Lplus (dCons (dVar 4) (dCons (dCB sp_Ltimes (dCons (dTup (dCons (dVar 5) (dCons (dC (.int 1)) dNil))) (dCons (dVar 6) dNil))) dNil)))))
  (dRet (dIf (dTest (dOp dEq (dVar 3) (dC (.str "sum")))) (dCB sp_Lover (dCons (dVar 4) (dCons (dTup (dCons (dOp dIx (dVar 1) (dC (.int 2))) (dCons (dC (.int 1)) dNil))) dNil))) (dVar 4))))) dNext)
  (dSeq (dIfS (dTest (dOp dEq (dVar 3) (dC (.str "told")))) (dRet (dOp dIx (dVar 1) (dC (.int 1)))) dNext)
  (dSeq (dIfS (dTest (dOp dEq (dVar 3) (dC (.str "moved")))) (dRet (dCB sp_Ltimes (dCons (dOp dIx (dVar 2) (dC (.int 0))) (dCons (dCB sp_Lpower (dCons (dVar 0) (dCons (dOp dIx (dVar 1) (dC (.int 1))) dNil))) dNil)))) dNext)
  (dSeq (dIfS (dTest (dOp dEq (dVar 3) (dC (.str "choose")))) (dRet (dIf (dTest (dOp dGe (dOp dIx (dOp dIx (dVar 2) (dC (.int 0))) (dC (.int 0))) (dC (.int 0)))) (dOp dIx (dVar 2) (dC (.int 1))) (dOp dIx (dVar 2) (dC (.int 2))))) dNext)
  (dSeq (dAsg (.tp [(.nm 6), (.nm 7)]) (dVar 2))
  (dSeq (dIfS (dTest (dOp dEq (dVar 3) (dC (.str "over")))) (dSeq (dSet 8 (dCB sp_Lpower (dCons (dVar 0) (dCons (dUn dNeg (dOp dIx (dVar 1) (dC (.int 1)))) dNil))))
  (dRet (dCB sp_Lover (dCons (dVar 6) (dCons (dIf (dTest (dCB sp_Lbelow (dCons (dVar 7) (dCons (dVar 8) dNil)))) (dVar 8) (dVar 7)) dNil))))) dNext)
  (dSeq (dIfS (dTest (dOp dEq (dVar 3) (dC (.str "times")))) (dRet (dCB sp_Ltimes (dCons (dVar 6) (dCons (dVar 7) dNil)))) dNext)
  (dRet (dIf (dTest (dOp dEq (dCB sp_Lbelow (dCons (dVar 6) (dCons (dVar 7) dNil))) (dOp dEq (dVar 3) (dC (.str "least"))))) (dVar 6) (dVar 7)))))))))))
def goal_Lcame : Prop := ∀ (x0 x1 x2 : D) (S : Store) (P : D → Store → Prop), sp_Lcame [x0, x1, x2] S P → rd_Lcame (dEnd P) [some x0, some x1, some x2, none, none, none, none, none, none] S

/-- _law_sources(_law_box_here, _law_base_here, _law_kind_here, _law_many_here): slots 0 _law_box_here, 1 _law_base_here, 2 _law_kind_here, 3 _law_many_here, 4 _law_turn -/
def rd_Lsources : DS :=
  (dRet (dLc (dRng1 (dCons (dCB sp_Lmany (dCons (dVar 2) dNil)) dNil)) (.nm 4) dYes (dCB sp_Lrow (dCons (dVar 0) (dCons (dVar 1) (dCons (dVar 3) dNil))))))
def goal_Lsources : Prop := ∀ (x0 x1 x2 x3 : D) (S : Store) (P : D → Store → Prop), sp_Lsources [x0, x1, x2, x3] S P → rd_Lsources (dEnd P) [some x0, some x1, some x2, some x3, none] S

/-- _law_choosing(): slots 0 _law_some -/
def rd_Lchoosing : DS :=
  (dSeq (dSet 0 (dLst (dCons (dC (.str "sum")) (dCons (dC (.str "sum")) (dCons (dC (.str "sum")) (dCons (dC (.str "told")) (dCons (dC (.str "times")) dNil)))))))
  (dRet (dOp dAdd (dVar 0) (dLst (dCons (dC (.str "over")) (dCons (dC (.str "least")) (dCons (dC (.str "most")) (dCons (dC (.str "choose")) dNil))))))))
def goal_Lchoosing : Prop := ∀ (S : Store) (P : D → Store → Prop), sp_Lchoosing [] S P → rd_Lchoosing (dEnd P) [none] S

/-- _law_holds(_law_base_here, _law_row_here, _law_pair): slots 0 _law_base_here, 1 _law_row_here, 2 _law_pair, 3 _law_span_here -/
def rd_Lholds : DS :=
  (dSeq (dSet 3 (dCB sp_Lspan (dCons (dVar 0) (dCons (dVar 1) dNil))))
  (dRet (dAndV (dNotV (dCB sp_Lbelow (dCons (dOp dIx (dVar 2) (dC (.int 0))) (dCons (dOp dIx (dVar 3) (dC (.int 0))) dNil)))) (dNotV (dCB sp_Lbelow (dCons (dOp dIx (dVar 3) (dC (.int 1))) (dCons (dOp dIx (dVar 2) (dC (.int 1))) dNil)))))))
def goal_Lholds : Prop := ∀ (x0 x1 x2 : D) (S : Store) (P : D → Store → Prop), sp_Lholds [x0, x1, x2] S P → rd_Lholds (dEnd P) [some x0, some x1, some x2, none] S

/-- _law_figures_right(_law_base_here, _law_pair, _law_own): slots 0 _law_base_here, 1 _law_pair, 2 _law_own, 3 _law_begin, 4 _law_most_here, 5 _law_given, 6 _law_some, 7 _law_one -/
def rd_Lfigures_right : DS :=
  (dSeq (dAsg (.tp [(.nm 3), (.nm 4), (.nm 5)]) (dVar 2))
  (dSeq (dSet 6 (dLstR2 (dUn dNeg (dVar 4)) (dOp dAdd (dVar 4) (dC (.int 1)))))
  (dRet (dLc (dItSeq (dVar 6)) (.nm 7) (dTest (dCB sp_Lholds (dCons (dVar 0) (dCons (dTup (dCons (dVar 3) (dCons (dVar 4) (dCons (dOp dAdd (dVar 5) (dTup (dCons (dVar 7) dNil))) dNil)))) (dCons (dVar 1) dNil))))) (dVar 7)))))
def goal_Lfigures_right : Prop := ∀ (x0 x1 x2 : D) (S : Store) (P : D → Store → Prop), sp_Lfigures_right [x0, x1, x2] S P → rd_Lfigures_right (dEnd P) [some x0, some x1, some x2, none, none, none, none, none] S

/-- _law_corners(_law_many_here): slots 0 _law_many_here, 1 _law_at, 2 _law_step -/
def rd_Lcorners : DS :=
  (dRet (dLc (dRng1 (dCons (dOp dIx (dLst (dCons (dC (.int 1)) (dCons (dC (.int 2)) (dCons (dC (.int 4)) (dCons (dC (.int 8)) dNil))))) (dVar 0)) dNil)) (.nm 1) dYes (dCB cTupleQ (dCons (dLc (dItSeq (dSl (dTup (dCons (dC (.int 1)) (dCons (dC (.int 2)) (dCons (dC (.int 4)) dNil)))) dNoPart (dPart (dVar 0)))) (.nm 2) dYes (dOp dMod (dOp dFdiv (dVar 1) (dVar 2)) (dC (.int 2)))) dNil))))
def goal_Lcorners : Prop := ∀ (x0 : D) (S : Store) (P : D → Store → Prop), sp_Lcorners [x0] S P → rd_Lcorners (dEnd P) [some x0, none, none] S

/-- _law_by_corners(_law_base_here, _law_kind_here, _law_rows, _law_own): slots 0 _law_base_here, 1 _law_kind_here, 2 _law_rows, 3 _law_own, 4 _law_found, 5 _law_ends, 6 _law_one, 7 _law_row_here, 8 _law_end -/
def rd_Lby_corners : DS :=
  (dSeq (dSet 4 dTNew)
  (dSeq (dFor (dItSeq (dCB sp_Lcorners (dCons (dCB cLen (dCons (dVar 2) dNil)) dNil))) (.nm 5) (dSeq (dSet 6 (dCB sp_Lcame (dCons (dVar 0) (dCons (dVar 1) (dCons (dLc (dZip (dCons (dVar 2) (dCons (dWk (dVar 5)) dNil))) (.tp [(.nm 7), (.nm 8)]) dYes (dOp dIx (dCB sp_Lspan (dCons (dVar 0) (dCons (dVar 7) dNil))) (dVar 8))) dNil)))))
  (dTPut (dVar 4) (dVar 5) (dCB sp_Lfigures_right (dCons (dVar 0) (dCons (dTup (dCons (dVar 6) (dCons (dVar 6) dNil))) (dCons (dVar 3) dNil)))))))
  (dRet (dVar 4))))
def goal_Lby_corners : Prop := ∀ (x0 x1 x2 x3 : D) (S : Store) (P : D → Store → Prop), sp_Lby_corners [x0, x1, x2, x3] S P → rd_Lby_corners (dEnd P) [some x0, some x1, some x2, some x3, none, none, none, none, none] S

/-- _law_odd(_law_box_here, _law_pair): slots 0 _law_box_here, 1 _law_pair, 2 _law_way, 3 _law_at, 4 _law_some, 5 _law_few, 6 _law_end -/
def rd_Lodd_1 : DS :=
  (dRet (dOp dIx (dOp dAdd (dVar 4) (dLst (dCons (dC .non) (dCons (dTup dNil) (dCons (dLst dNil) (dCons (dC (.bl true)) (dCons (dC (.str "")) (dCons (dTup (dCons (dTup dNil) dNil)) (dCons (dTup (dCons (dC (.int 0)) (dCons (dC (.int 1)) dNil))) dNil))))))))) (dIf (dTest (dOp dLt (dVar 2) (dC (.int 7)))) (dVar 2) (dOp dAdd (dC (.int 7)) (dCB sp_Ltake (dCons (dVar 0) (dCons (dC (.int 7)) dNil)))))))
def rd_Lodd_2 : DS :=
  (dSeq (dDrop (dAppend (dVar 4) (dOp dAdd (dOp dAdd (dSl (dVar 1) dNoPart (dPart (dVar 3))) (dTup (dCons (dIf (dTest (dOp dNe (dVar 5) (dTup dNil))) (dVar 5) (dTup (dCons (dC .non) dNil))) dNil))) (dSl (dVar 1) (dPart (dOp dAdd (dVar 3) (dC (.int 1)))) dNoPart))))
  rd_Lodd_1)
def rd_Lodd_3 : DS :=
  (dSeq (dSet 5 (dCB cTuple (dCons (dLc (dItSeq (dOp dIx (dVar 1) (dVar 3))) (.nm 6) dYes (dOp dIx (dLst (dCons (dOp dEq (dVar 6) (dC (.int 1))) (dCons (dC (.int 2)) (dCons (dUn dNeg (dC (.int 1))) (dCons (dC (.str "0")) (dCons (dC .non) dNil)))))) (dCB sp_Ltake (dCons (dVar 0) (dCons (dC (.int 5)) dNil))))) dNil)))
  rd_Lodd_2)
def rd_Lodd_4 : DS :=
  (dSeq (dDrop (dAppend (dVar 4) (dOp dAdd (dOp dAdd (dSl (dVar 1) dNoPart (dPart (dVar 3))) (dTup (dCons (dIf (dTest (dOp dNe (dOp dIx (dVar 1) (dVar 3)) (dTup dNil))) (dSl (dOp dIx (dVar 1) (dVar 3)) dNoPart (dPart (dUn dNeg (dC (.int 1))))) (dTup (dCons (dC (.int 1)) dNil))) dNil))) (dSl (dVar 1) (dPart (dOp dAdd (dVar 3) (dC (.int 1)))) dNoPart))))
  rd_Lodd_3)
def rd_Lodd_5 : DS :=
  (dSeq (dDrop (dAppend (dVar 4) (dOp dAdd (dOp dAdd (dSl (dVar 1) dNoPart (dPart (dVar 3))) (dTup (dCons (dOp dAdd (dOp dIx (dVar 1) (dVar 3)) (dTup (dCons (dC (.int 0)) dNil))) dNil))) (dSl (dVar 1) (dPart (dOp dAdd (dVar 3) (dC (.int 1)))) dNoPart))))
  rd_Lodd_4)
def rd_Lodd : DS :=
  (dSeq (dPar 2 3 (dCons (dCB sp_Ltake (dCons (dVar 0) (dCons (dC (.int 9)) dNil))) (dCons (dCB sp_Ltake (dCons (dVar 0) (dCons (dC (.int 2)) dNil))) dNil)))
  (dSeq (dSet 4 (dLstM (dCons (dCB cList (dCons (dVar 1) dNil)) (dCons (dSl (dVar 1) dNoPart (dPart (dC (.int 1)))) (dCons (dOp dAdd (dVar 1) (dSl (dVar 1) dNoPart (dPart (dC (.int 1))))) (dCons (dOp dAdd (dOp dAdd (dSl (dVar 1) dNoPart (dPart (dVar 3))) (dTup (dCons (dCB cList (dCons (dOp dIx (dVar 1) (dVar 3)) dNil)) dNil))) (dSl (dVar 1) (dPart (dOp dAdd (dVar 3) (dC (.int 1)))) dNoPart)) dNil))))))
  rd_Lodd_5))
def goal_Lodd : Prop := ∀ (x0 x1 : D) (S : Store) (P : D → Store → Prop), sp_Lodd [x0, x1] S P → rd_Lodd (dEnd P) [some x0, some x1, none, none, none, none, none] S

/-- _law_right(_law_box_here): slots 0 _law_box_here, 1 _law_base_here, 2 _law_turn, 3 _law_kind_here, 4 _law_rows, 5 _law_most_here, 6 _law_own, 7 _law_known, 8 _law_told, 9 _law_one, 10 _law_other, 11 _law_due, 12 _law_figure, 13 _law_again, 14 _law_pair, 15 _law_odd_here, 16 _law_kept -/
def rd_Lright_1 : DS :=
  (dSeq (dIfS (dNot (dTest (dCB sp_Lsame (dCons (dCB sp_shows_held (dCons (dVar 1) (dCons (dVar 3) (dCons (dVar 4) (dCons (dVar 6) (dCons (dWk (dTup (dCons (dVar 9) (dCons (dVar 10) dNil)))) dNil)))))) (dCons (dVar 11) dNil))))) (dRet (dC (.bl false))) dNext)
  (dDrop (dAppend (dVar 8) (dVar 11))))
def rd_Lright_2 : DS :=
  (dSeq (dSet 14 (dWk (dTup (dCons (dCB sp_Lof (dCons (dVar 0) (dCons (dCB cListT (dCons (dVar 7) dNil)) dNil))) (dCons (dCB sp_Lof (dCons (dVar 0) (dCons (dCB cListT (dCons (dVar 7) dNil)) dNil))) dNil)))))
  (dSeq (dSet 15 (dCB sp_Lodd (dCons (dVar 0) (dCons (dVar 14) dNil))))
  (dSeq (dSet 16 (dCB cRepr (dCons (dVar 15) dNil)))
  (dIfS (dOr (dTest (dOp dNotB (dCB sp_shows_held (dCons (dVar 1) (dCons (dVar 3) (dCons (dVar 4) (dCons (dVar 6) (dCons (dVar 15) dNil)))))) (dC (.bl false)))) (dTest (dOp dNe (dCB cRepr (dCons (dVar 15) dNil)) (dVar 16)))) (dRet (dC (.bl false))) dNext))))
def rd_Lright_3 : DS :=
  (dFor (dRng1 (dCons (dC (.int 8)) dNil)) (.nm 13) rd_Lright_2)
def rd_Lright_4 : DS :=
  (dSeq (dFor (dTKeys (dFrzT (dVar 7))) (.nm 9) (dFor (dTKeys (dFrzT (dVar 7))) (.nm 10) (dSeq (dSet 11 (dOp dEq (dLc (dItSeq (dOp dTGet (dVar 7) (dVar 9))) (.nm 12) (dTest (dOp (dIn false) (dVar 12) (dOp dTGet (dVar 7) (dVar 10)))) (dVar 12)) (dLst dNil)))
  rd_Lright_1)))
  (dSeq (dIfS (dTest (dOp dNe (dCB cAny (dCons (dVar 8) dNil)) (dOp dNotN (dCB sp_held_by (dCons (dVar 1) (dCons (dVar 3) (dCons (dVar 4) (dCons (dVar 6) dNil))))) (dC .non)))) (dRet (dC (.bl false))) dNext)
  rd_Lright_3))
def rd_Lright_5 : DS :=
  (dSeq (dSet 3 (dCB sp_Lkind (dCons (dVar 0) (dCons (dCB sp_Lchoosing dNil) dNil))))
  (dSeq (dPar 4 5 (dCons (dCB sp_Lsources (dCons (dVar 0) (dCons (dVar 1) (dCons (dVar 3) (dCons (dC (.int 5)) dNil))))) (dCons (dCB sp_Lmost (dCons (dVar 0) (dCons (dVar 1) dNil))) dNil)))
  (dSeq (dSet 6 (dTup (dCons (dCB sp_Ltake (dCons (dVar 0) (dCons (dC (.int 5)) dNil))) (dCons (dVar 5) (dCons (dCB sp_Lfigures (dCons (dVar 0) (dCons (dVar 5) (dCons (dCB sp_Ltake (dCons (dVar 0) (dCons (dC (.int 4)) dNil))) dNil)))) dNil)))))
  (dSeq (dAsg (.tp [(.nm 7), (.nm 8)]) (dTup (dCons (dCB sp_Lby_corners (dCons (dVar 1) (dCons (dVar 3) (dCons (dVar 4) (dCons (dVar 6) dNil))))) (dCons (dLstM dNil) dNil))))
  rd_Lright_4))))
def rd_Lright : DS :=
  (dSeq (dSet 1 (dCB sp_Lbase (dCons (dVar 0) dNil)))
  (dSeq (dFor (dRng1 (dCons (dC (.int 6)) dNil)) (.nm 2) rd_Lright_5)
  (dRet (dC (.bl true)))))
def goal_Lright : Prop := ∀ (x0 : D) (S : Store) (P : D → Store → Prop), sp_Lright [x0] S P → rd_Lright (dEnd P) [some x0, none, none, none, none, none, none, none, none, none, none, none, none, none, none, none, none] S

/-- law(_law_script): slots 0 _law_script, 1 _law_k -/
def rd_law : DS :=
  (dRet (dCB cAll (dCons (dLc (dRng1 (dCons (dOp dAdd (dC (.int 1)) (dCB cMin2 (dCons (dC (.int 2)) (dCons (dCB cLen (dCons (dVar 0) dNil)) dNil)))) dNil)) (.nm 1) dYes (dCB sp_Lright (dCons (dCB sp_Lbox (dCons (dVar 0) (dCons (dVar 1) dNil))) dNil))) dNil)))
def goal_law : Prop := ∀ (x0 : D) (S : Store) (P : D → Store → Prop), sp_law [x0] S P → rd_law (dEnd P) [some x0, none] S

theorem z_Lsame : ∀ ds S P, spr_Lsame 0 ds S P → False := z_LsameW
theorem len_Lsame : ∀ n ds S P, spr_Lsame n ds S P → ds.length = 2 := len_LsameW
theorem vc_Lsame : goal_Lsame := vc_LsameW
theorem len_figures_between : ∀ ds S P, sp_figures_between ds S P → ds.length = 4 := len_figures_betweenV
theorem vc_figures_between : goal_figures_between := vc_figures_betweenV
theorem len_right_figures : ∀ ds S P, sp_right_figures ds S P → ds.length = 4 := len_right_figuresV
theorem vc_right_figures : goal_right_figures := vc_right_figuresV
theorem len_Lmost : ∀ ds S P, sp_Lmost ds S P → ds.length = 2 := len_LmostQ
theorem vc_Lmost : goal_Lmost := vc_LmostQ
theorem len_Lfigures : ∀ ds S P, sp_Lfigures ds S P → ds.length = 3 := len_LfiguresQ
theorem vc_Lfigures : goal_Lfigures := vc_LfiguresQ
theorem len_Lworth : ∀ ds S P, sp_Lworth ds S P → ds.length = 2 := len_LworthQ
theorem vc_Lworth : goal_Lworth := vc_LworthQ
theorem len_Lspan : ∀ ds S P, sp_Lspan ds S P → ds.length = 2 := len_LspanQ
theorem vc_Lspan : goal_Lspan := vc_LspanQ
theorem len_Lchoosing : ∀ ds S P, sp_Lchoosing ds S P → ds.length = 0 := by rintro ds S P ⟨rfl, _⟩; rfl
theorem len_are_ends : ∀ ds S P, sp_are_ends ds S P → ds.length = 2 := by rintro ds S P ⟨a, b, rfl, _⟩; rfl
theorem len_shows_held : ∀ ds S P, sp_shows_held ds S P → ds.length = 5 := by rintro ds S P ⟨a, b, c, d, e, rfl, _⟩; rfl
theorem len_Lcorners : ∀ ds S P, sp_Lcorners ds S P → ds.length = 1 := by rintro ds S P ⟨a, rfl, _⟩; rfl
theorem len_Lby_corners : ∀ ds S P, sp_Lby_corners ds S P → ds.length = 4 := by rintro ds S P ⟨a, b, c, d, rfl, _⟩; rfl
theorem len_Lodd : ∀ ds S P, sp_Lodd ds S P → ds.length = 2 := by rintro ds S P ⟨a, b, c, d, e, rfl, _⟩; rfl
theorem len_Lright : ∀ ds S P, sp_Lright ds S P → ds.length = 1 := by rintro ds S P ⟨a, b, rfl, _⟩; rfl
theorem len_law : ∀ ds S P, sp_law ds S P → ds.length = 1 := law_len
theorem vc_Lchoosing : goal_Lchoosing := by
  rintro S P ⟨_, h⟩
  unfold rd_Lchoosing
  walk_at "dg7"
  exact h
/-! ### the program's two -/
theorem vc_are_ends : goal_are_ends := by
  rintro x0 x1 S P ⟨k, x, e, ht, h⟩
  cases e
  unfold rd_are_ends
  cases x1 with
  | obj _ => cases ht
  | ext _ => cases ht
  | ty _ => cases ht
  | tq _ => cases ht
  | tup es =>
    obtain ⟨hl, hd⟩ := ht
    walk_at "dg7"
    by_cases c : es.length = k
    · have c' : (es.length : Int) = (k : Int) := by omega
      simp only [c', decide_true, Bool.not_true, Bool.false_eq_true, reduceIte]
      refine all_bools isEnd (by omega) (fun d hm => ⟨_, rfl, fun Q q => ?_⟩) ?_
      · have := hd d hm
        cases d with
        | obj _ => cases this
        | ext _ => cases this
        | ty _ => cases this
        | tq _ => cases this
        | lst _ => cases this
        | tup _ => cases this
        | int i =>
          walk_at "dg7"
          have e : (decide (0 = i) || decide (1 = i)) = isEnd (.int i) := by
            unfold isEnd
            rw [Bool.eq_iff_iff]
            simp only [Bool.or_eq_true, decide_eq_true_eq]
            omega
          rw [e]
          exact q
        | _ => walk_at "dg7"; exact q
      · have e : endsB k (.tup es) = es.all isEnd := by rw [endsB_tup, decide_eq_true c, Bool.true_and]
        rw [e] at h
        exact h
    · have c' : ¬ (es.length : Int) = (k : Int) := by omega
      have e : endsB k (.tup es) = false := by rw [endsB_tup, decide_eq_false c, Bool.false_and]
      rw [e] at h
      simp only [c', decide_false, Bool.not_false, reduceIte]
      exact h
  | _ => walk_at "dg7"; exact h
theorem endsB_cor {k : Nat} {o : List Int} (h : o ∈ cor k) : endsB k (intsD o) = true := by
  obtain ⟨l, p⟩ := mem_cor.mp h
  unfold intsD
  rw [endsB_tup, List.length_map, decide_eq_true l, Bool.true_and, List.all_eq_true]
  intro x hx
  obtain ⟨i, hi, rfl⟩ := List.mem_map.mp hx
  exact decide_eq_true (p i hi)
theorem tame_cor {k : Nat} {o : List Int} (h : o ∈ cor k) (hk : k ≤ 4) : TameE (intsD o) := by
  obtain ⟨l, p⟩ := mem_cor.mp h
  refine ⟨by rw [List.length_map]; omega, fun e he => ?_⟩
  obtain ⟨i, hi, rfl⟩ := List.mem_map.mp he
  trivial
theorem vc_shows_held : goal_shows_held := by
  rintro x0 x1 x2 x3 x4 S P ⟨b, kn, rs, r, x, e, hk, hl, m4, b0, b1, hrs, hr, h⟩
  cases e
  unfold rd_shows_held
  rcases h with ⟨o1, o2, rfl, h1, h2, hz, h⟩ | ⟨ht, h⟩
  · walk_at "dg7"
    rw [if_neg (by decide)]
    have e2 : [intsD o1, intsD o2] = [o1, o2].map intsD := rfl
    rw [e2]
    refine lc_mapA intsD (fun _ => .bl true) (by simp) (fun o ho => ⟨_, rfl, fun Q q => ?_⟩) ?_
    · have hoc : o ∈ cor kn.many := by
        simp only [List.mem_cons, List.not_mem_nil, or_false] at ho
        rcases ho with rfl | rfl
        · exact h1
        · exact h2
      walk_at "dg7"
      refine ⟨kn, rfl, kn.many, intsD o, rfl, tame_cor hoc m4, ?_⟩
      rw [endsB_cor hoc]
      exact q
    refine allR S _ 2 ?_
    walk_at "dg7"
    refine lc_mapA intsD (fun o => encR (atO b kn (rs.map (spanQ b)) o)) (by simp) (fun o ho => ⟨_, rfl, fun Q q => ?_⟩) ?_
    · have hoc : o ∈ cor kn.many := by
        simp only [List.mem_cons, List.not_mem_nil, or_false] at ho
        rcases ho with rfl | rfl
        · exact h1
        · exact h2
      walk_at "dg7"
      exact ⟨b, kn, rs, o, rfl, hk, hl, m4, b0, by omega, hrs, hoc, q⟩
    have z1 := hz o1 h1
    have z2 := hz o2 h2
    simp only [List.map_cons, List.map_nil]
    generalize atO b kn (rs.map (spanQ b)) o1 = x at *
    generalize atO b kn (rs.map (spanQ b)) o2 = y at *
    walk_at "dg7"
    refine ⟨_, _, rfl, z2.1.mono (by decide), z1.1.mono (by decide), ?_⟩
    unfold pairQ at h
    by_cases hc : y < x
    · rw [if_pos hc] at h
      simp only [hc, decide_true]
      walk_at "dg7"
      refine ⟨b, r, (y, x), rfl, b0, b1, hr, z2.1, z1.1, z2.2, z1.2, ?_⟩
      dsimp only
      rw [show dEqB (.lst ((figsR b r (y, x)).map D.int)) (.lst []) = some (decide (figsR b r (y, x) = [])) from eqB_ints _ []]
      exact h
    · rw [if_neg hc] at h
      simp only [hc, decide_false]
      walk_at "dg7"
      refine ⟨b, r, (x, y), rfl, b0, b1, hr, z1.1, z2.1, z1.2, z2.2, ?_⟩
      dsimp only
      rw [show dEqB (.lst ((figsR b r (x, y)).map D.int)) (.lst []) = some (decide (figsR b r (x, y) = [])) from eqB_ints _ []]
      exact h
  · cases x4 with
    | obj _ => cases ht
    | ext _ => cases ht
    | ty _ => cases ht
    | tq _ => cases ht
    | tup ds =>
      obtain ⟨hl2, hd⟩ := ht
      walk_at "dg7"
      by_cases c : ds.length = 2
      · have c' : (ds.length : Int) = 2 := by omega
        obtain ⟨hd, hf⟩ := hd c
        simp only [c', decide_true, Bool.not_true, Bool.false_eq_true, reduceIte]
        refine all_bools (endsB kn.many) (by omega) (fun d hm => ⟨_, rfl, fun Q q => ?_⟩) ?_
        · walk_at "dg7"
          exact ⟨kn, rfl, kn.many, d, rfl, hd d hm, q⟩
        rw [hf]
        walk_at "dg7"
        exact h
      · have c' : ¬ (ds.length : Int) = 2 := by omega
        simp only [c', decide_false, Bool.not_false, reduceIte]
        exact h
    | _ => walk_at "dg7"; exact h
/-! ### corners -/
theorem corL_cor : ∀ k, k ≤ 3 → ∀ o, o ∈ corL k → o ∈ cor k := by
  intro k hk
  rcases (by omega : k = 0 ∨ k = 1 ∨ k = 2 ∨ k = 3) with rfl | rfl | rfl | rfl <;> decide
theorem cor_corL : ∀ k, k ≤ 3 → ∀ o, o ∈ cor k → o ∈ corL k := by
  intro k hk
  rcases (by omega : k = 0 ∨ k = 1 ∨ k = 2 ∨ k = 3) with rfl | rfl | rfl | rfl <;> decide
theorem corL_nd : ∀ k, k ≤ 3 → (corL k).Nodup := by
  intro k hk
  rcases (by omega : k = 0 ∨ k = 1 ∨ k = 2 ∨ k = 3) with rfl | rfl | rfl | rfl <;> decide
theorem corL_len : ∀ k, k ≤ 3 → (corL k).length ≤ 8 := by
  intro k hk
  rcases (by omega : k = 0 ∨ k = 1 ∨ k = 2 ∨ k = 3) with rfl | rfl | rfl | rfl <;> decide
theorem vc_Lcorners : goal_Lcorners := by
  rintro x0 S P ⟨k, e, hk, h⟩
  cases e
  unfold rd_Lcorners
  obtain ⟨sz, hsz⟩ : ∃ sz : Nat, sz = 2 ^ k := ⟨_, rfl⟩
  have e1 : atI [D.int 1, .int 2, .int 4, .int 8] (k : Int) = some (.int (sz : Nat)) := by
    subst hsz
    rcases (by omega : k = 0 ∨ k = 1 ∨ k = 2 ∨ k = 3) with rfl | rfl | rfl | rfl <;> rfl
  walk_at "dg7"
  rw [e1]
  walk_at "dg7"
  have sz8 : sz ≤ 8 := by
    subst hsz
    rcases (by omega : k = 0 ∨ k = 1 ∨ k = 2 ∨ k = 3) with rfl | rfl | rfl | rfl <;> decide
  have er : rng 0 ((sz : Int)).toNat = (List.range sz).map fun a : Nat => D.int (0 + (a : Int)) := by rw [Int.toNat_natCast]; rfl
  refine ⟨by omega, by omega, ?_⟩
  rw [er]
  refine lc_mapA (fun a : Nat => D.int (0 + (a : Int))) (fun a : Nat => tqD (([1, 2, 4].take k).map fun s => (0 + (a : Int)).fdiv s % 2)) (by rw [List.length_range]; omega) (fun a ha => ⟨_, rfl, fun Q q => ?_⟩) ?_
  · rw [List.mem_range] at ha
    walk_at "dg7"
    rw [show [D.int 1, D.int 2, D.int 4] = [1, 2, 4].map D.int from rfl, dcut_take (by omega), ← List.map_take, Int.toNat_natCast]
    refine lc_mapA D.int (fun s => D.int ((0 + (a : Int)).fdiv s % 2)) (by rw [List.length_take]; simp; omega) (fun s hs => ⟨_, rfl, fun Q2 q2 => ?_⟩) ?_
    · have hs : s ∈ [1, 2, 4] := List.mem_of_mem_take hs
      walk_at "dg7"
      simp only [List.mem_cons, List.not_mem_nil, or_false] at hs
      rcases hs with rfl | rfl | rfl
      all_goals exact ⟨divS (by omega) (by omega), q2⟩
    · unfold tqD at q
      rw [List.map_map] at q
      exact q
  · have ek : (List.range sz).map (fun a : Nat => tqD (([1, 2, 4].take k).map fun s => (0 + (a : Int)).fdiv s % 2)) = (corL k).map tqD := by
      subst hsz
      rcases (by omega : k = 0 ∨ k = 1 ∨ k = 2 ∨ k = 3) with rfl | rfl | rfl | rfl <;> rfl
    rw [ek]
    exact h
theorem knownD_keys (b : Int) (kn : Kn) (rs : List Rw) (r : Rw) (os : List (List Int)) : (knownD b kn rs r os).map (·.1) = os.map kq := by unfold knownD; rw [List.map_map]; rfl
theorem kq_inj {a c : List Int} (h : kq a = kq c) : a = c := by
  unfold kq at h
  exact (List.map_inj_right (fun x y e => Sum.inl.inj e)).mp h
theorem keysOf_ints : ∀ o : List Int, keysOf (o.map D.int) = some (kq o)
  | [] => rfl
  | a :: o => by
    show (match keyOf (D.int a), keysOf (o.map D.int) with | some k, some ks => some (k :: ks) | _, _ => none) = _
    rw [keysOf_ints o]; rfl
theorem tkOf_tq (o : List Int) : tkOf (tqD o) = some (kq o) := keysOf_ints o
theorem tkD_kq (o : List Int) : tkD (kq o) = tqD o := by
  unfold tkD kq tqD
  rw [List.map_map]; rfl
theorem knownD_val {b : Int} {kn : Kn} {rs : List Rw} {r : Rw} {os : List (List Int)} (nd : os.Nodup) {o : List Int} (ho : o ∈ os) : dVal (knownD b kn rs r os) (kq o) = some (.lst ((figO b kn rs r o).map .int)) := by
  have key : ∀ os : List (List Int), o ∈ os → dVal (knownD b kn rs r os) (kq o) = some (.lst ((figO b kn rs r o).map .int)) := by
    intro os
    induction os with
    | nil => intro h; cases h
    | cons a l ih =>
      intro h
      show dVal ((kq a, D.lst ((figO b kn rs r a).map .int)) :: knownD b kn rs r l) (kq o) = _
      rw [dVal_cons]
      by_cases c : kq a = kq o
      · rw [if_pos c, kq_inj c]
      · rw [if_neg c]
        rcases List.mem_cons.mp h with e | m
        · exact absurd (by rw [e]) c
        · exact ih m
  exact key os ho
theorem vc_Lby_corners : goal_Lby_corners := by
  rintro x0 x1 x2 x3 S P ⟨b, kn, rs, r, e, hk, hl, m3, b0, b1, hr, hro, hfl, hz, h⟩
  cases e
  unfold rd_Lby_corners
  have cl := corL_len kn.many m3
  have nd := corL_nd kn.many m3
  have sl : (rs.map (spanQ b)).length = kn.many := by rw [List.length_map]; exact hl
  walk_at "dg7"
  intro a ha
  walk_at "dg7"
  rw [List.length_map, hl]
  refine ⟨kn.many, rfl, m3, ?_⟩
  walk_at "dg7"
  refine ⟨fun i ρ S' => S' = supd S a (.dT (knownD b kn rs r ((corL kn.many).take i))) ∧ ∃ z5 z6 z7 z8, ρ = [some (.int b), some kn.d, some (.lst (rs.map Rw.d)), some r.d, some (.obj a), z5, z6, z7, z8], ⟨rfl, _, _, _, _, rfl⟩, ?_, ?_⟩
  · rintro i d ρ S' hd ⟨rfl, z5, z6, z7, z8, rfl⟩
    rw [List.getElem?_map] at hd
    obtain ⟨o, ho, rfl⟩ := Option.map_eq_some_iff.mp hd
    have il := (List.getElem?_eq_some_iff.mp ho).1
    have om := List.mem_of_getElem? ho
    have oc := corL_cor kn.many m3 o om
    obtain ⟨o1, o2⟩ := mem_cor.mp oc
    refine ⟨_, rfl, ?_⟩
    walk_at "dg7"
    unfold tqD
    walk_at "dg7"
    rw [zipD_map Rw.d D.int]
    refine lc_mapA (fun (q : Rw × Int) => D.tup [q.1.d, .int q.2]) (fun q => encR (if q.2 = 0 then (spanQ b q.1).1 else (spanQ b q.1).2)) (by rw [List.length_zip]; omega) (fun q hq => ⟨_, rfl, fun Q q' => ?_⟩) ?_
    · have hm := List.of_mem_zip hq
      walk_at "dg7"
      refine ⟨b, q.1, rfl, hr q.1 hm.1, ?_⟩
      rcases o2 q.2 hm.2 with e | e
      · simp only [e, reduceIte] at q' ⊢
        exact q'
      · rw [e] at q' ⊢
        exact q'
    have el : (rs.zip o).map (fun q => encR (if q.2 = 0 then (spanQ b q.1).1 else (spanQ b q.1).2)) = (pickAt (rs.map (spanQ b)) o).map encR := by
      unfold pickAt
      rw [List.zip_map_left, List.map_map, List.map_map]
      rfl
    rw [el]
    refine ⟨b, kn, pickAt (rs.map (spanQ b)) o, 840, _, rfl, .inl rfl, hk, by rw [pickAt_len (by omega)]; exact sl, b0, by omega, by decide, by decide, fun x hx => ?_, ?_⟩
    · obtain ⟨s, hs, hx | hx⟩ := pickAt_mem hx
      · rw [hx]; exact (tights hr s hs).1
      · rw [hx]; exact (tights hr s hs).2
    have z := hz o oc
    walk_at "dg7"
    refine ⟨b, r, (atO b kn (rs.map (spanQ b)) o, atO b kn (rs.map (spanQ b)) o), rfl, hro, hfl, z.mono (by decide), z.mono (by decide), ?_⟩
    refine ⟨a, _, kq o, rfl, supd_same, keysOf_ints o, ?_, ?_, _, _, _, _, rfl⟩
    · unfold knownD
      rw [List.length_map, List.length_take]; omega
    · rw [supd_supd, List.take_add_one, ho]
      have hn : kq o ∉ (knownD b kn rs r ((corL kn.many).take i)).map (·.1) := by
        rw [knownD_keys]
        intro m
        obtain ⟨c, hc, e⟩ := List.mem_map.mp m
        have := kq_inj e
        subst this
        obtain ⟨j, hj⟩ := List.mem_iff_getElem?.mp hc
        have jl := (List.getElem?_eq_some_iff.mp hj).1
        rw [List.length_take] at jl
        rw [List.getElem?_take, if_pos (by omega)] at hj
        have := (List.getElem?_inj (List.getElem?_eq_some_iff.mp hj).1 nd).mp (hj.trans ho.symm)
        omega
      rw [dPut_new _ hn]
      unfold knownD
      rw [List.map_append]; rfl
  · rintro ρ S' ⟨rfl, z5, z6, z7, z8, rfl⟩
    rw [List.length_map, List.take_length]
    walk_at "dg7"
    exact h a ha
theorem gd_cor {k : Nat} {o : List Int} (h : o ∈ cor k) (hk : k ≤ 3) : Gd 1 900 (intsD o) := by
  obtain ⟨o1, o2⟩ := mem_cor.mp h
  exact (gd_tup (n := 0) (c := 13) 3 (fun y hy => by
    obtain ⟨w, hw, rfl⟩ := List.mem_map.mp hy
    have := o2 w hw
    exact gd_int) (by rw [List.length_map]; omega)).mono (by decide) (by decide)
theorem odd_pair {k : Nat} {x y : D} (hx : TameE x) (hy : TameE y) (gx : Gd 3 9000 x) (gy : Gd 3 9000 y) (hf : endsB k x = false ∨ endsB k y = false) : OddT k (.tup [x, y]) := by
  refine ⟨⟨by show 2 ≤ 100; decide, fun _ => ⟨fun d hd => ?_, ?_⟩⟩, (gd_tup (n := 3) (c := 9000) 2 (fun d hd => ?_) (by simp)).mono (by decide) (by decide)⟩
  · simp only [List.mem_cons, List.not_mem_nil, or_false] at hd
    rcases hd with rfl | rfl <;> assumption
  · simp only [List.all_cons, List.all_nil, Bool.and_true]
    rcases hf with h | h <;> rw [h] <;> simp
  · simp only [List.mem_cons, List.not_mem_nil, or_false] at hd
    rcases hd with rfl | rfl <;> assumption
theorem eqB_tnilY {ys : List D} (h : ∀ y, y ∈ ys → ∃ p, PyI 0 y p) : dEqB (.tup ys) (.tup []) = some (decide (ys = [])) := by
  obtain ⟨ps, e1, e2, e3, e4, e5⟩ := py_all h
  have e : (D.tup ys).py = some (.tuple ps) := by simp [D.py, e1]
  have hs : SeqAt.shaped (.tuple ps) = true := by
    unfold SeqAt.shaped
    simp [PyData.canLay0, e2, PyData.depth]
    omega
  have e0 : (D.tup []).py = some (.tuple []) := by simp [D.py, D.pyL]
  have hs0 : SeqAt.shaped (.tuple []) = true := by decide
  have : dEqB (.tup ys) (.tup []) = some (PyData.eqv (.tuple ps) (.tuple [])) := by simp only [dEqB, e, e0, hs, hs0, and_self, reduceIte]
  rw [this]
  refine congrArg some ?_
  cases ys with
  | nil =>
    have : ps = [] := by simpa using e5
    subst this
    simp [PyData.eqv, PyData.eqvAll]
  | cons y l =>
    cases ps with
    | nil => simp at e5
    | cons a b => simp [PyData.eqv, PyData.eqvAll]
theorem sIx_neg1 (n d : Nat) : HT.sIx n d (some (-1)) = n - 1 := by
  show (if (-1 : Int) < 0 then (-1 + (n : Int)).toNat else min (-1 : Int).toNat n) = n - 1
  rw [if_pos (by decide)]
  omega
theorem dcut_lastY {xs : List D} : dcut xs none (some (-1)) = xs.take (xs.length - 1) := by
  unfold dcut
  rw [sIx_neg1, HT.sIx_none, List.drop_zero, Nat.sub_zero]
/-- what stands for an end that is none -/
structure NoEnd (y : D) : Prop where
  t : TameI y
  e : isEnd y = false
  g : Gd 0 13 y
  p : ∃ p, PyI 0 y p
theorem ne_bl (b : Bool) : NoEnd (.bl b) := ⟨trivial, rfl, gd_bl, .bool b, by simp [D.py], by simp [PyData.canLay0], by simp [PyData.depth], by simp [PyData.eqv]⟩
theorem ne_non : NoEnd .non := ⟨trivial, rfl, gd_non, .none, by simp [D.py], by simp [PyData.canLay0], by simp [PyData.depth], by simp [PyData.eqv]⟩
theorem ne_str : NoEnd (.str "0") := ⟨trivial, rfl, gd_str, .str "0", by simp [D.py], by decide +kernel, by simp [PyData.depth], by simp [PyData.eqv]⟩
theorem ne_int {i : Int} (h0 : i ≠ 0) (h1 : i ≠ 1) (h2 : i.natAbs < 10 ^ 12) : NoEnd (.int i) := ⟨trivial, decide_eq_false (by omega), gd_int h2, .int i, by simp [D.py], by simp [PyData.canLay0], by simp [PyData.depth], by simp [PyData.eqv]⟩
theorem vc_Lodd : goal_Lodd := by
  rintro x0 x1 S P ⟨p, n, k, A, B, e, hb, hn, k3, hA, hB, h⟩
  cases e
  unfold rd_Lodd
  walk_at "dg7"
  refine takeK (.refl hb) (by decide) (by decide) (by omega) fun way S1 w0 w1 k1 => ?_
  walk_at "dg7"
  refine takeK k1 (by decide) (by decide) (by omega) fun at_ S2 a0 a1 k2 => ?_
  walk_at "dg7"
  have at2 : at_ = 0 ∨ at_ = 1 := by omega
  obtain ⟨X, hX, c1, c2⟩ : ∃ X : List Int, X ∈ cor k ∧ atI [intsD A, intsD B] at_ = some (.tup (X.map .int)) ∧ ∀ z : D, dcut [intsD A, intsD B] none (some at_) ++ [z] ++ dcut [intsD A, intsD B] (some (at_ + 1)) none = if at_ = 0 then [z, intsD B] else [intsD A, z] := by
    rcases at2 with rfl | rfl
    · exact ⟨A, hA, rfl, fun z => rfl⟩
    · exact ⟨B, hB, rfl, fun z => rfl⟩
  obtain ⟨Xl, Xv⟩ := mem_cor.mp hX
  have gA : Gd 3 9000 (intsD A) := (gd_cor hA k3).mono (by decide) (by decide)
  have gB : Gd 3 9000 (intsD B) := (gd_cor hB k3).mono (by decide) (by decide)
  have tA := tame_cor hA (by omega)
  have tB := tame_cor hB (by omega)
  have ld : ∀ l u, (dcut [intsD A, intsD B] l u).length ≤ 2 := fun l u => dcut_len _ _ _
  have bent : ∀ z, TameE z → endsB k z = false → Gd 3 9000 z → OddT k (.tup (if at_ = 0 then [z, intsD B] else [intsD A, z])) := fun z hz hf gz => by
    split
    · exact odd_pair hz tB gz gB (.inl hf)
    · exact odd_pair tA hz gA gz (.inr hf)
  have gI : ∀ l : List Int, l.length ≤ 5 → (∀ z, z ∈ l → z = 0 ∨ z = 1) → Gd 3 9000 (.tup (l.map .int)) := fun l hl hz => (gd_tup (n := 0) (c := 13) 5 (fun y hy => by
      obtain ⟨w, hw, rfl⟩ := List.mem_map.mp hy
      have := hz w hw
      exact gd_int) (by rw [List.length_map]; omega)).mono (by decide) (by decide)
  have tI : ∀ l : List Int, l.length ≤ 5 → TameE (.tup (l.map .int)) := fun l hl => ⟨by rw [List.length_map]; omega, fun e he => by
    obtain ⟨w, hw, rfl⟩ := List.mem_map.mp he
    trivial⟩
  have nI : ∀ l : List Int, l.length ≠ k → endsB k (.tup (l.map .int)) = false := fun l hl => by
    rw [endsB_tup, List.length_map, decide_eq_false hl, Bool.false_and]
  refine ⟨by have := ld none (some 1); omega, ?_⟩
  rw [c1]
  dsimp only
  refine ⟨by have := ld none (some at_); omega, by rw [List.length_append]; have := ld none (some at_); have := ld (some (at_ + 1)) none; simp only [List.length_cons, List.length_nil]; omega, fun L hL => ?_⟩
  rw [c2]
  obtain ⟨I0, eI0, lI0, oI0⟩ : ∃ I0 : List D, I0 = [D.lst [intsD A, intsD B], .tup (dcut [intsD A, intsD B] none (some 1)), .tup (intsD A :: intsD B :: dcut [intsD A, intsD B] none (some 1)), .tup (if at_ = 0 then [.lst (X.map .int), intsD B] else [intsD A, .lst (X.map .int)])] ∧ I0.length = 4 ∧ ∀ x, x ∈ I0 → OddT k x := by
    refine ⟨_, rfl, rfl, fun x hx => ?_⟩
    simp only [List.mem_cons, List.not_mem_nil, or_false] at hx
    rcases hx with rfl | rfl | rfl | rfl
    · exact ⟨trivial, (gd_lst (n := 3) (c := 9000) 2 (by simp only [List.forall_mem_cons]; exact ⟨gA, gB, by simp⟩) (by simp)).mono (by decide) (by decide)⟩
    · refine ⟨⟨by show 1 ≤ 100; decide, fun z => absurd z (by show ¬ 1 = 2; decide)⟩, (gd_tup (n := 3) (c := 9000) 2 (fun y hy => ?_) (by show 1 ≤ 2; decide)).mono (by decide) (by decide)⟩
      have hy : y ∈ [intsD A] := hy
      rw [List.mem_singleton.mp hy]; exact gA
    · refine ⟨⟨by show 3 ≤ 100; decide, fun z => absurd z (by show ¬ 3 = 2; decide)⟩, (gd_tup (n := 3) (c := 9000) 3 (fun y hy => ?_) (by show 3 ≤ 3; decide)).mono (by decide) (by decide)⟩
      have hy : y ∈ [intsD A, intsD B, intsD A] := hy
      simp only [List.mem_cons, List.not_mem_nil, or_false] at hy
      rcases hy with rfl | rfl | rfl <;> assumption
    · refine bent _ trivial rfl ((gd_lst (n := 0) (c := 13) 3 (fun y hy => ?_) (by rw [List.length_map]; omega)).mono (by decide) (by decide))
      obtain ⟨w, hw, rfl⟩ := List.mem_map.mp hy
      have := Xv w hw
      exact gd_int
  rw [← eI0]
  clear eI0
  have pL : p ≠ L := k2.1.ne hL
  have SL : S L = none := by
    cases e : S L with
    | none => rfl
    | some m => rw [k2.2 L m pL.symm e] at hL; cases hL
  unfold rd_Lodd_5
  walk_at "dg7"
  refine ⟨I0, rfl, ?_⟩
  rw [c1]
  dsimp only
  have l1 := ld none (some at_)
  have l2 := ld (some (at_ + 1)) none
  refine ⟨by rw [List.length_map]; simp only [List.length_cons, List.length_nil]; omega, by omega, by rw [List.length_append]; simp only [List.length_cons, List.length_nil]; omega, I0, rfl, by omega, ?_⟩
  rw [c2, supd_supd, show X.map D.int ++ [D.int 0] = (X ++ [0]).map D.int by rw [List.map_append]; rfl]
  obtain ⟨I1, eI1, lI1, oI1⟩ : ∃ I1 : List D, I1 = I0 ++ [.tup (if at_ = 0 then [.tup ((X ++ [0]).map .int), intsD B] else [intsD A, .tup ((X ++ [0]).map .int)])] ∧ I1.length = 5 ∧ ∀ x, x ∈ I1 → OddT k x := by
    refine ⟨_, rfl, by rw [List.length_append, lI0]; rfl, fun x hx => ?_⟩
    rcases List.mem_append.mp hx with m | m
    · exact oI0 x m
    · rw [List.mem_singleton.mp m]
      have ll : (X ++ [0]).length = k + 1 := by rw [List.length_append, Xl]; rfl
      refine bent _ (tI _ (by omega)) (nI _ (by omega)) (gI _ (by omega) fun z hz => ?_)
      rcases List.mem_append.mp hz with m | m
      · exact Xv z m
      · exact .inl (List.mem_singleton.mp m)
  rw [← eI1]
  clear eI1 oI0 lI0 I0
  unfold rd_Lodd_4
  walk_at "dg7"
  refine ⟨I1, rfl, ?_⟩
  rw [c1]
  dsimp only
  rw [show dEqB (.tup (X.map D.int)) (.tup []) = some (decide (X = [])) from eqB_tints X []]
  dsimp only
  obtain ⟨Y, hY, yl, yv⟩ : ∃ Y : List Int, Y = (if X = [] then [1] else X.take (X.length - 1)) ∧ Y.length ≠ k ∧ ∀ z, z ∈ Y → z = 0 ∨ z = 1 := by
    by_cases c : X = []
    · refine ⟨_, rfl, ?_, fun z hz => ?_⟩
      · rw [if_pos c]; rw [c] at Xl; simp at Xl; simp; omega
      · rw [if_pos c] at hz; exact .inr (List.mem_singleton.mp hz)
    · have := List.length_pos_iff.mpr c
      refine ⟨_, rfl, ?_, fun z hz => ?_⟩
      · rw [if_neg c, List.length_take]; omega
      · rw [if_neg c] at hz; exact Xv z (List.mem_of_mem_take hz)
  have ll : Y.length ≤ 5 := by
    rw [hY]; split
    · decide
    · rw [List.length_take]; omega
  obtain ⟨I2, eI2, lI2, oI2⟩ : ∃ I2 : List D, I2 = I1 ++ [.tup (if at_ = 0 then [.tup (Y.map .int), intsD B] else [intsD A, .tup (Y.map .int)])] ∧ I2.length = 6 ∧ ∀ x, x ∈ I2 → OddT k x := by
    refine ⟨_, rfl, by rw [List.length_append, lI1]; rfl, fun x hx => ?_⟩
    rcases List.mem_append.mp hx with m | m
    · exact oI1 x m
    · rw [List.mem_singleton.mp m]
      exact bent _ (tI _ ll) (nI _ yl) (gI _ ll yv)
  have fin : rd_Lodd_3 { nx := fun x S => P D.non S, rt := P } [some (.obj p), some (.tup [intsD A, intsD B]), some (.int way), some (.int at_), some (.obj L), none, none] (supd S2 L (.lst I2)) := by
    clear eI2 hY yl yv ll
    unfold rd_Lodd_3
    walk_at "dg7"
    rw [c1]
    walk_at "dg7"
    have kp := k2.put (m := .lst I2) pL SL
    refine lc_st (fun _ y => NoEnd y) (fun i S' => Dk (supd S2 L (.lst I2)) S' p (n + 2 + i)) (by rw [List.length_map]; omega) (.refl kp.1) (fun i d S' hd kd => ?_) fun ys S' yl yr kd => ?_
    · rw [List.getElem?_map] at hd
      obtain ⟨z, hz, rfl⟩ := Option.map_eq_some_iff.mp hd
      refine ⟨_, rfl, fun Q q => ?_⟩
      walk_at "dg7"
      have il := (List.getElem?_eq_some_iff.mp hz).1
      refine takeK kd (by decide) (by decide) (by omega) fun x S3 x0 x1 kd3 => ?_
      have x5 : x = 0 ∨ x = 1 ∨ x = 2 ∨ x = 3 ∨ x = 4 := by omega
      rcases x5 with rfl | rfl | rfl | rfl | rfl
      · exact q _ _ (ne_bl _) kd3
      · exact q _ _ (ne_int (by decide) (by decide) (by decide)) kd3
      · exact q _ _ (ne_int (by decide) (by decide) (by decide)) kd3
      · exact q _ _ ne_str kd3
      · exact q _ _ ne_non kd3
    · rw [List.length_map] at yl
      walk_at "dg7"
      have sl : S' L = some (.lst I2) := kd.2 L _ pL.symm supd_same
      have nys : ∀ y, y ∈ ys → NoEnd y := fun y hy => by
        obtain ⟨i, hi⟩ := List.mem_iff_getElem?.mp hy
        exact yr i y hi
      obtain ⟨z, hz, tz, fz, gz⟩ : ∃ z : List D, z = (if ys = [] then [.non] else ys) ∧ TameE (.tup z) ∧ endsB k (.tup z) = false ∧ Gd 3 9000 (.tup z) := by
        by_cases c : ys = []
        · refine ⟨_, rfl, ?_, ?_, ?_⟩
          · rw [if_pos c]; exact ⟨by decide, fun e he => by rw [List.mem_singleton.mp he]; trivial⟩
          · rw [if_pos c, endsB_tup]; simp [isEnd]
          · rw [if_pos c]; exact (gd_tup (n := 0) (c := 13) 1 (fun y hy => by rw [List.mem_singleton.mp hy]; exact gd_non) (by decide)).mono (by decide) (by decide)
        · refine ⟨_, rfl, ?_, ?_, ?_⟩
          · rw [if_neg c]; exact ⟨by omega, fun e he => (nys e he).t⟩
          · rw [if_neg c, endsB_tup]
            cases ys with
            | nil => exact absurd rfl c
            | cons a l => rw [List.all_cons, (nys a (List.mem_cons_self ..)).e]; simp
          · rw [if_neg c]; exact (gd_tup (n := 0) (c := 13) 3 (fun y hy => (nys y hy).g) (by omega)).mono (by decide) (by decide)
      obtain ⟨I3, eI3, lI3, oI3⟩ : ∃ I3 : List D, I3 = I2 ++ [.tup (if at_ = 0 then [.tup z, intsD B] else [intsD A, .tup z])] ∧ I3.length = 7 ∧ ∀ x, x ∈ I3 → OddT k x := by
        refine ⟨_, rfl, by rw [List.length_append, lI2]; rfl, fun x hx => ?_⟩
        rcases List.mem_append.mp hx with m | m
        · exact oI2 x m
        · rw [List.mem_singleton.mp m]
          exact bent _ tz fz gz
      have fin2 : ∀ S4, Dk S S4 p (n + 2 + X.length) → S4 L = some (.lst I3) → rd_Lodd_1 { nx := fun x S => P D.non S, rt := P } [some (.obj p), some (.tup [intsD A, intsD B]), some (.int way), some (.int at_), some (.obj L), some (.tup ys), none] S4 := fun S4 k4 s4 => by
        unfold rd_Lodd_1
        obtain ⟨O, eO, lO, oO⟩ : ∃ O : List D, O = I3 ++ [.non, .tup [], .lst [], .bl true, .str "", .tup [.tup []], .tup [.int 0, .int 1]] ∧ O.length = 14 ∧ ∀ x, x ∈ O → OddT k x := by
          refine ⟨_, rfl, by rw [List.length_append, lI3]; rfl, fun x hx => ?_⟩
          rcases List.mem_append.mp hx with m | m
          · exact oI3 x m
          · have ge : ∀ {x : D}, Gd 0 13 x → Gd 4 60000 x := fun g => g.mono (by decide) (by decide)
            have gl : Gd 1 3 (.tup []) := gd_tup (n := 0) (c := 13) 0 (fun y hy => absurd hy (List.not_mem_nil)) (by decide)
            simp only [List.mem_cons, List.not_mem_nil, or_false] at m
            rcases m with rfl | rfl | rfl | rfl | rfl | rfl | rfl
            · exact ⟨trivial, ge gd_non⟩
            · exact ⟨⟨by decide, fun z => absurd z (by decide)⟩, gl.mono (by decide) (by decide)⟩
            · exact ⟨trivial, (gd_lst (n := 0) (c := 13) 0 (fun y hy => absurd hy (List.not_mem_nil)) (by decide)).mono (by decide) (by decide)⟩
            · exact ⟨trivial, ge gd_bl⟩
            · exact ⟨trivial, ge gd_str⟩
            · exact ⟨⟨by decide, fun z => absurd z (by decide)⟩, (gd_tup (n := 1) (c := 3) 1 (fun y hy => by rw [List.mem_singleton.mp hy]; exact gl) (by decide)).mono (by decide) (by decide)⟩
            · refine ⟨⟨by decide, fun _ => ⟨fun d hd => ?_, rfl⟩⟩, (gd_tup (n := 0) (c := 13) 2 (fun y hy => ?_) (by decide)).mono (by decide) (by decide)⟩
              · simp only [List.mem_cons, List.not_mem_nil, or_false] at hd
                rcases hd with rfl | rfl <;> trivial
              · simp only [List.mem_cons, List.not_mem_nil, or_false] at hy
                rcases hy with rfl | rfl <;> exact gd_int
        have get : ∀ i : Int, 0 ≤ i → i < 14 → ∃ x, atI O i = some x ∧ OddT k x := fun i i0 i1 => by
          obtain ⟨x, hx⟩ : ∃ x, O[i.toNat]? = some x := ⟨_, List.getElem?_eq_getElem (by omega)⟩
          refine ⟨x, ?_, oO x (List.mem_of_getElem? hx)⟩
          rw [atI_at i0 (by omega)]
          exact hx
        walk_at "dg7"
        rw [s4]
        walk_at "dg7"
        refine ⟨by omega, ?_⟩
        rw [← eO]
        have k4' := k4
        by_cases c : way < 7
        · rw [if_pos c]
          obtain ⟨x, hx, ox⟩ := get way w0 (by omega)
          rw [hx]
          exact h x S4 ox (k4'.mono (by omega))
        · rw [if_neg c]
          refine takeK k4' (by decide) (by decide) (by omega) fun v S5 v0 v1 k5 => ?_
          obtain ⟨x, hx, ox⟩ := get (7 + v) (by omega) (by omega)
          dsimp only
          rw [hx]
          exact h x S5 ox (k5.mono (by omega))
      unfold rd_Lodd_2
      walk_at "dg7"
      rw [sl, eqB_tnilY (fun y hy => (nys y hy).p)]
      refine ⟨I2, rfl, ?_⟩
      dsimp only
      have kf := (kp.trans kd).put (m := .lst I3) pL SL
      rw [List.length_map] at kf
      by_cases c : ys = []
      · rw [decide_eq_true c]
        rw [if_pos c] at hz
        simp only [Bool.not_true, Bool.false_eq_true, reduceIte]
        refine ⟨by omega, by rw [List.length_append]; simp only [List.length_cons, List.length_nil]; omega, I2, rfl, by omega, ?_⟩
        rw [c2, ← hz, ← eI3]
        exact fin2 _ kf supd_same
      · rw [decide_eq_false c]
        rw [if_neg c] at hz
        simp only [Bool.not_false, reduceIte]
        refine ⟨by omega, by rw [List.length_append]; simp only [List.length_cons, List.length_nil]; omega, I2, rfl, by omega, ?_⟩
        rw [hz] at eI3
        rw [c2, ← eI3]
        exact fin2 _ kf supd_same
  by_cases c : X = []
  · rw [decide_eq_true c]
    have e : Y = [1] := by rw [hY, if_pos c]
    walk_at "dg7"
    refine ⟨by omega, by rw [List.length_append]; simp only [List.length_cons, List.length_nil]; omega, I1, rfl, by omega, ?_⟩
    rw [e] at eI2
    rw [c2, supd_supd, show ([D.int 1] : List D) = [1].map D.int from rfl, ← eI2]
    exact fin
  · rw [decide_eq_false c]
    have e : Y = X.take (X.length - 1) := by rw [hY, if_neg c]
    walk_at "dg7"
    refine ⟨by omega, ?_⟩
    rw [dcut_lastY, List.length_map, ← List.map_take, ← e]
    refine ⟨by rw [List.length_append]; simp only [List.length_cons, List.length_nil]; omega, I1, rfl, by omega, ?_⟩
    rw [c2, supd_supd, ← eI2]
    exact fin
/-! ### no figure in common -/
theorem figs_len {b : Int} {r : Rw} {q : Rat × Rat} (h0 : 0 ≤ r.m) (h1 : r.m ≤ 15) : (figsR b r q).length ≤ 31 := by
  unfold figsR
  refine Nat.le_trans (List.length_filter_le _ _) ?_
  unfold ivl
  rw [List.length_map, List.length_range]
  omega
theorem reach_cor {b k : Int} {kn : Kn} {rs : List Rw} (b0 : 2 ≤ b) (b1 : b ≤ 10) (hk : kn.Dr) (hl : rs.length = kn.many) (k1 : k ≤ 40) (hs : ∀ r, r ∈ rs → Small b k r) {o : List Int} (ho : o ∈ cor kn.many) : Sz 2900 (atO b kn (rs.map (spanQ b)) o) ∧ Mg (atO b kn (rs.map (spanQ b)) o) := by
  obtain ⟨o1, o2⟩ := mem_cor.mp ho
  have sl : (rs.map (spanQ b)).length = kn.many := by rw [List.length_map]; exact hl
  have pl : (pickAt (rs.map (spanQ b)) o).length = kn.many := by rw [pickAt_len (by omega)]; exact sl
  constructor
  · refine (Kn.app_sz (z := 500) b0 (by omega) hk.ok pl (by decide) fun x hx => ?_).mono (by decide)
    obtain ⟨s, hs', hx | hx⟩ := pickAt_mem hx
    all_goals
      obtain ⟨r, hr, rfl⟩ := List.mem_map.mp hs'
      rw [hx]
    · exact ((hs r hr).tight b0 b1 k1).1
    · exact ((hs r hr).tight b0 b1 k1).2
  · refine app_bd b0 b1 hk pl fun x hx => ?_
    obtain ⟨s, hs', hx | hx⟩ := pickAt_mem hx
    all_goals
      obtain ⟨r, hr, rfl⟩ := List.mem_map.mp hs'
      rw [hx]
    · exact ((hs r hr).bd b0 b1 (by omega)).1
    · exact ((hs r hr).bd b0 b1 (by omega)).2
theorem any_ints {i : Int} {xs : List Int} : ((xs.map D.int).any fun z => eqFlat z (.int i)) = decide (i ∈ xs) := by
  rw [Bool.eq_iff_iff, List.any_map, List.any_eq_true, decide_eq_true_eq]
  constructor
  · rintro ⟨x, hx, e⟩
    have : x = i := by simpa [eqFlat] using e
    rw [← this]; exact hx
  · intro hm
    exact ⟨i, hm, by simp [eqFlat]⟩
theorem flat_ints {xs : List Int} : (xs.map D.int).all isFlat = true := by simp [isFlat]
theorem mem_ivl {a d : Int} {n : Nat} : d ∈ ivl a n ↔ a ≤ d ∧ d < a + (n : Int) := by
  unfold ivl
  rw [List.mem_map]
  constructor
  · rintro ⟨i, hi, rfl⟩
    rw [List.mem_range] at hi
    omega
  · rintro ⟨h1, h2⟩
    exact ⟨(d - a).toNat, by rw [List.mem_range]; omega, by omega⟩
/-- in a gapless list there is just one least in size -/
theorem figs_mem {b : Int} {r : Rw} {q : Rat × Rat} (h0 : 0 ≤ r.m) {d : Int} : d ∈ figsR b r q ↔ (-r.m ≤ d ∧ d ≤ r.m) ∧ (r.snoc d).lo b ≤ q.1 ∧ q.2 ≤ (r.snoc d).hi b := by
  unfold figsR
  rw [List.mem_filter, mem_ivl]
  unfold figOk
  rw [decide_eq_true_eq]
  constructor
  · rintro ⟨h1, h2⟩; exact ⟨by omega, h2⟩
  · rintro ⟨h1, h2⟩; exact ⟨by omega, h2⟩
theorem no_common {b : Int} {r : Rw} (h0 : 0 ≤ r.m) (x y : Rat) : ((figsR b r (x, x)).filter fun d => decide (d ∈ figsR b r (y, y))) = [] ↔ figsR b r (pairQ x y) = [] := by
  have fm : ∀ (q : Rat × Rat) d, d ∈ figsR b r q ↔ (-r.m ≤ d ∧ d ≤ r.m) ∧ (r.snoc d).lo b ≤ q.1 ∧ q.2 ≤ (r.snoc d).hi b := fun q d => figs_mem h0
  constructor
  · intro h
    refine List.eq_nil_iff_forall_not_mem.mpr fun d hd => ?_
    have hd := (fm _ d).mp hd
    have : d ∈ (figsR b r (x, x)).filter fun d => decide (d ∈ figsR b r (y, y)) := by
      unfold pairQ at hd
      refine List.mem_filter.mpr ⟨(fm _ d).mpr ?_, decide_eq_true ((fm _ d).mpr ?_)⟩
      · split at hd <;> refine ⟨hd.1, ?_⟩ <;> obtain ⟨_, h1, h2⟩ := hd <;> dsimp only at h1 h2 ⊢ <;> constructor <;> grind
      · split at hd <;> refine ⟨hd.1, ?_⟩ <;> obtain ⟨_, h1, h2⟩ := hd <;> dsimp only at h1 h2 ⊢ <;> constructor <;> grind
    rw [h] at this
    cases this
  · intro h
    refine List.eq_nil_iff_forall_not_mem.mpr fun d hd => ?_
    obtain ⟨h1, h2⟩ := List.mem_filter.mp hd
    have h1 := (fm _ d).mp h1
    have h2 := (fm _ d).mp (of_decide_eq_true h2)
    have : d ∈ figsR b r (pairQ x y) := by
      refine (fm _ d).mpr ⟨h1.1, ?_⟩
      unfold pairQ
      split
      · exact ⟨h2.2.1, h1.2.2⟩
      · exact ⟨h1.2.1, h2.2.2⟩
    rw [h] at this
    cases this
def dueB (b : Int) (kn : Kn) (rs : List Rw) (r : Rw) (o1 o2 : List Int) : Bool := decide (figsR b r (pairQ (atO b kn (rs.map (spanQ b)) o1) (atO b kn (rs.map (spanQ b)) o2)) = [])
theorem some_due {b : Int} {kn : Kn} {rs : List Rw} {r : Rw} (b0 : 2 ≤ b) (hk : kn.Ok) (hl : rs.length = kn.many) (m3 : kn.many ≤ 3) (rok : ∀ r, r ∈ rs → r.Ok b) (h0 : 0 ≤ r.m) :
    ((corL kn.many).flatMap fun o1 => (corL kn.many).map fun o2 => dueB b kn rs r o1 o2).any id = decide (figsR b r (reachQ b kn (rs.map (spanQ b))) = []) := by
  have ssl : (rs.map (spanQ b)).length = kn.many := by rw [List.length_map]; exact hl
  have up := up_spans rok
  have r12 : (reachQ b kn (rs.map (spanQ b))).1 ≤ (reachQ b kn (rs.map (spanQ b))).2 := by
    obtain ⟨⟨c1, h1, e1⟩, _⟩ := reach_ends b kn (rs.map (spanQ b))
    have := vals_within b0 hk ssl (ch_ins up h1) up
    exact Rat.le_trans this.1 this.2
  have ea := ends_at (b := b) (kn := kn) (ss := rs.map (spanQ b)) ssl
  have cm := ends_mem (b := b) (kn := kn) (ss := rs.map (spanQ b))
  have fm : ∀ (q : Rat × Rat) d, d ∈ figsR b r q ↔ (-r.m ≤ d ∧ d ≤ r.m) ∧ (r.snoc d).lo b ≤ q.1 ∧ q.2 ≤ (r.snoc d).hi b := fun q d => figs_mem h0
  have bnd : ∀ o, o ∈ cor kn.many → (reachQ b kn (rs.map (spanQ b))).1 ≤ atO b kn (rs.map (spanQ b)) o ∧ atO b kn (rs.map (spanQ b)) o ≤ (reachQ b kn (rs.map (spanQ b))).2 := fun o ho => by
    rw [← ea.1, ← ea.2]
    exact ⟨(loC_is b kn (rs.map (spanQ b)) (cor kn.many) (zeroO kn.many)).2.2 o ho, (hiC_is b kn (rs.map (spanQ b)) (cor kn.many) (zeroO kn.many)).2.2 o ho⟩
  rw [Bool.eq_iff_iff, List.any_eq_true, decide_eq_true_eq]
  constructor
  · rintro ⟨z, hz, e⟩
    obtain ⟨o1, h1, hz⟩ := List.mem_flatMap.mp hz
    obtain ⟨o2, h2, rfl⟩ := List.mem_map.mp hz
    have e : figsR b r (pairQ (atO b kn (rs.map (spanQ b)) o1) (atO b kn (rs.map (spanQ b)) o2)) = [] := of_decide_eq_true e
    have b1 := bnd o1 (corL_cor _ m3 _ h1)
    have b2 := bnd o2 (corL_cor _ m3 _ h2)
    refine List.eq_nil_iff_forall_not_mem.mpr fun d hd => ?_
    have hd := (fm _ d).mp hd
    have : d ∈ figsR b r (pairQ (atO b kn (rs.map (spanQ b)) o1) (atO b kn (rs.map (spanQ b)) o2)) := by
      refine (fm _ d).mpr ⟨hd.1, ?_⟩
      unfold pairQ
      split
      · exact ⟨Rat.le_trans hd.2.1 b2.1, Rat.le_trans b1.2 hd.2.2⟩
      · exact ⟨Rat.le_trans hd.2.1 b1.1, Rat.le_trans b2.2 hd.2.2⟩
    rw [e] at this
    cases this
  · intro h
    refine ⟨dueB b kn rs r (endsQ b kn (rs.map (spanQ b))).1 (endsQ b kn (rs.map (spanQ b))).2, List.mem_flatMap.mpr ⟨_, cor_corL _ m3 _ cm.1, List.mem_map.mpr ⟨_, cor_corL _ m3 _ cm.2, rfl⟩⟩, ?_⟩
    unfold dueB
    rw [ea.1, ea.2]
    have pq : pairQ (reachQ b kn (rs.map (spanQ b))).1 (reachQ b kn (rs.map (spanQ b))).2 = reachQ b kn (rs.map (spanQ b)) := by unfold pairQ; rw [if_neg (by grind)]
    rw [pq]
    exact decide_eq_true h
theorem turn_ok {b : Int} {p : Addr} {n : Nat} {y2 z3 z4 z5 z6 z7 z8 z9 z10 z11 z12 z13 z14 z15 z16 : Option D} {S : Store} {DD : DEnds} (b0 : 2 ≤ b) (b1 : b ≤ 10) (hb : BoxAt S p n) (hn : n ≤ 50000)
    (hnx : ∀ zs S', zs.length = 14 → BoxAt S' p (n + 3000) → DD.nx (some (.obj p) :: some (.int b) :: y2 :: zs) S') :
    rd_Lright_5 DD [some (.obj p), some (.int b), y2, z3, z4, z5, z6, z7, z8, z9, z10, z11, z12, z13, z14, z15, z16] S := by
  unfold rd_Lright_5
  walk_at "dg7"
  refine ⟨rfl, ?_⟩
  refine ⟨p, n, words, rfl, hb, by omega, by decide, by decide, by simp [words, Wd], fun kn S1 hk _ hb1 => ?_⟩
  walk_at "dg7"
  refine ⟨p, _, b, 5, kn, rfl, hb1.1, by omega, b0, b1, by decide, by decide, hk, fun rs S2 hl hrs hb2 => ?_⟩
  have hm := hk.many
  have hko := hk.ok
  have rok : ∀ r, r ∈ rs → r.Ok b := fun r hr => (hrs r hr).ok b0 (by omega) (by decide)
  refine ⟨p, _, b, rfl, hb2.1, by omega, b0, b1, fun m S3 m0 m1 hb3 => ?_⟩
  walk_at "dg7"
  refine takeK hb3 (by decide) (by decide) (by omega) fun e S4 g0 g1 hb4 => ?_
  refine takeK hb4 (by decide) (by decide) (by omega) fun x S5 x0 x1 hb5 => ?_
  refine ⟨p, _, m, x, rfl, hb5.1, by omega, by omega, by omega, x0, by omega, fun fs S6 hfl hff hb6 => ?_⟩
  walk_at "dg7"
  obtain ⟨r, hr⟩ : ∃ r : Rw, r = ⟨e, m, fs⟩ := ⟨_, rfl⟩
  have rE : r.e = e := by rw [hr]
  have rM : r.m = m := by rw [hr]
  have rF : r.fs = fs := by rw [hr]
  have own : Own b r := ⟨by omega, by omega, by rw [rM]; exact m0, by omega, by rw [rF]; omega, by rw [rF, rE]; omega, fun f hf => by rw [rF] at hf; rw [rM]; exact hff f hf⟩
  have ook := own.ok b0 b1
  have er : D.tup [D.int e, D.int m, D.tup (fs.map D.int)] = r.d := by rw [hr]; rfl
  rw [er]
  have hb6' : BoxAt S6 p (n + 2000) := hb6.1.mono (by omega)
  have sz : ∀ o, o ∈ cor kn.many → Sz 2900 (atO b kn (rs.map (spanQ b)) o) ∧ Mg (atO b kn (rs.map (spanQ b)) o) := fun o ho => reach_cor b0 b1 hk hl (by decide) hrs ho
  have rd := reach_dr b0 b1 hk hl (by decide) hrs
  clear hr er hb hb1 hb2 hb3 hb4 hb5 hb6 hfl hff
  refine ⟨b, kn, rs, r, rfl, hko, hl, hm, b0, b1, rok, ook, by have := ook.l; have := own.l; omega, fun o ho => (sz o ho).1, fun a ha M hM => ?_⟩
  have pa : p ≠ a := hb6'.ne ha
  have aM : a ≠ M := fun z => by rw [z, supd_same] at hM; cases hM
  have hM6 : S6 M = none := by rw [supd_ne aM.symm] at hM; exact hM
  have pM : p ≠ M := hb6'.ne hM6
  obtain ⟨C, hC⟩ : ∃ C, C = corL kn.many := ⟨_, rfl⟩
  have cl : C.length ≤ 8 := by rw [hC]; exact corL_len _ hm
  have nd : C.Nodup := by rw [hC]; exact corL_nd _ hm
  have cc : ∀ o, o ∈ C → o ∈ cor kn.many := fun o ho => corL_cor _ hm o (by rw [← hC]; exact ho)
  obtain ⟨K, hK⟩ : ∃ K, K = knownD b kn rs r C := ⟨_, rfl⟩
  have ek : (K.map fun kv => tkD kv.1) = C.map tqD := by rw [hK]; unfold knownD; rw [List.map_map]; exact List.map_congr_left fun o _ => tkD_kq o
  have sd := some_due b0 hko hl hm rok ook.m0
  rw [← hC] at sd ⊢
  rw [← hK]
  have gK : ∀ o, o ∈ C → dVal K (kq o) = some (.lst ((figO b kn rs r o).map .int)) := fun o ho => by rw [hK]; exact knownD_val nd ho
  have fl : ∀ o, (figO b kn rs r o).length ≤ 100000 := fun o => Nat.le_trans (figs_len ook.m0 own.m1) (by decide)
  unfold rd_Lright_4
  walk_at "dg7"
  refine ⟨a, K, rfl, .inl ⟨by rw [supd_ne aM]; exact supd_same, fun o1 vs => ?_⟩⟩
  walk_at "dg7"
  refine ⟨a, o1, vs, K, rfl, supd_same, ?_⟩
  rw [ek]
  -- what stands while all pairs are looked at
  obtain ⟨St, hSt⟩ : ∃ St : List Bool → Store → Prop, St = fun ts S' => S' a = some (.dU o1 vs K) ∧ S' M = some (.lst (ts.map .bl)) ∧ BoxAt S' p (n + 2000) := ⟨_, rfl⟩
  have st0 : St [] (supd (supd (supd S6 a (.dT K)) M (.lst [])) a (.dU o1 vs K)) := by
    rw [hSt]
    exact ⟨supd_same, by rw [supd_ne aM.symm]; exact supd_same, ((hb6'.other pa).other pM).other pa⟩
  refine ⟨fun i ρ S' => St ((C.take i).flatMap fun o1 => C.map fun o2 => dueB b kn rs r o1 o2) S' ∧ ∃ zs : List (Option D), ρ = some (.obj p) :: some (.int b) :: y2 :: some kn.d :: some (.lst (rs.map Rw.d)) :: some (.int m) :: some r.d :: some (.obj a) :: some (.obj M) :: zs ∧ zs.length = 8, ⟨st0, _, rfl, rfl⟩, fun i ρ S' h => by rw [hSt] at h; exact h.1.1, ?_, ?_⟩
  · rintro i d ρ S' hd ⟨st, zs, rfl, hz⟩
    match zs, hz with
    | [z9, z10, z11, z12, z13, z14, z15, z16], _ =>
    rw [List.getElem?_map] at hd
    obtain ⟨c1, hc1, rfl⟩ := Option.map_eq_some_iff.mp hd
    have m1' := List.mem_of_getElem? hc1
    refine ⟨_, rfl, ?_⟩
    walk_at "dg7"
    have sa : S' a = some (.dU o1 vs K) := by rw [hSt] at st; exact st.1
    refine ⟨a, K, rfl, .inr ⟨⟨_, _, sa⟩, ?_⟩⟩
    walk_at "dg7"
    refine ⟨a, o1, vs, K, rfl, sa, ?_⟩
    rw [ek]
    refine ⟨fun j ρ S'' => St (((C.take i).flatMap fun o1 => C.map fun o2 => dueB b kn rs r o1 o2) ++ (C.take j).map fun o2 => dueB b kn rs r c1 o2) S'' ∧ ∃ zs : List (Option D), ρ = some (.obj p) :: some (.int b) :: y2 :: some kn.d :: some (.lst (rs.map Rw.d)) :: some (.int m) :: some r.d :: some (.obj a) :: some (.obj M) :: some (tqD c1) :: zs ∧ zs.length = 7, ⟨by rw [List.take_zero, List.map_nil, List.append_nil]; exact st, _, rfl, rfl⟩, fun i ρ S' h => by rw [hSt] at h; exact h.1.1, ?_, ?_⟩
    · rintro j d ρ S2 hd2 ⟨st2, zs, rfl, hz⟩
      match zs, hz with
      | [z10, z11, z12, z13, z14, z15, z16], _ =>
      rw [List.getElem?_map] at hd2
      obtain ⟨c2, hc2, rfl⟩ := Option.map_eq_some_iff.mp hd2
      have m2' := List.mem_of_getElem? hc2
      have st3 := st2
      rw [hSt] at st3
      obtain ⟨s1, s2, s3⟩ := st3
      refine ⟨_, rfl, ?_⟩
      walk_at "dg7"
      have tc : tctOf S2 (.obj a) = some K := tct_dU s1
      rw [tc, tkOf_tq]
      dsimp only
      rw [gK c1 m1']
      walk_at "dg7"
      have dq : decide (((figO b kn rs r c1).filter fun d => decide (d ∈ figO b kn rs r c2)) = []) = dueB b kn rs r c1 c2 := by
        unfold dueB figO
        rw [Bool.eq_iff_iff, decide_eq_true_eq, decide_eq_true_eq]
        exact no_common ook.m0 _ _
      refine lc_filterA D.int D.int (fun d => decide (d ∈ figO b kn rs r c2)) (fl c1) (fun d hd => ⟨_, rfl, fun Q q => ?_, fun Q q => ?_⟩) ?_
      · walk_at "dg7"
        rw [tc, tkOf_tq]
        dsimp only
        rw [gK c2 m2']
        walk_at "dg7"
        have q2 : Q (((figO b kn rs r c2).map D.int).any fun z => eqFlat z (.int d)) S2 := by rw [any_ints]; exact q
        exact ⟨flat_ints, q2⟩
      · walk_at "dg7"
        exact q
      rw [show dEqB (.lst (((figO b kn rs r c1).filter fun d => decide (d ∈ figO b kn rs r c2)).map D.int)) (.lst []) = some (decide (((figO b kn rs r c1).filter fun d => decide (d ∈ figO b kn rs r c2)) = [])) from eqB_ints _ [], dq]
      dsimp only
      unfold rd_Lright_1
      walk_at "dg7"
      unfold tqD
      walk_at "dg7"
      refine ⟨b, kn, rs, r, _, rfl, hko, hl, by omega, b0, b1, rok, own, .inl ⟨c1, c2, rfl, cc c1 m1', cc c2 m2', sz, ?_⟩⟩
      refine same_okW (x := .bl (dueB b kn rs r c1 c2)) .bl ?_
      walk_at "dg7"
      refine ⟨_, s2, _, s2, ?_, ?_⟩
      · rw [List.length_map, List.length_append, List.length_map, List.length_take]
        have : ((C.take i).flatMap fun o1 => C.map fun o2 => dueB b kn rs r o1 o2).length ≤ 64 := by
          rw [List.length_flatMap]
          simp only [List.length_map]
          have : ((C.take i).map fun _ => C.length).sum ≤ 64 := by
            rw [List.map_const', List.sum_replicate_nat, List.length_take]
            exact Nat.le_trans (Nat.mul_le_mul (show min i C.length ≤ 8 by omega) cl) (by decide)
          exact this
        omega
      · refine ⟨?_, _, rfl, rfl⟩
        rw [hSt]
        refine ⟨by rw [supd_ne aM]; exact s1, ?_, s3.other pM⟩
        rw [supd_same, List.take_add_one, hc2]
        simp only [List.map_append, List.append_assoc, Option.toList, List.map_cons, List.map_nil]
    · rintro ρ S2 ⟨st2, zs, rfl, hz⟩
      rw [List.length_map, List.take_length] at st2
      refine ⟨?_, _, rfl, by simpa using hz⟩
      rw [List.take_add_one, hc1, List.flatMap_append]
      simpa using st2
  · rintro ρ S2 ⟨st2, zs, rfl, hz⟩
    rw [List.length_map, List.take_length] at st2
    match zs, hz with
    | [z9, z10, z11, z12, z13, z14, z15, z16], _ =>
    have st3 := st2
    rw [hSt] at st3
    obtain ⟨s1, s2, s3⟩ := st3
    clear hSt st2 st0
    walk_at "dg7"
    obtain ⟨ts, hts⟩ : ∃ ts, ts = (C.flatMap fun o1 => C.map fun o2 => dueB b kn rs r o1 o2) := ⟨_, rfl⟩
    rw [← hts] at s2 sd
    unfold cAny
    simp only [lstOf, s2, Option.bind, dBools_map, sd]
    walk_at "dg7"
    refine ⟨b, kn, rs, r, rfl, hko, hl, by omega, b0, b1, rok, own, rd.1, rd.2.1, rd.2.2.1, rd.2.2.2, ?_⟩
    have fin : rd_Lright_3 DD [some (.obj p), some (.int b), y2, some kn.d, some (.lst (rs.map Rw.d)), some (.int m), some r.d, some (.obj a), some (.obj M), z9, z10, z11, z12, z13, z14, z15, z16] S2 := by
      clear s2 sd hts
      unfold rd_Lright_3
      walk_at "dg7"
      refine ⟨by decide, by decide, fun i ρ S' => S' a = some (.dU o1 vs K) ∧ BoxAt S' p (n + 2000 + 30 * i) ∧ ∃ zs : List (Option D), ρ = some (.obj p) :: some (.int b) :: y2 :: some kn.d :: some (.lst (rs.map Rw.d)) :: some (.int m) :: some r.d :: some (.obj a) :: some (.obj M) :: zs ∧ zs.length = 8, ⟨s1, s3, _, rfl, rfl⟩, ?_, ?_⟩
      · rintro i d ρ S' hd ⟨s1, s3, zs, rfl, hz⟩
        obtain ⟨hi, rfl⟩ := rng_get hd
        have hi : i < 8 := hi
        match zs, hz with
        | [z9, z10, z11, z12, z13, z14, z15, z16], _ =>
        refine ⟨_, rfl, ?_⟩
        unfold rd_Lright_2
        walk_at "dg7"
        have ne : C ≠ [] := by
          rw [hC]
          rcases (by omega : kn.many = 0 ∨ kn.many = 1 ∨ kn.many = 2 ∨ kn.many = 3) with h | h | h | h <;> rw [h] <;> decide
        have pl : 0 < (C.map tqD).length := by rw [List.length_map]; exact List.length_pos_iff.mpr ne
        have pick : ∀ {S : Store} {k : Nat} {Q : D → Store → Prop}, BoxAt S p k → k ≤ 60000 → (∀ c S3, c ∈ C → Dk S S3 p (k + 1) → Q (tqD c) S3) → sp_Lof [.obj p, .lst (C.map tqD)] S Q := fun hb hk q =>
          ⟨p, _, C.map tqD, _, rfl, .inl rfl, pl, by rw [List.length_map]; omega, hb, by omega, fun x S3 hx d => by
            obtain ⟨c, hc, rfl⟩ := List.mem_map.mp hx
            exact q c S3 hc d.dk⟩
        rw [tct_dU s1]
        dsimp only
        rw [ek]
        refine pick s3 (by omega) fun c1 S3 m1' k3 => ?_
        have s13 := k3.2 a _ pa.symm s1
        walk_at "dg7"
        rw [tct_dU s13]
        dsimp only
        rw [ek]
        refine pick k3.1 (by omega) fun c2 S4 m2' k4 => ?_
        have s14 := k4.2 a _ pa.symm s13
        walk_at "dg7"
        unfold tqD
        walk_at "dg7"
        refine ⟨p, _, kn.many, c1, c2, rfl, k4.1, by omega, hm, cc c1 m1', cc c2 m2', fun x S5 ox k5 => ?_⟩
        have s15 := k5.2 a _ pa.symm s14
        have rp : ∀ (S : Store) (P : D → Store → Prop), P (.str (shownD x)) S → cRepr [x] S P := fun S P h => ⟨ox.2.2.mono (by decide) (by decide), h⟩
        walk_at "dg7"
        refine rp _ _ ?_
        walk_at "dg7"
        refine ⟨b, kn, rs, r, x, rfl, hko, hl, by omega, b0, b1, rok, own, .inr ⟨ox.1, ?_⟩⟩
        walk_at "dg7"
        refine rp _ _ ?_
        walk_at "dg7"
        exact ⟨s15, k5.1.mono (by omega), _, rfl, rfl⟩
      · rintro ρ S' ⟨s1, s3, zs, rfl, hz⟩
        rw [rng_len] at s3
        exact hnx _ _ (by simpa using hz) (s3.mono (by simp only [Int.reduceToNat]; omega))
    dsimp only
    unfold heldD
    by_cases c : figsR b r (reachQ b kn (rs.map (spanQ b))) = []
    · rw [if_pos c, decide_eq_true c]
      exact fin
    · rw [if_neg c, decide_eq_false c]
      exact fin
theorem vc_Lright : goal_Lright := by
  rintro x0 S P ⟨p, n, e, hb, hn, h⟩
  cases e
  unfold rd_Lright
  walk_at "dg7"
  refine ⟨p, n, rfl, hb, by omega, fun b S1 b0 b1 hb1 => ?_⟩
  walk_at "dg7"
  refine ⟨by decide, by decide, fun i ρ S' => BoxAt S' p (n + 1 + 3000 * i) ∧ ∃ zs : List (Option D), ρ = some (.obj p) :: some (.int b) :: zs ∧ zs.length = 15, ⟨hb1.1, _, rfl, rfl⟩, ?_, ?_⟩
  · rintro i d ρ S2 hd ⟨hb2, zs, rfl, hz⟩
    obtain ⟨hi, rfl⟩ := rng_get hd
    simp only [Int.reduceToNat] at hi
    match zs, hz with
    | [z2, z3, z4, z5, z6, z7, z8, z9, z10, z11, z12, z13, z14, z15, z16], _ =>
    refine ⟨_, rfl, ?_⟩
    exact turn_ok b0 b1 hb2 (by omega) fun zs S' hzl hb3 => ⟨hb3, _, rfl, by simpa using hzl⟩
  · rintro ρ S2 ⟨_, zs, rfl, hz⟩
    walk_at "dg7"
    exact h _
theorem vc_law : goal_law := by
  rintro x0 S P ⟨ns, e, hn, h⟩
  cases e
  unfold rd_law
  walk_at "dg7"
  rw [List.length_map]
  have e1 : (if (ns.length : Int) < 2 then (ns.length : Int) else 2) ≤ 2 ∧ 0 ≤ (if (ns.length : Int) < 2 then (ns.length : Int) else 2) := by split <;> omega
  generalize (if (ns.length : Int) < 2 then (ns.length : Int) else 2) = c at *
  refine ⟨by omega, by omega, by rw [rng_len]; omega, fun i acc S' => acc = List.replicate i (.bl true), rfl, ?_, ?_⟩
  · rintro i d acc S2 hd rfl
    obtain ⟨hi, rfl⟩ := rng_get hd
    refine ⟨_, rfl, ?_⟩
    walk_at "dg7"
    refine ⟨ns, _, rfl, by omega, by omega, fun p S3 hp hd3 => ?_⟩
    walk_at "dg7"
    refine ⟨p, 0, rfl, hd3.box, by decide, fun S4 => ?_⟩
    walk_at "dg7"
    rw [List.replicate_succ']
  · rintro acc S2 rfl
    walk_at "dg7"
    have hb : ∀ m : Nat, dBools (List.replicate m (.bl true)) = some (List.replicate m true) := fun m => by
      have := dBools_map (List.replicate m true)
      rwa [List.map_replicate] at this
    unfold cAll
    simp only [lstOf, Option.bind, hb]
    have ht : (List.replicate (rng 0 (1 + c).toNat).length true).all id = true := by simp
    rw [ht]
    exact h _
end K14

namespace K14
@[elab_as_elim] theorem us_1 {α : Type} {p : List α → Prop} (us : List α) (hl : us.length = 1) (h : ∀ a0, p [a0]) : p us := by
  match us, hl with
  | [a0], _ => exact h a0
@[elab_as_elim] theorem us_2 {α : Type} {p : List α → Prop} (us : List α) (hl : us.length = 2) (h : ∀ a0 a1, p [a0, a1]) : p us := by
  match us, hl with
  | [a0, a1], _ => exact h a0 a1
@[elab_as_elim] theorem us_3 {α : Type} {p : List α → Prop} (us : List α) (hl : us.length = 3) (h : ∀ a0 a1 a2, p [a0, a1, a2]) : p us := by
  match us, hl with
  | [a0, a1, a2], _ => exact h a0 a1 a2
@[elab_as_elim] theorem us_4 {α : Type} {p : List α → Prop} (us : List α) (hl : us.length = 4) (h : ∀ a0 a1 a2 a3, p [a0, a1, a2, a3]) : p us := by
  match us, hl with
  | [a0, a1, a2, a3], _ => exact h a0 a1 a2 a3
@[elab_as_elim] theorem us_5 {α : Type} {p : List α → Prop} (us : List α) (hl : us.length = 5) (h : ∀ a0 a1 a2 a3 a4, p [a0, a1, a2, a3, a4]) : p us := by
  match us, hl with
  | [a0, a1, a2, a3, a4], _ => exact h a0 a1 a2 a3 a4
@[elab_as_elim] theorem us_6 {α : Type} {p : List α → Prop} (us : List α) (hl : us.length = 6) (h : ∀ a0 a1 a2 a3 a4 a5, p [a0, a1, a2, a3, a4, a5]) : p us := by
  match us, hl with
  | [a0, a1, a2, a3, a4, a5], _ => exact h a0 a1 a2 a3 a4 a5
@[elab_as_elim] theorem us_7 {α : Type} {p : List α → Prop} (us : List α) (hl : us.length = 7) (h : ∀ a0 a1 a2 a3 a4 a5 a6, p [a0, a1, a2, a3, a4, a5, a6]) : p us := by
  match us, hl with
  | [a0, a1, a2, a3, a4, a5, a6], _ => exact h a0 a1 a2 a3 a4 a5 a6
@[elab_as_elim] theorem us_8 {α : Type} {p : List α → Prop} (us : List α) (hl : us.length = 8) (h : ∀ a0 a1 a2 a3 a4 a5 a6 a7, p [a0, a1, a2, a3, a4, a5, a6, a7]) : p us := by
  match us, hl with
  | [a0, a1, a2, a3, a4, a5, a6, a7], _ => exact h a0 a1 a2 a3 a4 a5 a6 a7
open PySem PySem.Spec PyProof.Rows L2 DL Lb
def topS (i : Nat) : Stmt := PySem.Challenge.pw_firstfigures_k14_pairs_that_show_it_or_n.main.body.getD i (.Pass ⟨0, 0, 0, 0⟩)
abbrev s_common : Stmt := topS 2
theorem sc_common : FnScope ["one", "other"] ["one", "other"] (defScope s_common) := ⟨rfl, rfl, rfl, by decide +kernel, rfl, by decide +kernel, by decide +kernel⟩
abbrev s_frac : Stmt := topS 3
theorem sc_frac : FnScope ["top", "bottom", "by"] ["top", "bottom"] (defScope s_frac) := ⟨rfl, rfl, rfl, by decide +kernel, rfl, by decide +kernel, by decide +kernel⟩
abbrev s_plus : Stmt := topS 4
theorem sc_plus : FnScope ["one", "other"] ["one", "other"] (defScope s_plus) := ⟨rfl, rfl, rfl, by decide +kernel, rfl, by decide +kernel, by decide +kernel⟩
abbrev s_minus : Stmt := topS 5
theorem sc_minus : FnScope ["one", "other"] ["one", "other"] (defScope s_minus) := ⟨rfl, rfl, rfl, by decide +kernel, rfl, by decide +kernel, by decide +kernel⟩
abbrev s_times : Stmt := topS 6
theorem sc_times : FnScope ["one", "other"] ["one", "other"] (defScope s_times) := ⟨rfl, rfl, rfl, by decide +kernel, rfl, by decide +kernel, by decide +kernel⟩
abbrev s_over : Stmt := topS 7
theorem sc_over : FnScope ["one", "other"] ["one", "other"] (defScope s_over) := ⟨rfl, rfl, rfl, by decide +kernel, rfl, by decide +kernel, by decide +kernel⟩
abbrev s_is_below : Stmt := topS 8
theorem sc_is_below : FnScope ["one", "other"] ["one", "other"] (defScope s_is_below) := ⟨rfl, rfl, rfl, by decide +kernel, rfl, by decide +kernel, by decide +kernel⟩
abbrev s_lesser : Stmt := topS 9
theorem sc_lesser : FnScope ["one", "other"] ["one", "other"] (defScope s_lesser) := ⟨rfl, rfl, rfl, by decide +kernel, rfl, by decide +kernel, by decide +kernel⟩
abbrev s_greater : Stmt := topS 10
theorem sc_greater : FnScope ["one", "other"] ["one", "other"] (defScope s_greater) := ⟨rfl, rfl, rfl, by decide +kernel, rfl, by decide +kernel, by decide +kernel⟩
abbrev s_power : Stmt := topS 11
theorem sc_power : FnScope ["base", "many", "found", "turn"] ["base", "many"] (defScope s_power) := ⟨rfl, rfl, rfl, by decide +kernel, rfl, by decide +kernel, by decide +kernel⟩
abbrev s_known_to : Stmt := topS 13
theorem sc_known_to : FnScope ["row", "begin", "most", "figures"] ["row"] (defScope s_known_to) := ⟨rfl, rfl, rfl, by decide +kernel, rfl, by decide +kernel, by decide +kernel⟩
abbrev s_whole_of : Stmt := topS 14
theorem sc_whole_of : FnScope ["base", "figures", "found", "figure"] ["base", "figures"] (defScope s_whole_of) := ⟨rfl, rfl, rfl, by decide +kernel, rfl, by decide +kernel, by decide +kernel⟩
abbrev s_worth_of : Stmt := topS 15
theorem sc_worth_of : FnScope ["base", "row"] ["base", "row"] (defScope s_worth_of) := ⟨rfl, rfl, rfl, by decide +kernel, rfl, by decide +kernel, by decide +kernel⟩
abbrev s_tail_of : Stmt := topS 16
theorem sc_tail_of : FnScope ["base", "row"] ["base", "row"] (defScope s_tail_of) := ⟨rfl, rfl, rfl, by decide +kernel, rfl, by decide +kernel, by decide +kernel⟩
abbrev s_span_of : Stmt := topS 17
theorem sc_span_of : FnScope ["base", "row", "worth", "tail"] ["base", "row"] (defScope s_span_of) := ⟨rfl, rfl, rfl, by decide +kernel, rfl, by decide +kernel, by decide +kernel⟩
abbrev s_many_of : Stmt := topS 20
theorem sc_many_of : FnScope ["kind", "word"] ["kind"] (defScope s_many_of) := ⟨rfl, rfl, rfl, by decide +kernel, rfl, by decide +kernel, by decide +kernel⟩
abbrev s_weighed : Stmt := topS 21
theorem sc_weighed : FnScope ["weights", "numbers", "by", "found", "weight", "number"] ["weights", "numbers", "by"] (defScope s_weighed) := ⟨rfl, rfl, rfl, by decide +kernel, rfl, by decide +kernel, by decide +kernel⟩
abbrev s_applied : Stmt := topS 22
theorem sc_applied : FnScope ["base", "kind", "numbers", "word", "one", "other"] ["base", "kind", "numbers"] (defScope s_applied) := ⟨rfl, rfl, rfl, by decide +kernel, rfl, by decide +kernel, by decide +kernel⟩
abbrev s_corners_of : Stmt := topS 23
theorem sc_corners_of : FnScope ["many", "found", "turn", "one", "end"] ["many"] (defScope s_corners_of) := ⟨rfl, rfl, rfl, by decide +kernel, rfl, by decide +kernel, by decide +kernel⟩
abbrev s_numbers_at : Stmt := topS 24
theorem sc_numbers_at : FnScope ["spans", "ends", "span", "end"] ["spans", "ends"] (defScope s_numbers_at) := ⟨rfl, rfl, rfl, by decide +kernel, rfl, by decide +kernel, by decide +kernel⟩
abbrev s_reach_of : Stmt := topS 25
theorem sc_reach_of : FnScope ["base", "kind", "rows", "spans", "row", "some", "ends", "least", "most", "one"] ["base", "kind", "rows"] (defScope s_reach_of) := ⟨rfl, rfl, rfl, by decide +kernel, rfl, by decide +kernel, by decide +kernel⟩
abbrev s_raised : Stmt := topS 27
theorem sc_raised : FnScope ["number"] ["number"] (defScope s_raised) := ⟨rfl, rfl, rfl, by decide +kernel, rfl, by decide +kernel, by decide +kernel⟩
abbrev s_figures_between : Stmt := topS 28
theorem sc_figures_between : FnScope ["base", "own", "least", "most", "begin", "top", "figures", "scale", "spread", "ahead", "low", "high"] ["base", "own", "least", "most"] (defScope s_figures_between) := ⟨rfl, rfl, rfl, by decide +kernel, rfl, by decide +kernel, by decide +kernel⟩
abbrev s_right_figures : Stmt := topS 29
theorem sc_right_figures : FnScope ["base", "kind", "rows", "own", "least", "most"] ["base", "kind", "rows", "own"] (defScope s_right_figures) := ⟨rfl, rfl, rfl, by decide +kernel, rfl, by decide +kernel, by decide +kernel⟩
abbrev s_number_at : Stmt := topS 30
theorem sc_number_at : FnScope ["base", "kind", "rows", "ends", "row"] ["base", "kind", "rows", "ends"] (defScope s_number_at) := ⟨rfl, rfl, rfl, by decide +kernel, rfl, by decide +kernel, by decide +kernel⟩
abbrev s_ends_of : Stmt := topS 31
theorem sc_ends_of : FnScope ["base", "kind", "rows", "some", "low", "high", "ends", "number"] ["base", "kind", "rows"] (defScope s_ends_of) := ⟨rfl, rfl, rfl, by decide +kernel, rfl, by decide +kernel, by decide +kernel⟩
abbrev s_held_by : Stmt := topS 32
theorem sc_held_by : FnScope ["base", "kind", "rows", "own"] ["base", "kind", "rows", "own"] (defScope s_held_by) := ⟨rfl, rfl, rfl, by decide +kernel, rfl, by decide +kernel, by decide +kernel⟩
abbrev s_are_ends : Stmt := topS 33
theorem sc_are_ends : FnScope ["many", "thing", "end"] ["many", "thing"] (defScope s_are_ends) := ⟨rfl, rfl, rfl, by decide +kernel, rfl, by decide +kernel, by decide +kernel⟩
abbrev s_shows_held : Stmt := topS 34
theorem sc_shows_held : FnScope ["base", "kind", "rows", "own", "thing", "ends", "one", "other", "least", "most"] ["base", "kind", "rows", "own", "thing"] (defScope s_shows_held) := ⟨rfl, rfl, rfl, by decide +kernel, rfl, by decide +kernel, by decide +kernel⟩
abbrev s_Lcell_at : Stmt := topS 36
theorem sc_Lcell_at : FnScope ["_law_script", "_law_k"] ["_law_script", "_law_k"] (defScope s_Lcell_at) := ⟨rfl, rfl, rfl, by decide +kernel, rfl, by decide +kernel, by decide +kernel⟩
abbrev s_Lbox : Stmt := topS 37
theorem sc_Lbox : FnScope ["_law_script", "_law_k", "_law_core"] ["_law_script", "_law_k"] (defScope s_Lbox) := ⟨rfl, rfl, rfl, by decide +kernel, rfl, by decide +kernel, by decide +kernel⟩
abbrev s_Ltake : Stmt := topS 38
theorem sc_Ltake : FnScope ["_law_box_here", "_law_size", "_law_found", "_law_once", "_law_twice"] ["_law_box_here", "_law_size"] (defScope s_Ltake) := ⟨rfl, rfl, rfl, by decide +kernel, rfl, by decide +kernel, by decide +kernel⟩
abbrev s_Lof : Stmt := topS 39
theorem sc_Lof : FnScope ["_law_box_here", "_law_some"] ["_law_box_here", "_law_some"] (defScope s_Lof) := ⟨rfl, rfl, rfl, by decide +kernel, rfl, by decide +kernel, by decide +kernel⟩
abbrev s_Lsame : Stmt := topS 40
theorem sc_Lsame : FnScope ["_law_found", "_law_due", "_law_key", "_law_one", "_law_two"] ["_law_found", "_law_due"] (defScope s_Lsame) := ⟨rfl, rfl, rfl, by decide +kernel, rfl, by decide +kernel, by decide +kernel⟩
abbrev s_Lbase : Stmt := topS 41
theorem sc_Lbase : FnScope ["_law_box_here"] ["_law_box_here"] (defScope s_Lbase) := ⟨rfl, rfl, rfl, by decide +kernel, rfl, by decide +kernel, by decide +kernel⟩
abbrev s_Lmost : Stmt := topS 42
theorem sc_Lmost : FnScope ["_law_box_here", "_law_base_here"] ["_law_box_here", "_law_base_here"] (defScope s_Lmost) := ⟨rfl, rfl, rfl, by decide +kernel, rfl, by decide +kernel, by decide +kernel⟩
abbrev s_Lfigures : Stmt := topS 43
theorem sc_Lfigures : FnScope ["_law_box_here", "_law_most_here", "_law_many_here", "_law_way", "_law_some", "_law_k", "_law_any_one"] ["_law_box_here", "_law_most_here", "_law_many_here"] (defScope s_Lfigures) := ⟨rfl, rfl, rfl, by decide +kernel, rfl, by decide +kernel, by decide +kernel⟩
abbrev s_Lrow : Stmt := topS 44
theorem sc_Lrow : FnScope ["_law_box_here", "_law_base_here", "_law_many_here", "_law_most_here"] ["_law_box_here", "_law_base_here", "_law_many_here"] (defScope s_Lrow) := ⟨rfl, rfl, rfl, by decide +kernel, rfl, by decide +kernel, by decide +kernel⟩
abbrev s_Lfrac : Stmt := topS 45
theorem sc_Lfrac : FnScope ["_law_top", "_law_under", "_law_big", "_law_small", "_law_sign"] ["_law_top", "_law_under"] (defScope s_Lfrac) := ⟨rfl, rfl, rfl, by decide +kernel, rfl, by decide +kernel, by decide +kernel⟩
abbrev s_Lplus : Stmt := topS 46
theorem sc_Lplus : FnScope ["_law_one", "_law_other"] ["_law_one", "_law_other"] (defScope s_Lplus) := ⟨rfl, rfl, rfl, by decide +kernel, rfl, by decide +kernel, by decide +kernel⟩
abbrev s_Lless : Stmt := topS 47
theorem sc_Lless : FnScope ["_law_one", "_law_other"] ["_law_one", "_law_other"] (defScope s_Lless) := ⟨rfl, rfl, rfl, by decide +kernel, rfl, by decide +kernel, by decide +kernel⟩
abbrev s_Ltimes : Stmt := topS 48
theorem sc_Ltimes : FnScope ["_law_one", "_law_other"] ["_law_one", "_law_other"] (defScope s_Ltimes) := ⟨rfl, rfl, rfl, by decide +kernel, rfl, by decide +kernel, by decide +kernel⟩
abbrev s_Lbelow : Stmt := topS 49
theorem sc_Lbelow : FnScope ["_law_one", "_law_other"] ["_law_one", "_law_other"] (defScope s_Lbelow) := ⟨rfl, rfl, rfl, by decide +kernel, rfl, by decide +kernel, by decide +kernel⟩
abbrev s_Lpower : Stmt := topS 50
theorem sc_Lpower : FnScope ["_law_base_here", "_law_size", "_law_found", "_law_turn"] ["_law_base_here", "_law_size"] (defScope s_Lpower) := ⟨rfl, rfl, rfl, by decide +kernel, rfl, by decide +kernel, by decide +kernel⟩
abbrev s_Lworth : Stmt := topS 51
theorem sc_Lworth : FnScope ["_law_base_here", "_law_row_here", "_law_found", "_law_k", "_law_figure"] ["_law_base_here", "_law_row_here"] (defScope s_Lworth) := ⟨rfl, rfl, rfl, by decide +kernel, rfl, by decide +kernel, by decide +kernel⟩
abbrev s_Lspan : Stmt := topS 52
theorem sc_Lspan : FnScope ["_law_base_here", "_law_row_here", "_law_off", "_law_mid"] ["_law_base_here", "_law_row_here"] (defScope s_Lspan) := ⟨rfl, rfl, rfl, by decide +kernel, rfl, by decide +kernel, by decide +kernel⟩
abbrev s_Lover : Stmt := topS 53
theorem sc_Lover : FnScope ["_law_one", "_law_other"] ["_law_one", "_law_other"] (defScope s_Lover) := ⟨rfl, rfl, rfl, by decide +kernel, rfl, by decide +kernel, by decide +kernel⟩
abbrev s_Lkind : Stmt := topS 54
theorem sc_Lkind : FnScope ["_law_box_here", "_law_words", "_law_word", "_law_sizes", "_law_turn", "_law_weights", "_law_size"] ["_law_box_here", "_law_words"] (defScope s_Lkind) := ⟨rfl, rfl, rfl, by decide +kernel, rfl, by decide +kernel, by decide +kernel⟩
abbrev s_Lmany : Stmt := topS 55
theorem sc_Lmany : FnScope ["_law_kind_here"] ["_law_kind_here"] (defScope s_Lmany) := ⟨rfl, rfl, rfl, by decide +kernel, rfl, by decide +kernel, by decide +kernel⟩
abbrev s_Lcame : Stmt := topS 56
theorem sc_Lcame : FnScope ["_law_base_here", "_law_kind_here", "_law_some", "_law_word", "_law_total", "_law_weight", "_law_one", "_law_other", "_law_clip"] ["_law_base_here", "_law_kind_here", "_law_some"] (defScope s_Lcame) := ⟨rfl, rfl, rfl, by decide +kernel, rfl, by decide +kernel, by decide +kernel⟩
abbrev s_Lsources : Stmt := topS 57
theorem sc_Lsources : FnScope ["_law_box_here", "_law_base_here", "_law_kind_here", "_law_many_here", "_law_turn"] ["_law_box_here", "_law_base_here", "_law_kind_here", "_law_many_here"] (defScope s_Lsources) := ⟨rfl, rfl, rfl, by decide +kernel, rfl, by decide +kernel, by decide +kernel⟩
abbrev s_Lchoosing : Stmt := topS 58
theorem sc_Lchoosing : FnScope ["_law_some"] [] (defScope s_Lchoosing) := ⟨rfl, rfl, rfl, by decide +kernel, rfl, by decide +kernel, by decide +kernel⟩
abbrev s_Lholds : Stmt := topS 59
theorem sc_Lholds : FnScope ["_law_base_here", "_law_row_here", "_law_pair", "_law_span_here"] ["_law_base_here", "_law_row_here", "_law_pair"] (defScope s_Lholds) := ⟨rfl, rfl, rfl, by decide +kernel, rfl, by decide +kernel, by decide +kernel⟩
abbrev s_Lfigures_right : Stmt := topS 60
theorem sc_Lfigures_right : FnScope ["_law_base_here", "_law_pair", "_law_own", "_law_begin", "_law_most_here", "_law_given", "_law_some", "_law_one"] ["_law_base_here", "_law_pair", "_law_own"] (defScope s_Lfigures_right) := ⟨rfl, rfl, rfl, by decide +kernel, rfl, by decide +kernel, by decide +kernel⟩
abbrev s_Lcorners : Stmt := topS 61
theorem sc_Lcorners : FnScope ["_law_many_here", "_law_at", "_law_step"] ["_law_many_here"] (defScope s_Lcorners) := ⟨rfl, rfl, rfl, by decide +kernel, rfl, by decide +kernel, by decide +kernel⟩
abbrev s_Lby_corners : Stmt := topS 62
theorem sc_Lby_corners : FnScope ["_law_base_here", "_law_kind_here", "_law_rows", "_law_own", "_law_found", "_law_ends", "_law_one", "_law_row_here", "_law_end"] ["_law_base_here", "_law_kind_here", "_law_rows", "_law_own"] (defScope s_Lby_corners) := ⟨rfl, rfl, rfl, by decide +kernel, rfl, by decide +kernel, by decide +kernel⟩
abbrev s_Lodd : Stmt := topS 63
theorem sc_Lodd : FnScope ["_law_box_here", "_law_pair", "_law_way", "_law_at", "_law_some", "_law_few", "_law_end"] ["_law_box_here", "_law_pair"] (defScope s_Lodd) := ⟨rfl, rfl, rfl, by decide +kernel, rfl, by decide +kernel, by decide +kernel⟩
abbrev s_Lright : Stmt := topS 64
theorem sc_Lright : FnScope ["_law_box_here", "_law_base_here", "_law_turn", "_law_kind_here", "_law_rows", "_law_most_here", "_law_own", "_law_known", "_law_told", "_law_one", "_law_other", "_law_due", "_law_figure", "_law_again", "_law_pair", "_law_odd_here", "_law_kept"] ["_law_box_here"] (defScope s_Lright) := ⟨rfl, rfl, rfl, by decide +kernel, rfl, by decide +kernel, by decide +kernel⟩
abbrev s_law : Stmt := topS 65
theorem sc_law : FnScope ["_law_script", "_law_k"] ["_law_script"] (defScope s_law) := ⟨rfl, rfl, rfl, by decide +kernel, rfl, by decide +kernel, by decide +kernel⟩
/-- the built-in names that the top leaves as they are -/
structure Tx (w : World) (K : PySem.W.Frag) (mg : Str → Option Value) : Prop where
  n_abs : mg "abs" = none
  n_all : mg "all" = none
  n_any : mg "any" = none
  n_bool : mg "bool" = none
  n_dict : mg "dict" = none
  n_enumerate : mg "enumerate" = none
  n_int : mg "int" = none
  n_isinstance : mg "isinstance" = none
  n_len : mg "len" = none
  n_list : mg "list" = none
  n_max : mg "max" = none
  n_min : mg "min" = none
  n_range : mg "range" = none
  n_repr : mg "repr" = none
  n_str : mg "str" = none
  n_tuple : mg "tuple" = none
  n_zip : mg "zip" = none
  c_BARE_KINDS : ∃ u, mg "BARE_KINDS" = some u ∧ KdAt K w u [("times", 2), ("least", 2), ("most", 2), ("choose", 3)] ["sum", "loose", "moved", "told", "times", "over", "least", "most", "choose"]
  c_NOUGHT : ∃ u, mg "NOUGHT" = some u ∧ TupK K u [.int 0, .int 1]
section
variable {P : Program} {w : World} {K : PySem.W.Frag} {mg : Str → Option Value} {base : Heap}
theorem ok_common {f : Addr} {fd : FuncData} (F : Fun K "common" "common" s_common f fd) (T : Tx w K mg) (vc : goal_common) (len : ∀ ds S P, sp_common ds S P → ds.length = 2)
     : FnD P w K mg base 1 f fd ["one", "other"] sp_common :=
  fn_d F sc_common len fun cdv A outer s H E hr => ⟨rd_common, (have nd := sc_common.nd
  (jss_cons
  (js_while PassesOwn.never (jt_gt (je_var 1) je_int) (jss_one
  (js_par 0 1 rfl nd rfl rfl (by decide) rfl rfl (ja_cons (je_var 1) (ja_cons (je_mod (je_var 0) (je_var 1)) ja_nil)) (by rfl)))) (jss_one
  (js_ret (je_var 0))))), Vs2 len vc⟩
theorem ok_frac {f : Addr} {fd : FuncData} {dvs : List V} {kws : List (Str × V)} (F : FunD K "frac" "frac" (defArgs s_frac) (defBody s_frac) (defScope s_frac) dvs kws f fd) (T : Tx w K mg) (vc : goal_frac) (len : ∀ ds S P, sp_frac ds S P → ds.length = 2)
    {f_common : Addr} {fd_common : FuncData} (G_common : Does P w K mg base 1 "common" ["one", "other"] f_common fd_common sp_common) : FnD P w K mg base 2 f fd ["top", "bottom"] sp_frac :=
  fn_dD F sc_frac len fun cdv A outer s H E hr => ⟨rd_frac, (have nd := sc_frac.nd
  (jss_cons
  (js_set 2 nd rfl (by first | exact Or.inl rfl | exact Or.inr rfl) (je_f G_common hr (ja_cons (je_abs T.n_abs (ja_cons (je_var 0) ja_nil)) (ja_cons (je_abs T.n_abs (ja_cons (je_var 1) ja_nil)) ja_nil)))) (jss_cons
  (js_set 2 nd rfl (by first | exact Or.inl rfl | exact Or.inr rfl) (je_ifE (jt_gt (je_var 1) je_int) (je_var 2) (je_neg (je_var 2)))) (jss_one
  (js_ret (je_tup (ja_cons (je_fdiv (je_var 0) (je_var 2)) (ja_cons (je_fdiv (je_var 1) (je_var 2)) ja_nil)))))))), Vs2 len vc⟩
theorem ok_plus {f : Addr} {fd : FuncData} (F : Fun K "plus" "plus" s_plus f fd) (T : Tx w K mg) (vc : goal_plus) (len : ∀ ds S P, sp_plus ds S P → ds.length = 2)
    {f_frac : Addr} {fd_frac : FuncData} (G_frac : Does P w K mg base 2 "frac" ["top", "bottom"] f_frac fd_frac sp_frac) : FnD P w K mg base 3 f fd ["one", "other"] sp_plus :=
  fn_d F sc_plus len fun cdv A outer s H E hr => ⟨rd_plus, (have nd := sc_plus.nd
  (jss_one
  (js_ret (je_f G_frac hr (ja_cons (je_add (je_mul (je_ix (je_var 0) je_int) (je_ix (je_var 1) je_int)) (je_mul (je_ix (je_var 1) je_int) (je_ix (je_var 0) je_int))) (ja_cons (je_mul (je_ix (je_var 0) je_int) (je_ix (je_var 1) je_int)) ja_nil)))))), Vs2 len vc⟩
theorem ok_minus {f : Addr} {fd : FuncData} (F : Fun K "minus" "minus" s_minus f fd) (T : Tx w K mg) (vc : goal_minus) (len : ∀ ds S P, sp_minus ds S P → ds.length = 2)
    {f_frac : Addr} {fd_frac : FuncData} (G_frac : Does P w K mg base 2 "frac" ["top", "bottom"] f_frac fd_frac sp_frac) : FnD P w K mg base 3 f fd ["one", "other"] sp_minus :=
  fn_d F sc_minus len fun cdv A outer s H E hr => ⟨rd_minus, (have nd := sc_minus.nd
  (jss_one
  (js_ret (je_f G_frac hr (ja_cons (je_sub (je_mul (je_ix (je_var 0) je_int) (je_ix (je_var 1) je_int)) (je_mul (je_ix (je_var 1) je_int) (je_ix (je_var 0) je_int))) (ja_cons (je_mul (je_ix (je_var 0) je_int) (je_ix (je_var 1) je_int)) ja_nil)))))), Vs2 len vc⟩
theorem ok_times {f : Addr} {fd : FuncData} (F : Fun K "times" "times" s_times f fd) (T : Tx w K mg) (vc : goal_times) (len : ∀ ds S P, sp_times ds S P → ds.length = 2)
    {f_frac : Addr} {fd_frac : FuncData} (G_frac : Does P w K mg base 2 "frac" ["top", "bottom"] f_frac fd_frac sp_frac) : FnD P w K mg base 3 f fd ["one", "other"] sp_times :=
  fn_d F sc_times len fun cdv A outer s H E hr => ⟨rd_times, (have nd := sc_times.nd
  (jss_one
  (js_ret (je_f G_frac hr (ja_cons (je_mul (je_ix (je_var 0) je_int) (je_ix (je_var 1) je_int)) (ja_cons (je_mul (je_ix (je_var 0) je_int) (je_ix (je_var 1) je_int)) ja_nil)))))), Vs2 len vc⟩
theorem ok_over {f : Addr} {fd : FuncData} (F : Fun K "over" "over" s_over f fd) (T : Tx w K mg) (vc : goal_over) (len : ∀ ds S P, sp_over ds S P → ds.length = 2)
    {f_frac : Addr} {fd_frac : FuncData} (G_frac : Does P w K mg base 2 "frac" ["top", "bottom"] f_frac fd_frac sp_frac) : FnD P w K mg base 3 f fd ["one", "other"] sp_over :=
  fn_d F sc_over len fun cdv A outer s H E hr => ⟨rd_over, (have nd := sc_over.nd
  (jss_one
  (js_ret (je_f G_frac hr (ja_cons (je_mul (je_ix (je_var 0) je_int) (je_ix (je_var 1) je_int)) (ja_cons (je_mul (je_ix (je_var 0) je_int) (je_ix (je_var 1) je_int)) ja_nil)))))), Vs2 len vc⟩
theorem ok_is_below {f : Addr} {fd : FuncData} (F : Fun K "is_below" "is_below" s_is_below f fd) (T : Tx w K mg) (vc : goal_is_below) (len : ∀ ds S P, sp_is_below ds S P → ds.length = 2)
     : FnD P w K mg base 1 f fd ["one", "other"] sp_is_below :=
  fn_d F sc_is_below len fun cdv A outer s H E hr => ⟨rd_is_below, (have nd := sc_is_below.nd
  (jss_one
  (js_ret (je_lt (je_mul (je_ix (je_var 0) je_int) (je_ix (je_var 1) je_int)) (je_mul (je_ix (je_var 1) je_int) (je_ix (je_var 0) je_int)))))), Vs2 len vc⟩
theorem ok_lesser {f : Addr} {fd : FuncData} (F : Fun K "lesser" "lesser" s_lesser f fd) (T : Tx w K mg) (vc : goal_lesser) (len : ∀ ds S P, sp_lesser ds S P → ds.length = 2)
    {f_is_below : Addr} {fd_is_below : FuncData} (G_is_below : Does P w K mg base 1 "is_below" ["one", "other"] f_is_below fd_is_below sp_is_below) : FnD P w K mg base 2 f fd ["one", "other"] sp_lesser :=
  fn_d F sc_lesser len fun cdv A outer s H E hr => ⟨rd_lesser, (have nd := sc_lesser.nd
  (jss_one
  (js_ret (je_ifE (jt_val (je_f G_is_below hr (ja_cons (je_var 1) (ja_cons (je_var 0) ja_nil)))) (je_var 1) (je_var 0))))), Vs2 len vc⟩
theorem ok_greater {f : Addr} {fd : FuncData} (F : Fun K "greater" "greater" s_greater f fd) (T : Tx w K mg) (vc : goal_greater) (len : ∀ ds S P, sp_greater ds S P → ds.length = 2)
    {f_is_below : Addr} {fd_is_below : FuncData} (G_is_below : Does P w K mg base 1 "is_below" ["one", "other"] f_is_below fd_is_below sp_is_below) : FnD P w K mg base 2 f fd ["one", "other"] sp_greater :=
  fn_d F sc_greater len fun cdv A outer s H E hr => ⟨rd_greater, (have nd := sc_greater.nd
  (jss_one
  (js_ret (je_ifE (jt_val (je_f G_is_below hr (ja_cons (je_var 0) (ja_cons (je_var 1) ja_nil)))) (je_var 1) (je_var 0))))), Vs2 len vc⟩
theorem ok_power {f : Addr} {fd : FuncData} (F : Fun K "power" "power" s_power f fd) (T : Tx w K mg) (vc : goal_power) (len : ∀ ds S P, sp_power ds S P → ds.length = 2)
     : FnD P w K mg base 1 f fd ["base", "many"] sp_power :=
  fn_d F sc_power len fun cdv A outer s H E hr => ⟨rd_power, (have nd := sc_power.nd
  (jss_cons
  (js_set 2 nd rfl (by first | exact Or.inl rfl | exact Or.inr rfl) je_int) (jss_cons
  (js_for PassesOwn.never rfl (ji_range1 T.n_range (ja_cons (je_abs T.n_abs (ja_cons (je_var 1) ja_nil)) ja_nil)) (jg_name 3 nd rfl (by first | exact Or.inl rfl | exact Or.inr rfl)) (jss_one
  (js_imul 2 nd rfl (by first | exact Or.inl rfl | exact Or.inr rfl) (je_var 0)))) (jss_one
  (js_ret (je_ifE (jt_ge (je_var 1) je_int) (je_tup (ja_cons (je_var 2) (ja_cons je_int ja_nil))) (je_tup (ja_cons je_int (ja_cons (je_var 2) ja_nil))))))))), Vs2 len vc⟩
theorem ok_known_to {f : Addr} {fd : FuncData} (F : Fun K "known_to" "known_to" s_known_to f fd) (T : Tx w K mg) (vc : goal_known_to) (len : ∀ ds S P, sp_known_to ds S P → ds.length = 1)
     : FnD P w K mg base 1 f fd ["row"] sp_known_to :=
  fn_d F sc_known_to len fun cdv A outer s H E hr => ⟨rd_known_to, (have nd := sc_known_to.nd
  (jss_cons
  (js_asg (je_var 0) (jg_tup rfl (jgs_cons (jg_name 1 nd rfl (by first | exact Or.inl rfl | exact Or.inr rfl)) (jgs_cons (jg_name 2 nd rfl (by first | exact Or.inl rfl | exact Or.inr rfl)) (jgs_cons (jg_name 3 nd rfl (by first | exact Or.inl rfl | exact Or.inr rfl)) jgs_nil))))) (jss_one
  (js_ret (je_sub (je_len T.n_len (ja_cons (je_var 3) ja_nil)) (je_var 1)))))), Vs1 len vc⟩
theorem ok_whole_of {f : Addr} {fd : FuncData} (F : Fun K "whole_of" "whole_of" s_whole_of f fd) (T : Tx w K mg) (vc : goal_whole_of) (len : ∀ ds S P, sp_whole_of ds S P → ds.length = 2)
     : FnD P w K mg base 1 f fd ["base", "figures"] sp_whole_of :=
  fn_d F sc_whole_of len fun cdv A outer s H E hr => ⟨rd_whole_of, (have nd := sc_whole_of.nd
  (jss_cons
  (js_set 2 nd rfl (by first | exact Or.inl rfl | exact Or.inr rfl) je_int) (jss_cons
  (js_for PassesOwn.never rfl (ji_seq (je_var 1)) (jg_name 3 nd rfl (by first | exact Or.inl rfl | exact Or.inr rfl)) (jss_one
  (js_set 2 nd rfl (by first | exact Or.inl rfl | exact Or.inr rfl) (je_add (je_mul (je_var 2) (je_var 0)) (je_var 3))))) (jss_one
  (js_ret (je_var 2)))))), Vs2 len vc⟩
theorem ok_worth_of {f : Addr} {fd : FuncData} (F : Fun K "worth_of" "worth_of" s_worth_of f fd) (T : Tx w K mg) (vc : goal_worth_of) (len : ∀ ds S P, sp_worth_of ds S P → ds.length = 2)
    {f_times : Addr} {fd_times : FuncData} (G_times : Does P w K mg base 3 "times" ["one", "other"] f_times fd_times sp_times)
    {f_power : Addr} {fd_power : FuncData} (G_power : Does P w K mg base 1 "power" ["base", "many"] f_power fd_power sp_power)
    {f_known_to : Addr} {fd_known_to : FuncData} (G_known_to : Does P w K mg base 1 "known_to" ["row"] f_known_to fd_known_to sp_known_to)
    {f_whole_of : Addr} {fd_whole_of : FuncData} (G_whole_of : Does P w K mg base 1 "whole_of" ["base", "figures"] f_whole_of fd_whole_of sp_whole_of) : FnD P w K mg base 4 f fd ["base", "row"] sp_worth_of :=
  fn_d F sc_worth_of len fun cdv A outer s H E hr => ⟨rd_worth_of, (have nd := sc_worth_of.nd
  (jss_one
  (js_ret (je_f G_times hr (ja_cons (je_tup (ja_cons (je_f G_whole_of hr (ja_cons (je_var 0) (ja_cons (je_ix (je_var 1) je_int) ja_nil))) (ja_cons je_int ja_nil))) (ja_cons (je_f G_power hr (ja_cons (je_var 0) (ja_cons (je_neg (je_f G_known_to hr (ja_cons (je_var 1) ja_nil))) ja_nil))) ja_nil)))))), Vs2 len vc⟩
theorem ok_tail_of {f : Addr} {fd : FuncData} (F : Fun K "tail_of" "tail_of" s_tail_of f fd) (T : Tx w K mg) (vc : goal_tail_of) (len : ∀ ds S P, sp_tail_of ds S P → ds.length = 2)
    {f_times : Addr} {fd_times : FuncData} (G_times : Does P w K mg base 3 "times" ["one", "other"] f_times fd_times sp_times)
    {f_power : Addr} {fd_power : FuncData} (G_power : Does P w K mg base 1 "power" ["base", "many"] f_power fd_power sp_power)
    {f_known_to : Addr} {fd_known_to : FuncData} (G_known_to : Does P w K mg base 1 "known_to" ["row"] f_known_to fd_known_to sp_known_to)
    {f_frac : Addr} {fd_frac : FuncData} (G_frac : Does P w K mg base 2 "frac" ["top", "bottom"] f_frac fd_frac sp_frac) : FnD P w K mg base 4 f fd ["base", "row"] sp_tail_of :=
  fn_d F sc_tail_of len fun cdv A outer s H E hr => ⟨rd_tail_of, (have nd := sc_tail_of.nd
  (jss_one
  (js_ret (je_f G_times hr (ja_cons (je_f G_frac hr (ja_cons (je_ix (je_var 1) je_int) (ja_cons (je_sub (je_var 0) je_int) ja_nil))) (ja_cons (je_f G_power hr (ja_cons (je_var 0) (ja_cons (je_neg (je_f G_known_to hr (ja_cons (je_var 1) ja_nil))) ja_nil))) ja_nil)))))), Vs2 len vc⟩
theorem ok_span_of {f : Addr} {fd : FuncData} (F : Fun K "span_of" "span_of" s_span_of f fd) (T : Tx w K mg) (vc : goal_span_of) (len : ∀ ds S P, sp_span_of ds S P → ds.length = 2)
    {f_worth_of : Addr} {fd_worth_of : FuncData} (G_worth_of : Does P w K mg base 4 "worth_of" ["base", "row"] f_worth_of fd_worth_of sp_worth_of)
    {f_tail_of : Addr} {fd_tail_of : FuncData} (G_tail_of : Does P w K mg base 4 "tail_of" ["base", "row"] f_tail_of fd_tail_of sp_tail_of)
    {f_plus : Addr} {fd_plus : FuncData} (G_plus : Does P w K mg base 3 "plus" ["one", "other"] f_plus fd_plus sp_plus)
    {f_minus : Addr} {fd_minus : FuncData} (G_minus : Does P w K mg base 3 "minus" ["one", "other"] f_minus fd_minus sp_minus) : FnD P w K mg base 5 f fd ["base", "row"] sp_span_of :=
  fn_d F sc_span_of len fun cdv A outer s H E hr => ⟨rd_span_of, (have nd := sc_span_of.nd
  (jss_cons
  (js_par 2 3 rfl nd rfl rfl (by decide) rfl rfl (ja_cons (je_f G_worth_of hr (ja_cons (je_var 0) (ja_cons (je_var 1) ja_nil))) (ja_cons (je_f G_tail_of hr (ja_cons (je_var 0) (ja_cons (je_var 1) ja_nil))) ja_nil)) (by rfl)) (jss_one
  (js_ret (je_tup (ja_cons (je_f G_minus hr (ja_cons (je_var 2) (ja_cons (je_var 3) ja_nil))) (ja_cons (je_f G_plus hr (ja_cons (je_var 2) (ja_cons (je_var 3) ja_nil))) ja_nil))))))), Vs2 len vc⟩
theorem ok_many_of {f : Addr} {fd : FuncData} (F : Fun K "many_of" "many_of" s_many_of f fd) (T : Tx w K mg) (vc : goal_many_of) (len : ∀ ds S P, sp_many_of ds S P → ds.length = 1)
     : FnD P w K mg base 1 f fd ["kind"] sp_many_of :=
  fn_d F sc_many_of len fun cdv A outer s H E hr => ⟨rd_many_of, (have nd := sc_many_of.nd
  (jss_cons
  (js_set 1 nd rfl (by first | exact Or.inl rfl | exact Or.inr rfl) (je_ix (je_var 0) je_int)) (jss_cons
  (js_if (jt_in (je_var 1) (je_tup (ja_cons je_str (ja_cons je_str ja_nil)))) (jss_one
  (js_ret (je_len T.n_len (ja_cons (je_ix (je_var 0) je_int) ja_nil)))) jss_nil) (jss_one
  (js_ret (je_kget T.c_BARE_KINDS (je_var 1) (je_dispGet [("moved", 1), ("over", 2)] hr (pps_cons pe_str pe_int (pps_cons pe_str pe_int pps_nil)) (je_var 1) je_int ⟨rfl, rfl, rfl, rfl⟩ (by decide +kernel)) ⟨rfl, rfl, rfl, rfl⟩)))))), Vs1 len vc⟩
theorem ok_weighed {f : Addr} {fd : FuncData} (F : Fun K "weighed" "weighed" s_weighed f fd) (T : Tx w K mg) (vc : goal_weighed) (len : ∀ ds S P, sp_weighed ds S P → ds.length = 3)
    {f_plus : Addr} {fd_plus : FuncData} (G_plus : Does P w K mg base 3 "plus" ["one", "other"] f_plus fd_plus sp_plus)
    {f_times : Addr} {fd_times : FuncData} (G_times : Does P w K mg base 3 "times" ["one", "other"] f_times fd_times sp_times)
    {f_over : Addr} {fd_over : FuncData} (G_over : Does P w K mg base 3 "over" ["one", "other"] f_over fd_over sp_over) : FnD P w K mg base 4 f fd ["weights", "numbers", "by"] sp_weighed :=
  fn_d F sc_weighed len fun cdv A outer s H E hr => ⟨rd_weighed, (have nd := sc_weighed.nd
  (jss_cons
  (js_set 3 nd rfl (by first | exact Or.inl rfl | exact Or.inr rfl) (je_cT T.c_NOUGHT fun _ => (RepL.cons rep_int (RepL.cons rep_int RepL.nil)))) (jss_cons
  (js_for PassesOwn.never rfl (ji_zipS T.n_zip (ja_cons (je_var 0) (ja_cons (je_var 1) ja_nil))) (jg_tup rfl (jgs_cons (jg_name 4 nd rfl (by first | exact Or.inl rfl | exact Or.inr rfl)) (jgs_cons (jg_name 5 nd rfl (by first | exact Or.inl rfl | exact Or.inr rfl)) jgs_nil))) (jss_one
  (js_set 3 nd rfl (by first | exact Or.inl rfl | exact Or.inr rfl) (je_f G_plus hr (ja_cons (je_var 3) (ja_cons (je_f G_times hr (ja_cons (je_tup (ja_cons (je_var 4) (ja_cons je_int ja_nil))) (ja_cons (je_var 5) ja_nil))) ja_nil)))))) (jss_one
  (js_ret (je_f G_over hr (ja_cons (je_var 3) (ja_cons (je_tup (ja_cons (je_var 2) (ja_cons je_int ja_nil))) ja_nil)))))))), Vs3 len vc⟩
theorem ok_applied {f : Addr} {fd : FuncData} (F : Fun K "applied" "applied" s_applied f fd) (T : Tx w K mg) (vc : goal_applied) (len : ∀ ds S P, sp_applied ds S P → ds.length = 3)
    {f_weighed : Addr} {fd_weighed : FuncData} (G_weighed : Does P w K mg base 4 "weighed" ["weights", "numbers", "by"] f_weighed fd_weighed sp_weighed)
    {f_times : Addr} {fd_times : FuncData} (G_times : Does P w K mg base 3 "times" ["one", "other"] f_times fd_times sp_times)
    {f_power : Addr} {fd_power : FuncData} (G_power : Does P w K mg base 1 "power" ["base", "many"] f_power fd_power sp_power)
    {f_over : Addr} {fd_over : FuncData} (G_over : Does P w K mg base 3 "over" ["one", "other"] f_over fd_over sp_over)
    {f_greater : Addr} {fd_greater : FuncData} (G_greater : Does P w K mg base 2 "greater" ["one", "other"] f_greater fd_greater sp_greater)
    {f_lesser : Addr} {fd_lesser : FuncData} (G_lesser : Does P w K mg base 2 "lesser" ["one", "other"] f_lesser fd_lesser sp_lesser) : FnD P w K mg base 5 f fd ["base", "kind", "numbers"] sp_applied :=
  fn_d F sc_applied len fun cdv A outer s H E hr => ⟨rd_applied, (have nd := sc_applied.nd
  (jss_cons
  (js_set 3 nd rfl (by first | exact Or.inl rfl | exact Or.inr rfl) (je_ix (je_var 1) je_int)) (jss_cons
  (js_if (jt_eq hr (je_var 3) je_str) (jss_one
  (js_ret (je_f G_weighed hr (ja_cons (je_ix (je_var 1) je_int) (ja_cons (je_var 2) (ja_cons (je_ix (je_var 1) je_int) ja_nil)))))) jss_nil) (jss_cons
  (js_if (jt_eq hr (je_var 3) je_str) (jss_one
  (js_ret (je_f G_weighed hr (ja_cons (je_ix (je_var 1) je_int) (ja_cons (je_var 2) (ja_cons je_int ja_nil)))))) jss_nil) (jss_cons
  (js_if (jt_eq hr (je_var 3) je_str) (jss_one
  (js_ret (je_f G_times hr (ja_cons (je_ix (je_var 2) je_int) (ja_cons (je_f G_power hr (ja_cons (je_var 0) (ja_cons (je_ix (je_var 1) je_int) ja_nil))) ja_nil))))) jss_nil) (jss_cons
  (js_if (jt_eq hr (je_var 3) je_str) (jss_one
  (js_ret (je_ix (je_var 1) je_int))) jss_nil) (jss_cons
  (js_if (jt_eq hr (je_var 3) je_str) (jss_one
  (js_ret (je_ifE (jt_lt (je_ix (je_ix (je_var 2) je_int) je_int) je_int) (je_ix (je_var 2) je_int) (je_ix (je_var 2) je_int)))) jss_nil) (jss_cons
  (js_asg (je_var 2) (jg_tup rfl (jgs_cons (jg_name 4 nd rfl (by first | exact Or.inl rfl | exact Or.inr rfl)) (jgs_cons (jg_name 5 nd rfl (by first | exact Or.inl rfl | exact Or.inr rfl)) jgs_nil)))) (jss_cons
  (js_if (jt_eq hr (je_var 3) je_str) (jss_one
  (js_ret (je_f G_times hr (ja_cons (je_var 4) (ja_cons (je_var 5) ja_nil))))) jss_nil) (jss_cons
  (js_if (jt_eq hr (je_var 3) je_str) (jss_one
  (js_ret (je_f G_over hr (ja_cons (je_var 4) (ja_cons (je_f G_greater hr (ja_cons (je_var 5) (ja_cons (je_f G_power hr (ja_cons (je_var 0) (ja_cons (je_neg (je_ix (je_var 1) je_int)) ja_nil))) ja_nil))) ja_nil))))) jss_nil) (jss_one
  (js_ret (je_ifE (jt_eq hr (je_var 3) je_str) (je_f G_lesser hr (ja_cons (je_var 4) (ja_cons (je_var 5) ja_nil))) (je_f G_greater hr (ja_cons (je_var 4) (ja_cons (je_var 5) ja_nil)))))))))))))))), Vs3 len vc⟩
theorem ok_corners_of {f : Addr} {fd : FuncData} (F : Fun K "corners_of" "corners_of" s_corners_of f fd) (T : Tx w K mg) (vc : goal_corners_of) (len : ∀ ds S P, sp_corners_of ds S P → ds.length = 1)
     : FnD P w K mg base 1 f fd ["many"] sp_corners_of :=
  fn_d F sc_corners_of len fun cdv A outer s H E hr => ⟨rd_corners_of, (have nd := sc_corners_of.nd
  (jss_cons
  (js_set 1 nd rfl (by first | exact Or.inl rfl | exact Or.inr rfl) (je_lst (ja_cons (je_tup ja_nil) ja_nil))) (jss_cons
  (js_for PassesOwn.never rfl (ji_range1 T.n_range (ja_cons (je_var 0) ja_nil)) (jg_name 2 nd rfl (by first | exact Or.inl rfl | exact Or.inr rfl)) (jss_one
  (js_setLc2 1 [("one", 3), ("end", 4)] (by decide) nd rfl rfl (sw_true rfl rfl rfl (by decide +kernel)) (ji_seq (je_var 1)) (blkOk_by (N := ["many", "found", "turn", "one", "end"]) (sc := defScope s_corners_of) (by decide +kernel)) rfl (fun _ _ _ _ _ => (jg_name 3 nd rfl (by first | exact Or.inl rfl | exact Or.inr rfl))) (fun _ _ _ _ _ => jts_nil) (fun _ _ _ _ _ => (ji_seq (je_tup (ja_cons je_int (ja_cons je_int ja_nil))))) (fun _ _ _ _ _ => (jg_name 4 nd rfl (by first | exact Or.inl rfl | exact Or.inr rfl))) (fun _ _ _ _ _ => jts_nil) (fun _ _ _ _ _ => (je_add (je_var 3) (je_tup (ja_cons (je_var 4) ja_nil))))))) (jss_one
  (js_ret (je_var 1)))))), Vs1 len vc⟩
theorem ok_numbers_at {f : Addr} {fd : FuncData} (F : Fun K "numbers_at" "numbers_at" s_numbers_at f fd) (T : Tx w K mg) (vc : goal_numbers_at) (len : ∀ ds S P, sp_numbers_at ds S P → ds.length = 2)
     : FnD P w K mg base 1 f fd ["spans", "ends"] sp_numbers_at :=
  fn_d F sc_numbers_at len fun cdv A outer s H E hr => ⟨rd_numbers_at, (have nd := sc_numbers_at.nd
  (jss_one
  (js_ret (je_lc [("span", 2), ("end", 3)] rfl nd (ji_zipS T.n_zip (ja_cons (je_var 0) (ja_cons (je_var 1) ja_nil))) (blkOk_by (N := ["spans", "ends", "span", "end"]) (sc := defScope s_numbers_at) (by decide +kernel)) (by decide) (fun _ _ _ _ _ => (jg_tup rfl (jgs_cons (jg_name 2 nd rfl (by first | exact Or.inl rfl | exact Or.inr rfl)) (jgs_cons (jg_name 3 nd rfl (by first | exact Or.inl rfl | exact Or.inr rfl)) jgs_nil)))) (fun _ _ _ _ _ => jts_nil) (fun _ _ _ _ _ => (je_ix (je_var 2) (je_var 3))))))), Vs2 len vc⟩
theorem ok_reach_of {f : Addr} {fd : FuncData} (F : Fun K "reach_of" "reach_of" s_reach_of f fd) (T : Tx w K mg) (vc : goal_reach_of) (len : ∀ ds S P, sp_reach_of ds S P → ds.length = 3)
    {f_span_of : Addr} {fd_span_of : FuncData} (G_span_of : Does P w K mg base 5 "span_of" ["base", "row"] f_span_of fd_span_of sp_span_of)
    {f_corners_of : Addr} {fd_corners_of : FuncData} (G_corners_of : Does P w K mg base 1 "corners_of" ["many"] f_corners_of fd_corners_of sp_corners_of)
    {f_applied : Addr} {fd_applied : FuncData} (G_applied : Does P w K mg base 5 "applied" ["base", "kind", "numbers"] f_applied fd_applied sp_applied)
    {f_numbers_at : Addr} {fd_numbers_at : FuncData} (G_numbers_at : Does P w K mg base 1 "numbers_at" ["spans", "ends"] f_numbers_at fd_numbers_at sp_numbers_at)
    {f_lesser : Addr} {fd_lesser : FuncData} (G_lesser : Does P w K mg base 2 "lesser" ["one", "other"] f_lesser fd_lesser sp_lesser)
    {f_greater : Addr} {fd_greater : FuncData} (G_greater : Does P w K mg base 2 "greater" ["one", "other"] f_greater fd_greater sp_greater) : FnD P w K mg base 6 f fd ["base", "kind", "rows"] sp_reach_of :=
  fn_d F sc_reach_of len fun cdv A outer s H E hr => ⟨rd_reach_of, (have nd := sc_reach_of.nd
  (jss_cons
  (js_set 3 nd rfl (by first | exact Or.inl rfl | exact Or.inr rfl) (je_lc [("row", 4)] rfl nd (ji_seq (je_var 2)) (blkOk_by (N := ["base", "kind", "rows", "spans", "row", "some", "ends", "least", "most", "one"]) (sc := defScope s_reach_of) (by decide +kernel)) (by decide) (fun _ _ _ _ _ => (jg_name 4 nd rfl (by first | exact Or.inl rfl | exact Or.inr rfl))) (fun _ _ _ _ _ => jts_nil) (fun _ _ _ _ _ => (je_f G_span_of hr (ja_cons (je_var 0) (ja_cons (je_var 4) ja_nil)))))) (jss_cons
  (js_setLc 5 [("ends", 6)] rfl nd rfl rfl (sw_true rfl rfl rfl (by decide +kernel)) (ji_seq (je_f G_corners_of hr (ja_cons (je_len T.n_len (ja_cons (je_var 3) ja_nil)) ja_nil))) (blkOk_by (N := ["base", "kind", "rows", "spans", "row", "some", "ends", "least", "most", "one"]) (sc := defScope s_reach_of) (by decide +kernel)) (by decide) (fun _ _ _ _ _ => (jg_name 6 nd rfl (by first | exact Or.inl rfl | exact Or.inr rfl))) (fun _ _ _ _ _ => jts_nil) (fun _ _ _ _ _ => (je_f G_applied hr (ja_cons (je_var 0) (ja_cons (je_var 1) (ja_cons (je_f G_numbers_at hr (ja_cons (je_var 3) (ja_cons (je_var 6) ja_nil))) ja_nil)))))) (jss_cons
  (js_par 7 8 rfl nd rfl rfl (by decide) rfl rfl (ja_cons (je_ix (je_var 5) je_int) (ja_cons (je_ix (je_var 5) je_int) ja_nil)) (by rfl)) (jss_cons
  (js_for PassesOwn.never rfl (ji_seq (je_var 5)) (jg_name 9 nd rfl (by first | exact Or.inl rfl | exact Or.inr rfl)) (jss_one
  (js_par 7 8 rfl nd rfl rfl (by decide) rfl rfl (ja_cons (je_f G_lesser hr (ja_cons (je_var 7) (ja_cons (je_var 9) ja_nil))) (ja_cons (je_f G_greater hr (ja_cons (je_var 8) (ja_cons (je_var 9) ja_nil))) ja_nil)) (by rfl)))) (jss_one
  (js_ret (je_tup (ja_cons (je_var 7) (ja_cons (je_var 8) ja_nil)))))))))), Vs3 len vc⟩
theorem ok_raised {f : Addr} {fd : FuncData} (F : Fun K "raised" "raised" s_raised f fd) (T : Tx w K mg) (vc : goal_raised) (len : ∀ ds S P, sp_raised ds S P → ds.length = 1)
     : FnD P w K mg base 1 f fd ["number"] sp_raised :=
  fn_d F sc_raised len fun cdv A outer s H E hr => ⟨rd_raised, (have nd := sc_raised.nd
  (jss_one
  (js_ret (je_neg (je_fdiv (je_neg (je_ix (je_var 0) je_int)) (je_ix (je_var 0) je_int)))))), Vs1 len vc⟩
theorem ok_figures_between {f : Addr} {fd : FuncData} (F : Fun K "figures_between" "figures_between" s_figures_between f fd) (T : Tx w K mg) (vc : goal_figures_between) (len : ∀ ds S P, sp_figures_between ds S P → ds.length = 4)
    {f_power : Addr} {fd_power : FuncData} (G_power : Does P w K mg base 1 "power" ["base", "many"] f_power fd_power sp_power)
    {f_known_to : Addr} {fd_known_to : FuncData} (G_known_to : Does P w K mg base 1 "known_to" ["row"] f_known_to fd_known_to sp_known_to)
    {f_frac : Addr} {fd_frac : FuncData} (G_frac : Does P w K mg base 2 "frac" ["top", "bottom"] f_frac fd_frac sp_frac)
    {f_worth_of : Addr} {fd_worth_of : FuncData} (G_worth_of : Does P w K mg base 4 "worth_of" ["base", "row"] f_worth_of fd_worth_of sp_worth_of)
    {f_raised : Addr} {fd_raised : FuncData} (G_raised : Does P w K mg base 1 "raised" ["number"] f_raised fd_raised sp_raised)
    {f_minus : Addr} {fd_minus : FuncData} (G_minus : Does P w K mg base 3 "minus" ["one", "other"] f_minus fd_minus sp_minus)
    {f_times : Addr} {fd_times : FuncData} (G_times : Does P w K mg base 3 "times" ["one", "other"] f_times fd_times sp_times)
    {f_plus : Addr} {fd_plus : FuncData} (G_plus : Does P w K mg base 3 "plus" ["one", "other"] f_plus fd_plus sp_plus) : FnD P w K mg base 5 f fd ["base", "own", "least", "most"] sp_figures_between :=
  fn_d F sc_figures_between len fun cdv A outer s H E hr => ⟨rd_figures_between, (have nd := sc_figures_between.nd
  (jss_cons
  (js_asg (je_var 1) (jg_tup rfl (jgs_cons (jg_name 4 nd rfl (by first | exact Or.inl rfl | exact Or.inr rfl)) (jgs_cons (jg_name 5 nd rfl (by first | exact Or.inl rfl | exact Or.inr rfl)) (jgs_cons (jg_name 6 nd rfl (by first | exact Or.inl rfl | exact Or.inr rfl)) jgs_nil))))) (jss_cons
  (js_set 7 nd rfl (by first | exact Or.inl rfl | exact Or.inr rfl) (je_f G_power hr (ja_cons (je_var 0) (ja_cons (je_add (je_f G_known_to hr (ja_cons (je_var 1) ja_nil)) je_int) ja_nil)))) (jss_cons
  (js_par 8 9 rfl nd rfl rfl (by decide) rfl rfl (ja_cons (je_f G_frac hr (ja_cons (je_var 5) (ja_cons (je_sub (je_var 0) je_int) ja_nil))) (ja_cons (je_f G_worth_of hr (ja_cons (je_var 0) (ja_cons (je_var 1) ja_nil))) ja_nil)) (by rfl)) (jss_cons
  (js_set 10 nd rfl (by first | exact Or.inl rfl | exact Or.inr rfl) (je_f G_raised hr (ja_cons (je_f G_minus hr (ja_cons (je_f G_times hr (ja_cons (je_f G_minus hr (ja_cons (je_var 3) (ja_cons (je_var 9) ja_nil))) (ja_cons (je_var 7) ja_nil))) (ja_cons (je_var 8) ja_nil))) ja_nil))) (jss_cons
  (js_set 11 nd rfl (by first | exact Or.inl rfl | exact Or.inr rfl) (je_f G_plus hr (ja_cons (je_f G_times hr (ja_cons (je_f G_minus hr (ja_cons (je_var 2) (ja_cons (je_var 9) ja_nil))) (ja_cons (je_var 7) ja_nil))) (ja_cons (je_var 8) ja_nil)))) (jss_one
  (js_ret (je_listR2 T.n_list T.n_range (je_max2 T.n_max (ja_cons (je_var 10) (ja_cons (je_neg (je_var 5)) ja_nil))) (je_add (je_min2 T.n_min (ja_cons (je_fdiv (je_ix (je_var 11) je_int) (je_ix (je_var 11) je_int)) (ja_cons (je_var 5) ja_nil))) je_int)))))))))), Vs4 len vc⟩
theorem ok_right_figures {f : Addr} {fd : FuncData} (F : Fun K "right_figures" "right_figures" s_right_figures f fd) (T : Tx w K mg) (vc : goal_right_figures) (len : ∀ ds S P, sp_right_figures ds S P → ds.length = 4)
    {f_reach_of : Addr} {fd_reach_of : FuncData} (G_reach_of : Does P w K mg base 6 "reach_of" ["base", "kind", "rows"] f_reach_of fd_reach_of sp_reach_of)
    {f_figures_between : Addr} {fd_figures_between : FuncData} (G_figures_between : Does P w K mg base 5 "figures_between" ["base", "own", "least", "most"] f_figures_between fd_figures_between sp_figures_between) : FnD P w K mg base 7 f fd ["base", "kind", "rows", "own"] sp_right_figures :=
  fn_d F sc_right_figures len fun cdv A outer s H E hr => ⟨rd_right_figures, (have nd := sc_right_figures.nd
  (jss_cons
  (js_asg (je_f G_reach_of hr (ja_cons (je_var 0) (ja_cons (je_var 1) (ja_cons (je_var 2) ja_nil)))) (jg_tup rfl (jgs_cons (jg_name 4 nd rfl (by first | exact Or.inl rfl | exact Or.inr rfl)) (jgs_cons (jg_name 5 nd rfl (by first | exact Or.inl rfl | exact Or.inr rfl)) jgs_nil)))) (jss_one
  (js_ret (je_f G_figures_between hr (ja_cons (je_var 0) (ja_cons (je_var 3) (ja_cons (je_var 4) (ja_cons (je_var 5) ja_nil))))))))), Vs4 len vc⟩
theorem ok_number_at {f : Addr} {fd : FuncData} (F : Fun K "number_at" "number_at" s_number_at f fd) (T : Tx w K mg) (vc : goal_number_at) (len : ∀ ds S P, sp_number_at ds S P → ds.length = 4)
    {f_applied : Addr} {fd_applied : FuncData} (G_applied : Does P w K mg base 5 "applied" ["base", "kind", "numbers"] f_applied fd_applied sp_applied)
    {f_numbers_at : Addr} {fd_numbers_at : FuncData} (G_numbers_at : Does P w K mg base 1 "numbers_at" ["spans", "ends"] f_numbers_at fd_numbers_at sp_numbers_at)
    {f_span_of : Addr} {fd_span_of : FuncData} (G_span_of : Does P w K mg base 5 "span_of" ["base", "row"] f_span_of fd_span_of sp_span_of) : FnD P w K mg base 6 f fd ["base", "kind", "rows", "ends"] sp_number_at :=
  fn_d F sc_number_at len fun cdv A outer s H E hr => ⟨rd_number_at, (have nd := sc_number_at.nd
  (jss_one
  (js_ret (je_f G_applied hr (ja_cons (je_var 0) (ja_cons (je_var 1) (ja_cons (je_f G_numbers_at hr (ja_cons (je_lc [("row", 4)] rfl nd (ji_seq (je_var 2)) (blkOk_by (N := ["base", "kind", "rows", "ends", "row"]) (sc := defScope s_number_at) (by decide +kernel)) (by decide) (fun _ _ _ _ _ => (jg_name 4 nd rfl (by first | exact Or.inl rfl | exact Or.inr rfl))) (fun _ _ _ _ _ => jts_nil) (fun _ _ _ _ _ => (je_f G_span_of hr (ja_cons (je_var 0) (ja_cons (je_var 4) ja_nil))))) (ja_cons (je_var 3) ja_nil))) ja_nil))))))), Vs4 len vc⟩
theorem ok_ends_of {f : Addr} {fd : FuncData} (F : Fun K "ends_of" "ends_of" s_ends_of f fd) (T : Tx w K mg) (vc : goal_ends_of) (len : ∀ ds S P, sp_ends_of ds S P → ds.length = 3)
    {f_corners_of : Addr} {fd_corners_of : FuncData} (G_corners_of : Does P w K mg base 1 "corners_of" ["many"] f_corners_of fd_corners_of sp_corners_of)
    {f_many_of : Addr} {fd_many_of : FuncData} (G_many_of : Does P w K mg base 1 "many_of" ["kind"] f_many_of fd_many_of sp_many_of)
    {f_number_at : Addr} {fd_number_at : FuncData} (G_number_at : Does P w K mg base 6 "number_at" ["base", "kind", "rows", "ends"] f_number_at fd_number_at sp_number_at)
    {f_is_below : Addr} {fd_is_below : FuncData} (G_is_below : Does P w K mg base 1 "is_below" ["one", "other"] f_is_below fd_is_below sp_is_below) : FnD P w K mg base 7 f fd ["base", "kind", "rows"] sp_ends_of :=
  fn_d F sc_ends_of len fun cdv A outer s H E hr => ⟨rd_ends_of, (have nd := sc_ends_of.nd
  (jss_cons
  (js_set 3 nd rfl (by first | exact Or.inl rfl | exact Or.inr rfl) (je_f G_corners_of hr (ja_cons (je_f G_many_of hr (ja_cons (je_var 1) ja_nil)) ja_nil))) (jss_cons
  (js_par 4 5 rfl nd rfl rfl (by decide) rfl rfl (ja_cons (je_ix (je_var 3) je_int) (ja_cons (je_ix (je_var 3) je_int) ja_nil)) (by rfl)) (jss_cons
  (js_for PassesOwn.never rfl (ji_seq (je_var 3)) (jg_name 6 nd rfl (by first | exact Or.inl rfl | exact Or.inr rfl)) (jss_cons
  (js_set 7 nd rfl (by first | exact Or.inl rfl | exact Or.inr rfl) (je_f G_number_at hr (ja_cons (je_var 0) (ja_cons (je_var 1) (ja_cons (je_var 2) (ja_cons (je_var 6) ja_nil)))))) (jss_cons
  (js_set 4 nd rfl (by first | exact Or.inl rfl | exact Or.inr rfl) (je_ifE (jt_val (je_f G_is_below hr (ja_cons (je_var 7) (ja_cons (je_f G_number_at hr (ja_cons (je_var 0) (ja_cons (je_var 1) (ja_cons (je_var 2) (ja_cons (je_var 4) ja_nil))))) ja_nil)))) (je_var 6) (je_var 4))) (jss_one
  (js_set 5 nd rfl (by first | exact Or.inl rfl | exact Or.inr rfl) (je_ifE (jt_val (je_f G_is_below hr (ja_cons (je_f G_number_at hr (ja_cons (je_var 0) (ja_cons (je_var 1) (ja_cons (je_var 2) (ja_cons (je_var 5) ja_nil))))) (ja_cons (je_var 7) ja_nil)))) (je_var 6) (je_var 5))))))) (jss_one
  (js_ret (je_tup (ja_cons (je_var 4) (ja_cons (je_var 5) ja_nil))))))))), Vs3 len vc⟩
theorem ok_held_by {f : Addr} {fd : FuncData} (F : Fun K "held_by" "held_by" s_held_by f fd) (T : Tx w K mg) (vc : goal_held_by) (len : ∀ ds S P, sp_held_by ds S P → ds.length = 4)
    {f_right_figures : Addr} {fd_right_figures : FuncData} (G_right_figures : Does P w K mg base 7 "right_figures" ["base", "kind", "rows", "own"] f_right_figures fd_right_figures sp_right_figures)
    {f_ends_of : Addr} {fd_ends_of : FuncData} (G_ends_of : Does P w K mg base 7 "ends_of" ["base", "kind", "rows"] f_ends_of fd_ends_of sp_ends_of) : FnD P w K mg base 8 f fd ["base", "kind", "rows", "own"] sp_held_by :=
  fn_d F sc_held_by len fun cdv A outer s H E hr => ⟨rd_held_by, (have nd := sc_held_by.nd
  (jss_one
  (js_ret (je_ifE (jt_gt (je_len T.n_len (ja_cons (je_f G_right_figures hr (ja_cons (je_var 0) (ja_cons (je_var 1) (ja_cons (je_var 2) (ja_cons (je_var 3) ja_nil))))) ja_nil)) je_int) je_non (je_f G_ends_of hr (ja_cons (je_var 0) (ja_cons (je_var 1) (ja_cons (je_var 2) ja_nil)))))))), Vs4 len vc⟩
theorem ok_are_ends {f : Addr} {fd : FuncData} (F : Fun K "are_ends" "are_ends" s_are_ends f fd) (T : Tx w K mg) (vc : goal_are_ends) (len : ∀ ds S P, sp_are_ends ds S P → ds.length = 2)
     : FnD P w K mg base 1 f fd ["many", "thing"] sp_are_ends :=
  fn_d F sc_are_ends len fun cdv A outer s H E hr => ⟨rd_are_ends, (have nd := sc_are_ends.nd
  (jss_cons
  (js_if (jt_w (jw_or (jt_not (jt_val (je_isi T.n_isinstance (ja_cons (je_var 1) (ja_cons (je_tyTuple T.n_tuple) ja_nil))))) (jw_or1 (jt_ne hr (je_len T.n_len (ja_cons (je_var 1) ja_nil)) (je_var 0))))) (jss_one
  (js_ret je_bl)) jss_nil) (jss_one
  (js_ret (je_all T.n_all (ja_cons (je_lc [("end", 2)] rfl nd (ji_seq (je_var 1)) (blkOk_by (N := ["many", "thing", "end"]) (sc := defScope s_are_ends) (by decide +kernel)) (by decide) (fun _ _ _ _ _ => (jg_name 2 nd rfl (by first | exact Or.inl rfl | exact Or.inr rfl))) (fun _ _ _ _ _ => jts_nil) (fun _ _ _ _ _ => (je_and (je_isi T.n_isinstance (ja_cons (je_var 2) (ja_cons (je_tyInt T.n_int) ja_nil))) (je_and (je_not (je_isi T.n_isinstance (ja_cons (je_var 2) (ja_cons (je_tyBool T.n_bool) ja_nil)))) (je_one (je_in (je_var 2) (je_tup (ja_cons je_int (ja_cons je_int ja_nil))))))))) ja_nil)))))), Vs2 len vc⟩
theorem ok_shows_held {f : Addr} {fd : FuncData} (F : Fun K "shows_held" "shows_held" s_shows_held f fd) (T : Tx w K mg) (vc : goal_shows_held) (len : ∀ ds S P, sp_shows_held ds S P → ds.length = 5)
    {f_are_ends : Addr} {fd_are_ends : FuncData} (G_are_ends : Does P w K mg base 1 "are_ends" ["many", "thing"] f_are_ends fd_are_ends sp_are_ends)
    {f_many_of : Addr} {fd_many_of : FuncData} (G_many_of : Does P w K mg base 1 "many_of" ["kind"] f_many_of fd_many_of sp_many_of)
    {f_number_at : Addr} {fd_number_at : FuncData} (G_number_at : Does P w K mg base 6 "number_at" ["base", "kind", "rows", "ends"] f_number_at fd_number_at sp_number_at)
    {f_is_below : Addr} {fd_is_below : FuncData} (G_is_below : Does P w K mg base 1 "is_below" ["one", "other"] f_is_below fd_is_below sp_is_below)
    {f_figures_between : Addr} {fd_figures_between : FuncData} (G_figures_between : Does P w K mg base 5 "figures_between" ["base", "own", "least", "most"] f_figures_between fd_figures_between sp_figures_between) : FnD P w K mg base 7 f fd ["base", "kind", "rows", "own", "thing"] sp_shows_held :=
  fn_d F sc_shows_held len fun cdv A outer s H E hr => ⟨rd_shows_held, (have nd := sc_shows_held.nd
  (jss_cons
  (js_if (jt_w (jw_or (jt_not (jt_val (je_isi T.n_isinstance (ja_cons (je_var 4) (ja_cons (je_tyTuple T.n_tuple) ja_nil))))) (jw_or1 (jt_ne hr (je_len T.n_len (ja_cons (je_var 4) ja_nil)) je_int)))) (jss_one
  (js_ret je_bl)) jss_nil) (jss_cons
  (js_if (jt_not (jt_val (je_all T.n_all (ja_cons (je_lc [("ends", 5)] rfl nd (ji_seq (je_var 4)) (blkOk_by (N := ["base", "kind", "rows", "own", "thing", "ends", "one", "other", "least", "most"]) (sc := defScope s_shows_held) (by decide +kernel)) (by decide) (fun _ _ _ _ _ => (jg_name 5 nd rfl (by first | exact Or.inl rfl | exact Or.inr rfl))) (fun _ _ _ _ _ => jts_nil) (fun _ _ _ _ _ => (je_f G_are_ends hr (ja_cons (je_f G_many_of hr (ja_cons (je_var 1) ja_nil)) (ja_cons (je_var 5) ja_nil))))) ja_nil)))) (jss_one
  (js_ret je_bl)) jss_nil) (jss_cons
  (js_asg (je_lc [("ends", 5)] rfl nd (ji_seq (je_var 4)) (blkOk_by (N := ["base", "kind", "rows", "own", "thing", "ends", "one", "other", "least", "most"]) (sc := defScope s_shows_held) (by decide +kernel)) (by decide) (fun _ _ _ _ _ => (jg_name 5 nd rfl (by first | exact Or.inl rfl | exact Or.inr rfl))) (fun _ _ _ _ _ => jts_nil) (fun _ _ _ _ _ => (je_f G_number_at hr (ja_cons (je_var 0) (ja_cons (je_var 1) (ja_cons (je_var 2) (ja_cons (je_var 5) ja_nil))))))) (jg_tup rfl (jgs_cons (jg_name 6 nd rfl (by first | exact Or.inl rfl | exact Or.inr rfl)) (jgs_cons (jg_name 7 nd rfl (by first | exact Or.inl rfl | exact Or.inr rfl)) jgs_nil)))) (jss_cons
  (js_asg (je_ifE (jt_val (je_f G_is_below hr (ja_cons (je_var 7) (ja_cons (je_var 6) ja_nil)))) (je_tup (ja_cons (je_var 7) (ja_cons (je_var 6) ja_nil))) (je_tup (ja_cons (je_var 6) (ja_cons (je_var 7) ja_nil)))) (jg_tup rfl (jgs_cons (jg_name 8 nd rfl (by first | exact Or.inl rfl | exact Or.inr rfl)) (jgs_cons (jg_name 9 nd rfl (by first | exact Or.inl rfl | exact Or.inr rfl)) jgs_nil)))) (jss_one
  (js_ret (je_eq hr (je_f G_figures_between hr (ja_cons (je_var 0) (ja_cons (je_var 3) (ja_cons (je_var 8) (ja_cons (je_var 9) ja_nil))))) (je_lst ja_nil))))))))), Vs5 len vc⟩
theorem ok_Lcell_at {f : Addr} {fd : FuncData} (F : Fun K "_law_cell_at" "_law_cell_at" s_Lcell_at f fd) (T : Tx w K mg) (vc : goal_Lcell_at) (len : ∀ ds S P, sp_Lcell_at ds S P → ds.length = 2)
     : FnD P w K mg base 1 f fd ["_law_script", "_law_k"] sp_Lcell_at :=
  fn_d F sc_Lcell_at len fun cdv A outer s H E hr => ⟨rd_Lcell_at, (have nd := sc_Lcell_at.nd
  (jss_cons
  (js_if (jt_lt (je_var 1) (je_len T.n_len (ja_cons (je_var 0) ja_nil))) (jss_one
  (js_ret (je_ix (je_var 0) (je_var 1)))) jss_nil) (jss_one
  (js_ret je_int)))), Vs2 len vc⟩
theorem ok_Lbox {f : Addr} {fd : FuncData} (F : Fun K "_law_box" "_law_box" s_Lbox f fd) (T : Tx w K mg) (vc : goal_Lbox) (len : ∀ ds S P, sp_Lbox ds S P → ds.length = 2)
    {f_Lcell_at : Addr} {fd_Lcell_at : FuncData} (G_Lcell_at : Does P w K mg base 1 "_law_cell_at" ["_law_script", "_law_k"] f_Lcell_at fd_Lcell_at sp_Lcell_at) : FnD P w K mg base 2 f fd ["_law_script", "_law_k"] sp_Lbox :=
  fn_d F sc_Lbox len fun cdv A outer s H E hr => ⟨rd_Lbox, (have nd := sc_Lbox.nd
  (jss_cons
  (js_set 2 nd rfl (by first | exact Or.inl rfl | exact Or.inr rfl) (je_f G_Lcell_at hr (ja_cons (je_var 0) (ja_cons (je_var 1) ja_nil)))) (jss_one
  (js_ret (je_lstM (ja_cons (je_mul (je_abs T.n_abs (ja_cons (je_var 2) ja_nil)) (je_intC T.n_int (ja_cons (je_ge (je_abs T.n_abs (ja_cons (je_var 2) ja_nil)) (je_pow je_int je_int)) ja_nil))) (ja_cons (je_add (je_add (je_mod (je_var 2) je_int) (je_mul je_int (je_var 1))) je_int) (ja_cons je_int ja_nil)))))))), Vs2 len vc⟩
theorem ok_Ltake {f : Addr} {fd : FuncData} (F : Fun K "_law_take" "_law_take" s_Ltake f fd) (T : Tx w K mg) (vc : goal_Ltake) (len : ∀ ds S P, sp_Ltake ds S P → ds.length = 2)
     : FnD P w K mg base 1 f fd ["_law_box_here", "_law_size"] sp_Ltake :=
  fn_d F sc_Ltake len fun cdv A outer s H E hr => ⟨rd_Ltake, (have nd := sc_Ltake.nd
  (jss_cons
  (js_if (jt_gt (je_ix (je_var 0) je_int) je_int) (jss_cons
  (js_set 2 nd rfl (by first | exact Or.inl rfl | exact Or.inr rfl) (je_mod (je_ix (je_var 0) je_int) (je_var 1))) (jss_cons
  (js_setIx (je_fdiv (je_ix (je_var 0) je_int) (je_var 1)) (je_var 0) je_int) (jss_one
  (js_ret (je_var 2))))) jss_nil) (jss_cons
  (js_setIx (je_add (je_ix (je_var 0) je_int) je_int) (je_var 0) je_int) (jss_cons
  (js_set 3 nd rfl (by first | exact Or.inl rfl | exact Or.inr rfl) (je_mod (je_mul (je_add (je_ix (je_var 0) je_int) (je_mul je_int (je_ix (je_var 0) je_int))) (je_add je_int (je_ix (je_var 0) je_int))) je_int)) (jss_cons
  (js_set 4 nd rfl (by first | exact Or.inl rfl | exact Or.inr rfl) (je_mod (je_mul (je_add (je_add (je_var 3) (je_ix (je_var 0) je_int)) (je_fdiv (je_ix (je_var 0) je_int) je_int)) (je_add (je_mod (je_var 3) je_int) je_int)) je_int)) (jss_one
  (js_ret (je_mod (je_fdiv (je_mod (je_add (je_mul (je_var 4) je_int) (je_var 3)) je_int) je_int) (je_var 1))))))))), Vs2 len vc⟩
theorem ok_Lof {f : Addr} {fd : FuncData} (F : Fun K "_law_of" "_law_of" s_Lof f fd) (T : Tx w K mg) (vc : goal_Lof) (len : ∀ ds S P, sp_Lof ds S P → ds.length = 2)
    {f_Ltake : Addr} {fd_Ltake : FuncData} (G_Ltake : Does P w K mg base 1 "_law_take" ["_law_box_here", "_law_size"] f_Ltake fd_Ltake sp_Ltake) : FnD P w K mg base 2 f fd ["_law_box_here", "_law_some"] sp_Lof :=
  fn_d F sc_Lof len fun cdv A outer s H E hr => ⟨rd_Lof, (have nd := sc_Lof.nd
  (jss_one
  (js_ret (je_ix (je_var 1) (je_f G_Ltake hr (ja_cons (je_var 0) (ja_cons (je_len T.n_len (ja_cons (je_var 1) ja_nil)) ja_nil))))))), Vs2 len vc⟩
theorem ok_Lsame {f : Addr} {fd : FuncData} (F : Fun K "_law_same" "_law_same" s_Lsame f fd) (T : Tx w K mg) (vc : goal_Lsame) (len : ∀ n ds S P, spr_Lsame n ds S P → ds.length = 2) (hz : ∀ ds S P, spr_Lsame 0 ds S P → False) (gm : mg "_law_same" = some (.ref f)) (kp : PySem.W.keepIn K (.ref f) = true) (B : Binds K fd ["_law_found", "_law_due"] [])
     : ∀ n : Nat, FnD P w K mg base (0 + n) f fd ["_law_found", "_law_due"] (spr_Lsame n)
  | 0 => fnd_never hz
  | n + 1 => have G_Lsame : Does P w K mg base (0 + n) "_law_same" ["_law_found", "_law_due"] f fd (spr_Lsame n) := ⟨gm, kp, B, ok_Lsame F T vc len hz gm kp B  n⟩
    fn_d F sc_Lsame (len (n + 1)) fun cdv A outer s H E hr => ⟨rd_Lsame (spr_Lsame n), (have nd := sc_Lsame.nd
  (jss_cons
  (js_if (jt_val (je_isi T.n_isinstance (ja_cons (je_var 1) (ja_cons (je_tyDict T.n_dict) ja_nil)))) jss_never jss_nil) (jss_cons
  (js_if (jt_val (je_isi T.n_isinstance (ja_cons (je_var 1) (ja_cons (je_tup (ja_cons (je_tyList T.n_list) (ja_cons (je_tyTuple T.n_tuple) ja_nil))) ja_nil)))) (jss_cons
  (js_if (jt_w (jw_or (jt_ne hr (je_isi T.n_isinstance (ja_cons (je_var 0) (ja_cons (je_tyList T.n_list) ja_nil))) (je_isi T.n_isinstance (ja_cons (je_var 1) (ja_cons (je_tyList T.n_list) ja_nil)))) (jw_or1 (jt_ne hr (je_isi T.n_isinstance (ja_cons (je_var 0) (ja_cons (je_tyTuple T.n_tuple) ja_nil))) (je_isi T.n_isinstance (ja_cons (je_var 1) (ja_cons (je_tyTuple T.n_tuple) ja_nil))))))) (jss_one
  (js_ret je_bl)) jss_nil) (jss_one
  (js_ret (je_and (je_eq hr (je_len T.n_len (ja_cons (je_var 0) ja_nil)) (je_len T.n_len (ja_cons (je_var 1) ja_nil))) (je_one (je_all T.n_all (ja_cons (je_lc [("_law_one", 3), ("_law_two", 4)] rfl nd (ji_zip T.n_zip (ja_cons (je_var 0) (ja_cons (je_var 1) ja_nil))) (blkOk_by (N := ["_law_found", "_law_due", "_law_key", "_law_one", "_law_two"]) (sc := defScope s_Lsame) (by decide +kernel)) (by decide) (fun _ _ _ _ _ => (jg_tup rfl (jgs_cons (jg_name 3 nd rfl (by first | exact Or.inl rfl | exact Or.inr rfl)) (jgs_cons (jg_name 4 nd rfl (by first | exact Or.inl rfl | exact Or.inr rfl)) jgs_nil)))) (fun _ _ _ _ _ => jts_nil) (fun _ _ _ _ _ => (je_f G_Lsame hr (ja_cons (je_var 3) (ja_cons (je_var 4) ja_nil)) (hk := by first | exact Nat.le_refl _ | exact Nat.le_trans (by decide) (Nat.le_add_right _ _) | omega)))) ja_nil))))))) jss_nil) (jss_cons
  (js_if (jt_w (jw_or (jt_isN (je_var 1) je_non) (jw_or1 (jt_val (je_isi T.n_isinstance (ja_cons (je_var 1) (ja_cons (je_tup (ja_cons (je_tyBool T.n_bool) (ja_cons (je_tyStr T.n_str) ja_nil))) ja_nil))))))) (jss_one
  (js_ret (je_and (je_eq hr (je_var 0) (je_var 1)) (je_and (je_eq hr (je_isi T.n_isinstance (ja_cons (je_var 0) (ja_cons (je_tyBool T.n_bool) ja_nil))) (je_isi T.n_isinstance (ja_cons (je_var 1) (ja_cons (je_tyBool T.n_bool) ja_nil)))) (je_one (je_eq hr (je_isN (je_var 0) je_non) (je_isN (je_var 1) je_non))))))) jss_nil) (jss_one
  (js_ret (je_and (je_isi T.n_isinstance (ja_cons (je_var 0) (ja_cons (je_tyInt T.n_int) ja_nil))) (je_and (je_not (je_isi T.n_isinstance (ja_cons (je_var 0) (ja_cons (je_tyBool T.n_bool) ja_nil)))) (je_one (je_eq hr (je_var 0) (je_var 1))))))))))), fun ds S P h => match ds, len _ ds S P h, h with
  | [x0, x1], _, h => vc n x0 x1 S P h⟩
theorem ok_Lbase {f : Addr} {fd : FuncData} (F : Fun K "_law_base" "_law_base" s_Lbase f fd) (T : Tx w K mg) (vc : goal_Lbase) (len : ∀ ds S P, sp_Lbase ds S P → ds.length = 1)
    {f_Lof : Addr} {fd_Lof : FuncData} (G_Lof : Does P w K mg base 2 "_law_of" ["_law_box_here", "_law_some"] f_Lof fd_Lof sp_Lof) : FnD P w K mg base 3 f fd ["_law_box_here"] sp_Lbase :=
  fn_d F sc_Lbase len fun cdv A outer s H E hr => ⟨rd_Lbase, (have nd := sc_Lbase.nd
  (jss_one
  (js_ret (je_f G_Lof hr (ja_cons (je_var 0) (ja_cons (je_lst (ja_cons je_int (ja_cons je_int (ja_cons je_int (ja_cons je_int (ja_cons je_int (ja_cons je_int ja_nil))))))) ja_nil)))))), Vs1 len vc⟩
theorem ok_Lmost {f : Addr} {fd : FuncData} (F : Fun K "_law_most" "_law_most" s_Lmost f fd) (T : Tx w K mg) (vc : goal_Lmost) (len : ∀ ds S P, sp_Lmost ds S P → ds.length = 2)
    {f_Lof : Addr} {fd_Lof : FuncData} (G_Lof : Does P w K mg base 2 "_law_of" ["_law_box_here", "_law_some"] f_Lof fd_Lof sp_Lof)
    {f_Ltake : Addr} {fd_Ltake : FuncData} (G_Ltake : Does P w K mg base 1 "_law_take" ["_law_box_here", "_law_size"] f_Ltake fd_Ltake sp_Ltake) : FnD P w K mg base 3 f fd ["_law_box_here", "_law_base_here"] sp_Lmost :=
  fn_d F sc_Lmost len fun cdv A outer s H E hr => ⟨rd_Lmost, (have nd := sc_Lmost.nd
  (jss_one
  (js_ret (je_f G_Lof hr (ja_cons (je_var 0) (ja_cons (je_lst (ja_cons (je_fdiv (je_add (je_var 1) je_int) je_int) (ja_cons (je_sub (je_var 1) je_int) (ja_cons (je_var 1) (ja_cons (je_add (je_fdiv (je_add (je_var 1) je_int) je_int) (je_f G_Ltake hr (ja_cons (je_var 0) (ja_cons (je_var 1) ja_nil)))) ja_nil))))) ja_nil)))))), Vs2 len vc⟩
theorem ok_Lfigures {f : Addr} {fd : FuncData} (F : Fun K "_law_figures" "_law_figures" s_Lfigures f fd) (T : Tx w K mg) (vc : goal_Lfigures) (len : ∀ ds S P, sp_Lfigures ds S P → ds.length = 3)
    {f_Ltake : Addr} {fd_Ltake : FuncData} (G_Ltake : Does P w K mg base 1 "_law_take" ["_law_box_here", "_law_size"] f_Ltake fd_Ltake sp_Ltake) : FnD P w K mg base 2 f fd ["_law_box_here", "_law_most_here", "_law_many_here"] sp_Lfigures :=
  fn_d F sc_Lfigures len fun cdv A outer s H E hr => ⟨rd_Lfigures, (have nd := sc_Lfigures.nd
  (jss_cons
  (js_set 3 nd rfl (by first | exact Or.inl rfl | exact Or.inr rfl) (je_f G_Ltake hr (ja_cons (je_var 0) (ja_cons je_int ja_nil)))) (jss_cons
  (js_set 4 nd rfl (by first | exact Or.inl rfl | exact Or.inr rfl) (je_lstM ja_nil)) (jss_cons
  (js_for PassesOwn.never rfl (ji_range1 T.n_range (ja_cons (je_var 2) ja_nil)) (jg_name 5 nd rfl (by first | exact Or.inl rfl | exact Or.inr rfl)) (jss_cons
  (js_set 6 nd rfl (by first | exact Or.inl rfl | exact Or.inr rfl) (je_sub (je_f G_Ltake hr (ja_cons (je_var 0) (ja_cons (je_add (je_mul je_int (je_var 1)) je_int) ja_nil))) (je_var 1))) (jss_one
  (js_expr (je_append (je_var 4) (je_ix (je_lst (ja_cons (je_var 6) (ja_cons (je_var 6) (ja_cons (je_ix (je_lst (ja_cons (je_var 1) (ja_cons (je_sub je_int (je_var 1)) ja_nil))) (je_mod (je_var 6) je_int)) (ja_cons je_int ja_nil))))) (je_ifE (jt_gt (je_f G_Ltake hr (ja_cons (je_var 0) (ja_cons je_int ja_nil))) je_int) (je_var 3) je_int))))))) (jss_one
  (js_ret (je_tupC T.n_tuple (ja_cons (je_var 4) ja_nil)))))))), Vs3 len vc⟩
theorem ok_Lrow {f : Addr} {fd : FuncData} (F : Fun K "_law_row" "_law_row" s_Lrow f fd) (T : Tx w K mg) (vc : goal_Lrow) (len : ∀ ds S P, sp_Lrow ds S P → ds.length = 3)
    {f_Lmost : Addr} {fd_Lmost : FuncData} (G_Lmost : Does P w K mg base 3 "_law_most" ["_law_box_here", "_law_base_here"] f_Lmost fd_Lmost sp_Lmost)
    {f_Lfigures : Addr} {fd_Lfigures : FuncData} (G_Lfigures : Does P w K mg base 2 "_law_figures" ["_law_box_here", "_law_most_here", "_law_many_here"] f_Lfigures fd_Lfigures sp_Lfigures)
    {f_Ltake : Addr} {fd_Ltake : FuncData} (G_Ltake : Does P w K mg base 1 "_law_take" ["_law_box_here", "_law_size"] f_Ltake fd_Ltake sp_Ltake) : FnD P w K mg base 4 f fd ["_law_box_here", "_law_base_here", "_law_many_here"] sp_Lrow :=
  fn_d F sc_Lrow len fun cdv A outer s H E hr => ⟨rd_Lrow, (have nd := sc_Lrow.nd
  (jss_cons
  (js_set 3 nd rfl (by first | exact Or.inl rfl | exact Or.inr rfl) (je_f G_Lmost hr (ja_cons (je_var 0) (ja_cons (je_var 1) ja_nil)))) (jss_one
  (js_ret (je_tup (ja_cons (je_sub (je_f G_Ltake hr (ja_cons (je_var 0) (ja_cons je_int ja_nil))) je_int) (ja_cons (je_var 3) (ja_cons (je_f G_Lfigures hr (ja_cons (je_var 0) (ja_cons (je_var 3) (ja_cons (je_f G_Ltake hr (ja_cons (je_var 0) (ja_cons (je_add (je_var 2) je_int) ja_nil))) ja_nil)))) ja_nil)))))))), Vs3 len vc⟩
theorem ok_Lfrac {f : Addr} {fd : FuncData} (F : Fun K "_law_frac" "_law_frac" s_Lfrac f fd) (T : Tx w K mg) (vc : goal_Lfrac) (len : ∀ ds S P, sp_Lfrac ds S P → ds.length = 2)
     : FnD P w K mg base 1 f fd ["_law_top", "_law_under"] sp_Lfrac :=
  fn_d F sc_Lfrac len fun cdv A outer s H E hr => ⟨rd_Lfrac, (have nd := sc_Lfrac.nd
  (jss_cons
  (js_par 2 3 rfl nd rfl rfl (by decide) rfl rfl (ja_cons (je_abs T.n_abs (ja_cons (je_var 0) ja_nil)) (ja_cons (je_abs T.n_abs (ja_cons (je_var 1) ja_nil)) ja_nil)) (by rfl)) (jss_cons
  (js_while PassesOwn.never (jt_gt (je_var 3) je_int) (jss_one
  (js_par 2 3 rfl nd rfl rfl (by decide) rfl rfl (ja_cons (je_var 3) (ja_cons (je_mod (je_var 2) (je_var 3)) ja_nil)) (by rfl)))) (jss_cons
  (js_set 4 nd rfl (by first | exact Or.inl rfl | exact Or.inr rfl) (je_ifE (jt_gt (je_var 1) je_int) je_int (je_neg je_int))) (jss_one
  (js_ret (je_tup (ja_cons (je_fdiv (je_mul (je_var 4) (je_var 0)) (je_var 2)) (ja_cons (je_fdiv (je_abs T.n_abs (ja_cons (je_var 1) ja_nil)) (je_var 2)) ja_nil))))))))), Vs2 len vc⟩
theorem ok_Lplus {f : Addr} {fd : FuncData} (F : Fun K "_law_plus" "_law_plus" s_Lplus f fd) (T : Tx w K mg) (vc : goal_Lplus) (len : ∀ ds S P, sp_Lplus ds S P → ds.length = 2)
    {f_Lfrac : Addr} {fd_Lfrac : FuncData} (G_Lfrac : Does P w K mg base 1 "_law_frac" ["_law_top", "_law_under"] f_Lfrac fd_Lfrac sp_Lfrac) : FnD P w K mg base 2 f fd ["_law_one", "_law_other"] sp_Lplus :=
  fn_d F sc_Lplus len fun cdv A outer s H E hr => ⟨rd_Lplus, (have nd := sc_Lplus.nd
  (jss_one
  (js_ret (je_f G_Lfrac hr (ja_cons (je_add (je_mul (je_ix (je_var 0) je_int) (je_ix (je_var 1) je_int)) (je_mul (je_ix (je_var 1) je_int) (je_ix (je_var 0) je_int))) (ja_cons (je_mul (je_ix (je_var 0) je_int) (je_ix (je_var 1) je_int)) ja_nil)))))), Vs2 len vc⟩
theorem ok_Lless {f : Addr} {fd : FuncData} (F : Fun K "_law_less" "_law_less" s_Lless f fd) (T : Tx w K mg) (vc : goal_Lless) (len : ∀ ds S P, sp_Lless ds S P → ds.length = 2)
    {f_Lfrac : Addr} {fd_Lfrac : FuncData} (G_Lfrac : Does P w K mg base 1 "_law_frac" ["_law_top", "_law_under"] f_Lfrac fd_Lfrac sp_Lfrac) : FnD P w K mg base 2 f fd ["_law_one", "_law_other"] sp_Lless :=
  fn_d F sc_Lless len fun cdv A outer s H E hr => ⟨rd_Lless, (have nd := sc_Lless.nd
  (jss_one
  (js_ret (je_f G_Lfrac hr (ja_cons (je_sub (je_mul (je_ix (je_var 0) je_int) (je_ix (je_var 1) je_int)) (je_mul (je_ix (je_var 1) je_int) (je_ix (je_var 0) je_int))) (ja_cons (je_mul (je_ix (je_var 0) je_int) (je_ix (je_var 1) je_int)) ja_nil)))))), Vs2 len vc⟩
theorem ok_Ltimes {f : Addr} {fd : FuncData} (F : Fun K "_law_times" "_law_times" s_Ltimes f fd) (T : Tx w K mg) (vc : goal_Ltimes) (len : ∀ ds S P, sp_Ltimes ds S P → ds.length = 2)
    {f_Lfrac : Addr} {fd_Lfrac : FuncData} (G_Lfrac : Does P w K mg base 1 "_law_frac" ["_law_top", "_law_under"] f_Lfrac fd_Lfrac sp_Lfrac) : FnD P w K mg base 2 f fd ["_law_one", "_law_other"] sp_Ltimes :=
  fn_d F sc_Ltimes len fun cdv A outer s H E hr => ⟨rd_Ltimes, (have nd := sc_Ltimes.nd
  (jss_one
  (js_ret (je_f G_Lfrac hr (ja_cons (je_mul (je_ix (je_var 0) je_int) (je_ix (je_var 1) je_int)) (ja_cons (je_mul (je_ix (je_var 0) je_int) (je_ix (je_var 1) je_int)) ja_nil)))))), Vs2 len vc⟩
theorem ok_Lbelow {f : Addr} {fd : FuncData} (F : Fun K "_law_below" "_law_below" s_Lbelow f fd) (T : Tx w K mg) (vc : goal_Lbelow) (len : ∀ ds S P, sp_Lbelow ds S P → ds.length = 2)
     : FnD P w K mg base 1 f fd ["_law_one", "_law_other"] sp_Lbelow :=
  fn_d F sc_Lbelow len fun cdv A outer s H E hr => ⟨rd_Lbelow, (have nd := sc_Lbelow.nd
  (jss_one
  (js_ret (je_lt (je_mul (je_ix (je_var 0) je_int) (je_ix (je_var 1) je_int)) (je_mul (je_ix (je_var 1) je_int) (je_ix (je_var 0) je_int)))))), Vs2 len vc⟩
theorem ok_Lpower {f : Addr} {fd : FuncData} (F : Fun K "_law_power" "_law_power" s_Lpower f fd) (T : Tx w K mg) (vc : goal_Lpower) (len : ∀ ds S P, sp_Lpower ds S P → ds.length = 2)
     : FnD P w K mg base 1 f fd ["_law_base_here", "_law_size"] sp_Lpower :=
  fn_d F sc_Lpower len fun cdv A outer s H E hr => ⟨rd_Lpower, (have nd := sc_Lpower.nd
  (jss_cons
  (js_set 2 nd rfl (by first | exact Or.inl rfl | exact Or.inr rfl) je_int) (jss_cons
  (js_for PassesOwn.never rfl (ji_range1 T.n_range (ja_cons (je_abs T.n_abs (ja_cons (je_var 1) ja_nil)) ja_nil)) (jg_name 3 nd rfl (by first | exact Or.inl rfl | exact Or.inr rfl)) (jss_one
  (js_set 2 nd rfl (by first | exact Or.inl rfl | exact Or.inr rfl) (je_mul (je_var 2) (je_var 0))))) (jss_one
  (js_ret (je_ifE (jt_ge (je_var 1) je_int) (je_tup (ja_cons (je_var 2) (ja_cons je_int ja_nil))) (je_tup (ja_cons je_int (ja_cons (je_var 2) ja_nil))))))))), Vs2 len vc⟩
theorem ok_Lworth {f : Addr} {fd : FuncData} (F : Fun K "_law_worth" "_law_worth" s_Lworth f fd) (T : Tx w K mg) (vc : goal_Lworth) (len : ∀ ds S P, sp_Lworth ds S P → ds.length = 2)
    {f_Lplus : Addr} {fd_Lplus : FuncData} (G_Lplus : Does P w K mg base 2 "_law_plus" ["_law_one", "_law_other"] f_Lplus fd_Lplus sp_Lplus)
    {f_Ltimes : Addr} {fd_Ltimes : FuncData} (G_Ltimes : Does P w K mg base 2 "_law_times" ["_law_one", "_law_other"] f_Ltimes fd_Ltimes sp_Ltimes)
    {f_Lpower : Addr} {fd_Lpower : FuncData} (G_Lpower : Does P w K mg base 1 "_law_power" ["_law_base_here", "_law_size"] f_Lpower fd_Lpower sp_Lpower) : FnD P w K mg base 3 f fd ["_law_base_here", "_law_row_here"] sp_Lworth :=
  fn_d F sc_Lworth len fun cdv A outer s H E hr => ⟨rd_Lworth, (have nd := sc_Lworth.nd
  (jss_cons
  (js_set 2 nd rfl (by first | exact Or.inl rfl | exact Or.inr rfl) (je_tup (ja_cons je_int (ja_cons je_int ja_nil)))) (jss_cons
  (js_for PassesOwn.never rfl (ji_enum T.n_enumerate (ja_cons (je_ix (je_var 1) je_int) ja_nil)) (jg_tup rfl (jgs_cons (jg_name 3 nd rfl (by first | exact Or.inl rfl | exact Or.inr rfl)) (jgs_cons (jg_name 4 nd rfl (by first | exact Or.inl rfl | exact Or.inr rfl)) jgs_nil))) (jss_one
  (js_set 2 nd rfl (by first | exact Or.inl rfl | exact Or.inr rfl) (je_f G_Lplus hr (ja_cons (je_var 2) (ja_cons (je_f G_Ltimes hr (ja_cons (je_tup (ja_cons (je_var 4) (ja_cons je_int ja_nil))) (ja_cons (je_f G_Lpower hr (ja_cons (je_var 0) (ja_cons (je_sub (je_sub (je_ix (je_var 1) je_int) je_int) (je_var 3)) ja_nil))) ja_nil))) ja_nil)))))) (jss_one
  (js_ret (je_var 2)))))), Vs2 len vc⟩
theorem ok_Lspan {f : Addr} {fd : FuncData} (F : Fun K "_law_span" "_law_span" s_Lspan f fd) (T : Tx w K mg) (vc : goal_Lspan) (len : ∀ ds S P, sp_Lspan ds S P → ds.length = 2)
    {f_Ltimes : Addr} {fd_Ltimes : FuncData} (G_Ltimes : Does P w K mg base 2 "_law_times" ["_law_one", "_law_other"] f_Ltimes fd_Ltimes sp_Ltimes)
    {f_Lpower : Addr} {fd_Lpower : FuncData} (G_Lpower : Does P w K mg base 1 "_law_power" ["_law_base_here", "_law_size"] f_Lpower fd_Lpower sp_Lpower)
    {f_Lfrac : Addr} {fd_Lfrac : FuncData} (G_Lfrac : Does P w K mg base 1 "_law_frac" ["_law_top", "_law_under"] f_Lfrac fd_Lfrac sp_Lfrac)
    {f_Lworth : Addr} {fd_Lworth : FuncData} (G_Lworth : Does P w K mg base 3 "_law_worth" ["_law_base_here", "_law_row_here"] f_Lworth fd_Lworth sp_Lworth)
    {f_Lplus : Addr} {fd_Lplus : FuncData} (G_Lplus : Does P w K mg base 2 "_law_plus" ["_law_one", "_law_other"] f_Lplus fd_Lplus sp_Lplus)
    {f_Lless : Addr} {fd_Lless : FuncData} (G_Lless : Does P w K mg base 2 "_law_less" ["_law_one", "_law_other"] f_Lless fd_Lless sp_Lless) : FnD P w K mg base 4 f fd ["_law_base_here", "_law_row_here"] sp_Lspan :=
  fn_d F sc_Lspan len fun cdv A outer s H E hr => ⟨rd_Lspan, (have nd := sc_Lspan.nd
  (jss_cons
  (js_set 2 nd rfl (by first | exact Or.inl rfl | exact Or.inr rfl) (je_f G_Ltimes hr (ja_cons (je_f G_Lfrac hr (ja_cons (je_ix (je_var 1) je_int) (ja_cons (je_sub (je_var 0) je_int) ja_nil))) (ja_cons (je_f G_Lpower hr (ja_cons (je_var 0) (ja_cons (je_sub (je_ix (je_var 1) je_int) (je_len T.n_len (ja_cons (je_ix (je_var 1) je_int) ja_nil))) ja_nil))) ja_nil)))) (jss_cons
  (js_set 3 nd rfl (by first | exact Or.inl rfl | exact Or.inr rfl) (je_f G_Lworth hr (ja_cons (je_var 0) (ja_cons (je_var 1) ja_nil)))) (jss_one
  (js_ret (je_tup (ja_cons (je_f G_Lless hr (ja_cons (je_var 3) (ja_cons (je_var 2) ja_nil))) (ja_cons (je_f G_Lplus hr (ja_cons (je_var 3) (ja_cons (je_var 2) ja_nil))) ja_nil)))))))), Vs2 len vc⟩
theorem ok_Lover {f : Addr} {fd : FuncData} (F : Fun K "_law_over" "_law_over" s_Lover f fd) (T : Tx w K mg) (vc : goal_Lover) (len : ∀ ds S P, sp_Lover ds S P → ds.length = 2)
    {f_Lfrac : Addr} {fd_Lfrac : FuncData} (G_Lfrac : Does P w K mg base 1 "_law_frac" ["_law_top", "_law_under"] f_Lfrac fd_Lfrac sp_Lfrac) : FnD P w K mg base 2 f fd ["_law_one", "_law_other"] sp_Lover :=
  fn_d F sc_Lover len fun cdv A outer s H E hr => ⟨rd_Lover, (have nd := sc_Lover.nd
  (jss_one
  (js_ret (je_f G_Lfrac hr (ja_cons (je_mul (je_ix (je_var 0) je_int) (je_ix (je_var 1) je_int)) (ja_cons (je_mul (je_ix (je_var 0) je_int) (je_ix (je_var 1) je_int)) ja_nil)))))), Vs2 len vc⟩
theorem ok_Lkind {f : Addr} {fd : FuncData} (F : Fun K "_law_kind" "_law_kind" s_Lkind f fd) (T : Tx w K mg) (vc : goal_Lkind) (len : ∀ ds S P, sp_Lkind ds S P → ds.length = 2)
    {f_Lof : Addr} {fd_Lof : FuncData} (G_Lof : Does P w K mg base 2 "_law_of" ["_law_box_here", "_law_some"] f_Lof fd_Lof sp_Lof)
    {f_Ltake : Addr} {fd_Ltake : FuncData} (G_Ltake : Does P w K mg base 1 "_law_take" ["_law_box_here", "_law_size"] f_Ltake fd_Ltake sp_Ltake)
    {f_Lfrac : Addr} {fd_Lfrac : FuncData} (G_Lfrac : Does P w K mg base 1 "_law_frac" ["_law_top", "_law_under"] f_Lfrac fd_Lfrac sp_Lfrac) : FnD P w K mg base 3 f fd ["_law_box_here", "_law_words"] sp_Lkind :=
  fn_d F sc_Lkind len fun cdv A outer s H E hr => ⟨rd_Lkind, (have nd := sc_Lkind.nd
  (jss_cons
  (js_set 2 nd rfl (by first | exact Or.inl rfl | exact Or.inr rfl) (je_f G_Lof hr (ja_cons (je_var 0) (ja_cons (je_var 1) ja_nil)))) (jss_cons
  (js_if (jt_in (je_var 2) (je_tup (ja_cons je_str (ja_cons je_str ja_nil)))) (jss_cons
  (js_setLc 3 [("_law_turn", 4)] rfl nd rfl rfl (sw_true rfl rfl rfl (by decide +kernel)) (ji_range1 T.n_range (ja_cons (je_add je_int (je_f G_Ltake hr (ja_cons (je_var 0) (ja_cons je_int ja_nil)))) ja_nil)) (blkOk_by (N := ["_law_box_here", "_law_words", "_law_word", "_law_sizes", "_law_turn", "_law_weights", "_law_size"]) (sc := defScope s_Lkind) (by decide +kernel)) (by decide) (fun _ _ _ _ _ => (jg_name 4 nd rfl (by first | exact Or.inl rfl | exact Or.inr rfl))) (fun _ _ _ _ _ => jts_nil) (fun _ _ _ _ _ => (je_ifE (jt_eq hr (je_var 2) je_str) (je_ix (je_lst (ja_cons je_int (ja_cons je_int (ja_cons je_int (ja_cons je_int ja_nil))))) (je_f G_Ltake hr (ja_cons (je_var 0) (ja_cons je_int ja_nil)))) je_int))) (jss_cons
  (js_set 5 nd rfl (by first | exact Or.inl rfl | exact Or.inr rfl) (je_tupC T.n_tuple (ja_cons (je_lc [("_law_size", 6)] rfl nd (ji_seq (je_var 3)) (blkOk_by (N := ["_law_box_here", "_law_words", "_law_word", "_law_sizes", "_law_turn", "_law_weights", "_law_size"]) (sc := defScope s_Lkind) (by decide +kernel)) (by decide) (fun _ _ _ _ _ => (jg_name 6 nd rfl (by first | exact Or.inl rfl | exact Or.inr rfl))) (fun _ _ _ _ _ => jts_nil) (fun _ _ _ _ _ => (je_mul (je_var 6) (je_ix (je_lst (ja_cons je_int (ja_cons (je_neg je_int) ja_nil))) (je_f G_Ltake hr (ja_cons (je_var 0) (ja_cons je_int ja_nil))))))) ja_nil))) (jss_one
  (js_ret (je_ifE (jt_eq hr (je_var 2) je_str) (je_tup (ja_cons (je_var 2) (ja_cons (je_var 5) (ja_cons (je_f G_Lof hr (ja_cons (je_var 0) (ja_cons (je_lst (ja_cons je_int (ja_cons je_int (ja_cons je_int (ja_cons je_int (ja_cons je_int (ja_cons je_int ja_nil))))))) ja_nil))) ja_nil)))) (je_tup (ja_cons (je_var 2) (ja_cons (je_var 5) ja_nil)))))))) jss_nil) (jss_cons
  (js_if (jt_eq hr (je_var 2) je_str) (jss_one
  (js_ret (je_tup (ja_cons (je_var 2) (ja_cons (je_sub (je_f G_Ltake hr (ja_cons (je_var 0) (ja_cons je_int ja_nil))) je_int) ja_nil))))) jss_nil) (jss_cons
  (js_if (jt_eq hr (je_var 2) je_str) (jss_one
  (js_ret (je_tup (ja_cons (je_var 2) (ja_cons (je_f G_Lfrac hr (ja_cons (je_sub (je_f G_Ltake hr (ja_cons (je_var 0) (ja_cons je_int ja_nil))) je_int) (ja_cons (je_add je_int (je_f G_Ltake hr (ja_cons (je_var 0) (ja_cons je_int ja_nil)))) ja_nil))) ja_nil))))) jss_nil) (jss_one
  (js_ret (je_ifE (jt_eq hr (je_var 2) je_str) (je_tup (ja_cons (je_var 2) (ja_cons (je_f G_Ltake hr (ja_cons (je_var 0) (ja_cons je_int ja_nil))) ja_nil))) (je_tup (ja_cons (je_var 2) ja_nil)))))))))), Vs2 len vc⟩
theorem ok_Lmany {f : Addr} {fd : FuncData} (F : Fun K "_law_many" "_law_many" s_Lmany f fd) (T : Tx w K mg) (vc : goal_Lmany) (len : ∀ ds S P, sp_Lmany ds S P → ds.length = 1)
     : FnD P w K mg base 1 f fd ["_law_kind_here"] sp_Lmany :=
  fn_d F sc_Lmany len fun cdv A outer s H E hr => ⟨rd_Lmany, (have nd := sc_Lmany.nd
  (jss_cons
  (js_if (jt_in (je_ix (je_var 0) je_int) (je_tup (ja_cons je_str (ja_cons je_str ja_nil)))) (jss_one
  (js_ret (je_len T.n_len (ja_cons (je_ix (je_var 0) je_int) ja_nil)))) jss_nil) (jss_one
  (js_ret (je_dispGet [("told", 0), ("moved", 1), ("choose", 3)] hr (pps_cons pe_str pe_int (pps_cons pe_str pe_int (pps_cons pe_str pe_int pps_nil))) (je_ix (je_var 0) je_int) je_int ⟨rfl, rfl, rfl, rfl⟩ (by decide +kernel)))))), Vs1 len vc⟩
theorem ok_Lcame {f : Addr} {fd : FuncData} (F : Fun K "_law_came" "_law_came" s_Lcame f fd) (T : Tx w K mg) (vc : goal_Lcame) (len : ∀ ds S P, sp_Lcame ds S P → ds.length = 3)
    {f_Lplus : Addr} {fd_Lplus : FuncData} (G_Lplus : Does P w K mg base 2 "_law_plus" ["_law_one", "_law_other"] f_Lplus fd_Lplus sp_Lplus)
    {f_Ltimes : Addr} {fd_Ltimes : FuncData} (G_Ltimes : Does P w K mg base 2 "_law_times" ["_law_one", "_law_other"] f_Ltimes fd_Ltimes sp_Ltimes)
    {f_Lover : Addr} {fd_Lover : FuncData} (G_Lover : Does P w K mg base 2 "_law_over" ["_law_one", "_law_other"] f_Lover fd_Lover sp_Lover)
    {f_Lpower : Addr} {fd_Lpower : FuncData} (G_Lpower : Does P w K mg base 1 "_law_power" ["_law_base_here", "_law_size"] f_Lpower fd_Lpower sp_Lpower)
    {f_Lbelow : Addr} {fd_Lbelow : FuncData} (G_Lbelow : Does P w K mg base 1 "_law_below" ["_law_one", "_law_other"] f_Lbelow fd_Lbelow sp_Lbelow) : FnD P w K mg base 3 f fd ["_law_base_here", "_law_kind_here", "_law_some"] sp_Lcame :=
  fn_d F sc_Lcame len fun cdv A outer s H E hr => ⟨rd_Lcame, (have nd := sc_Lcame.nd
  (jss_cons
  (js_set 3 nd rfl (by first | exact Or.inl rfl | exact Or.inr rfl) (je_ix (je_var 1) je_int)) (jss_cons
  (js_if (jt_in (je_var 3) (je_tup (ja_cons je_str (ja_cons je_str ja_nil)))) (jss_cons
  (js_set 4 nd rfl (by first | exact Or.inl rfl | exact Or.inr rfl) (je_tup (ja_cons je_int (ja_cons je_int ja_nil)))) (jss_cons
  (js_for PassesOwn.never rfl (ji_zip T.n_zip (ja_cons (je_ix (je_var 1) je_int) (ja_cons (je_var 2) ja_nil))) (jg_tup rfl (jgs_cons (jg_name 5 nd rfl (by first | exact Or.inl rfl | exact Or.inr rfl)) (jgs_cons (jg_name 6 nd rfl (by first | exact Or.inl rfl | exact Or.inr rfl)) jgs_nil))) (jss_one
  (js_set 4 nd rfl (by first | exact Or.inl rfl | exact Or.inr rfl) (je_f G_Lplus hr (ja_cons (je_var 4) (ja_cons (je_f G_Ltimes hr (ja_cons (je_tup (ja_cons (je_var 5) (ja_cons je_int ja_nil))) (ja_cons (je_var 6) ja_nil))) ja_nil)))))) (jss_one
  (js_ret (je_ifE (jt_eq hr (je_var 3) je_str) (je_f G_Lover hr (ja_cons (je_var 4) (ja_cons (je_tup (ja_cons (je_ix (je_var 1) je_int) (ja_cons je_int ja_nil))) ja_nil))) (je_var 4)))))) jss_nil) (jss_cons
  (js_if (jt_eq hr (je_var 3) je_str) (jss_one
  (js_ret (je_ix (je_var 1) je_int))) jss_nil) (jss_cons
  (js_if (jt_eq hr (je_var 3) je_str) (jss_one
  (js_ret (je_f G_Ltimes hr (ja_cons (je_ix (je_var 2) je_int) (ja_cons (je_f G_Lpower hr (ja_cons (je_var 0) (ja_cons (je_ix (je_var 1) je_int) ja_nil))) ja_nil))))) jss_nil) (jss_cons
  (js_if (jt_eq hr (je_var 3) je_str) (jss_one
  (js_ret (je_ifE (jt_ge (je_ix (je_ix (je_var 2) je_int) je_int) je_int) (je_ix (je_var 2) je_int) (je_ix (je_var 2) je_int)))) jss_nil) (jss_cons
  (js_asg (je_var 2) (jg_tup rfl (jgs_cons (jg_name 6 nd rfl (by first | exact Or.inl rfl | exact Or.inr rfl)) (jgs_cons (jg_name 7 nd rfl (by first | exact Or.inl rfl | exact Or.inr rfl)) jgs_nil)))) (jss_cons
  (js_if (jt_eq hr (je_var 3) je_str) (jss_cons
  (js_set 8 nd rfl (by first | exact Or.inl rfl | exact Or.inr rfl) (je_f G_Lpower hr (ja_cons (je_var 0) (ja_cons (je_neg (je_ix (je_var 1) je_int)) ja_nil)))) (jss_one
  (js_ret (je_f G_Lover hr (ja_cons (je_var 6) (ja_cons (je_ifE (jt_val (je_f G_Lbelow hr (ja_cons (je_var 7) (ja_cons (je_var 8) ja_nil)))) (je_var 8) (je_var 7)) ja_nil)))))) jss_nil) (jss_cons
  (js_if (jt_eq hr (je_var 3) je_str) (jss_one
  (js_ret (je_f G_Ltimes hr (ja_cons (je_var 6) (ja_cons (je_var 7) ja_nil))))) jss_nil) (jss_one
  (js_ret (je_ifE (jt_eq hr (je_f G_Lbelow hr (ja_cons (je_var 6) (ja_cons (je_var 7) ja_nil))) (je_eq hr (je_var 3) je_str)) (je_var 6) (je_var 7))))))))))))), Vs3 len vc⟩
theorem ok_Lsources {f : Addr} {fd : FuncData} (F : Fun K "_law_sources" "_law_sources" s_Lsources f fd) (T : Tx w K mg) (vc : goal_Lsources) (len : ∀ ds S P, sp_Lsources ds S P → ds.length = 4)
    {f_Lmany : Addr} {fd_Lmany : FuncData} (G_Lmany : Does P w K mg base 1 "_law_many" ["_law_kind_here"] f_Lmany fd_Lmany sp_Lmany)
    {f_Lrow : Addr} {fd_Lrow : FuncData} (G_Lrow : Does P w K mg base 4 "_law_row" ["_law_box_here", "_law_base_here", "_law_many_here"] f_Lrow fd_Lrow sp_Lrow) : FnD P w K mg base 5 f fd ["_law_box_here", "_law_base_here", "_law_kind_here", "_law_many_here"] sp_Lsources :=
  fn_d F sc_Lsources len fun cdv A outer s H E hr => ⟨rd_Lsources, (have nd := sc_Lsources.nd
  (jss_one
  (js_ret (je_lc [("_law_turn", 4)] rfl nd (ji_range1 T.n_range (ja_cons (je_f G_Lmany hr (ja_cons (je_var 2) ja_nil)) ja_nil)) (blkOk_by (N := ["_law_box_here", "_law_base_here", "_law_kind_here", "_law_many_here", "_law_turn"]) (sc := defScope s_Lsources) (by decide +kernel)) (by decide) (fun _ _ _ _ _ => (jg_name 4 nd rfl (by first | exact Or.inl rfl | exact Or.inr rfl))) (fun _ _ _ _ _ => jts_nil) (fun _ _ _ _ _ => (je_f G_Lrow hr (ja_cons (je_var 0) (ja_cons (je_var 1) (ja_cons (je_var 3) ja_nil))))))))), Vs4 len vc⟩
theorem ok_Lchoosing {f : Addr} {fd : FuncData} (F : Fun K "_law_choosing" "_law_choosing" s_Lchoosing f fd) (T : Tx w K mg) (vc : goal_Lchoosing) (len : ∀ ds S P, sp_Lchoosing ds S P → ds.length = 0)
     : FnD P w K mg base 1 f fd [] sp_Lchoosing :=
  fn_d F sc_Lchoosing len fun cdv A outer s H E hr => ⟨rd_Lchoosing, (have nd := sc_Lchoosing.nd
  (jss_cons
  (js_set 0 nd rfl (by first | exact Or.inl rfl | exact Or.inr rfl) (je_lst (ja_cons je_str (ja_cons je_str (ja_cons je_str (ja_cons je_str (ja_cons je_str ja_nil))))))) (jss_one
  (js_ret (je_add (je_var 0) (je_lst (ja_cons je_str (ja_cons je_str (ja_cons je_str (ja_cons je_str ja_nil)))))))))), fun ds S P h => match ds, len ds S P h, h with
  | [], _, h => vc  S P h⟩
theorem ok_Lholds {f : Addr} {fd : FuncData} (F : Fun K "_law_holds" "_law_holds" s_Lholds f fd) (T : Tx w K mg) (vc : goal_Lholds) (len : ∀ ds S P, sp_Lholds ds S P → ds.length = 3)
    {f_Lspan : Addr} {fd_Lspan : FuncData} (G_Lspan : Does P w K mg base 4 "_law_span" ["_law_base_here", "_law_row_here"] f_Lspan fd_Lspan sp_Lspan)
    {f_Lbelow : Addr} {fd_Lbelow : FuncData} (G_Lbelow : Does P w K mg base 1 "_law_below" ["_law_one", "_law_other"] f_Lbelow fd_Lbelow sp_Lbelow) : FnD P w K mg base 5 f fd ["_law_base_here", "_law_row_here", "_law_pair"] sp_Lholds :=
  fn_d F sc_Lholds len fun cdv A outer s H E hr => ⟨rd_Lholds, (have nd := sc_Lholds.nd
  (jss_cons
  (js_set 3 nd rfl (by first | exact Or.inl rfl | exact Or.inr rfl) (je_f G_Lspan hr (ja_cons (je_var 0) (ja_cons (je_var 1) ja_nil)))) (jss_one
  (js_ret (je_and (je_not (je_f G_Lbelow hr (ja_cons (je_ix (je_var 2) je_int) (ja_cons (je_ix (je_var 3) je_int) ja_nil)))) (je_one (je_not (je_f G_Lbelow hr (ja_cons (je_ix (je_var 3) je_int) (ja_cons (je_ix (je_var 2) je_int) ja_nil)))))))))), Vs3 len vc⟩
theorem ok_Lfigures_right {f : Addr} {fd : FuncData} (F : Fun K "_law_figures_right" "_law_figures_right" s_Lfigures_right f fd) (T : Tx w K mg) (vc : goal_Lfigures_right) (len : ∀ ds S P, sp_Lfigures_right ds S P → ds.length = 3)
    {f_Lholds : Addr} {fd_Lholds : FuncData} (G_Lholds : Does P w K mg base 5 "_law_holds" ["_law_base_here", "_law_row_here", "_law_pair"] f_Lholds fd_Lholds sp_Lholds) : FnD P w K mg base 6 f fd ["_law_base_here", "_law_pair", "_law_own"] sp_Lfigures_right :=
  fn_d F sc_Lfigures_right len fun cdv A outer s H E hr => ⟨rd_Lfigures_right, (have nd := sc_Lfigures_right.nd
  (jss_cons
  (js_asg (je_var 2) (jg_tup rfl (jgs_cons (jg_name 3 nd rfl (by first | exact Or.inl rfl | exact Or.inr rfl)) (jgs_cons (jg_name 4 nd rfl (by first | exact Or.inl rfl | exact Or.inr rfl)) (jgs_cons (jg_name 5 nd rfl (by first | exact Or.inl rfl | exact Or.inr rfl)) jgs_nil))))) (jss_cons
  (js_set 6 nd rfl (by first | exact Or.inl rfl | exact Or.inr rfl) (je_listR2 T.n_list T.n_range (je_neg (je_var 4)) (je_add (je_var 4) je_int))) (jss_one
  (js_ret (je_lc [("_law_one", 7)] rfl nd (ji_seq (je_var 6)) (blkOk_by (N := ["_law_base_here", "_law_pair", "_law_own", "_law_begin", "_law_most_here", "_law_given", "_law_some", "_law_one"]) (sc := defScope s_Lfigures_right) (by decide +kernel)) (by decide) (fun _ _ _ _ _ => (jg_name 7 nd rfl (by first | exact Or.inl rfl | exact Or.inr rfl))) (fun _ _ _ _ _ => (jts_one (jt_val (je_f G_Lholds hr (ja_cons (je_var 0) (ja_cons (je_tup (ja_cons (je_var 3) (ja_cons (je_var 4) (ja_cons (je_add (je_var 5) (je_tup (ja_cons (je_var 7) ja_nil))) ja_nil)))) (ja_cons (je_var 1) ja_nil))))))) (fun _ _ _ _ _ => (je_var 7)))))))), Vs3 len vc⟩
theorem ok_Lcorners {f : Addr} {fd : FuncData} (F : Fun K "_law_corners" "_law_corners" s_Lcorners f fd) (T : Tx w K mg) (vc : goal_Lcorners) (len : ∀ ds S P, sp_Lcorners ds S P → ds.length = 1)
     : FnD P w K mg base 1 f fd ["_law_many_here"] sp_Lcorners :=
  fn_d F sc_Lcorners len fun cdv A outer s H E hr => ⟨rd_Lcorners, (have nd := sc_Lcorners.nd
  (jss_one
  (js_ret (je_lc [("_law_at", 1)] rfl nd (ji_range1 T.n_range (ja_cons (je_ix (je_lst (ja_cons je_int (ja_cons je_int (ja_cons je_int (ja_cons je_int ja_nil))))) (je_var 0)) ja_nil)) (blkOk_by (N := ["_law_many_here", "_law_at", "_law_step"]) (sc := defScope s_Lcorners) (by decide +kernel)) (by decide) (fun _ _ _ _ _ => (jg_name 1 nd rfl (by first | exact Or.inl rfl | exact Or.inr rfl))) (fun _ _ _ _ _ => jts_nil) (fun _ _ _ _ _ => (je_tupCQ T.n_tuple (ja_cons (je_lc [("_law_step", 2)] rfl nd (ji_seq (je_sl (je_tup (ja_cons je_int (ja_cons je_int (ja_cons je_int ja_nil)))) jo_none (jo_some (je_var 0)))) (blkOk_by (N := ["_law_many_here", "_law_at", "_law_step"]) (by kernel_rfl)) (by decide) (fun _ _ _ _ _ => (jg_name 2 nd rfl (by first | exact Or.inl rfl | exact Or.inr rfl))) (fun _ _ _ _ _ => jts_nil) (fun _ _ _ _ _ => (je_mod (je_fdiv (je_var 1) (je_var 2)) je_int))) ja_nil))))))), Vs1 len vc⟩
theorem ok_Lby_corners {f : Addr} {fd : FuncData} (F : Fun K "_law_by_corners" "_law_by_corners" s_Lby_corners f fd) (T : Tx w K mg) (vc : goal_Lby_corners) (len : ∀ ds S P, sp_Lby_corners ds S P → ds.length = 4)
    {f_Lcorners : Addr} {fd_Lcorners : FuncData} (G_Lcorners : Does P w K mg base 1 "_law_corners" ["_law_many_here"] f_Lcorners fd_Lcorners sp_Lcorners)
    {f_Lcame : Addr} {fd_Lcame : FuncData} (G_Lcame : Does P w K mg base 3 "_law_came" ["_law_base_here", "_law_kind_here", "_law_some"] f_Lcame fd_Lcame sp_Lcame)
    {f_Lspan : Addr} {fd_Lspan : FuncData} (G_Lspan : Does P w K mg base 4 "_law_span" ["_law_base_here", "_law_row_here"] f_Lspan fd_Lspan sp_Lspan)
    {f_Lfigures_right : Addr} {fd_Lfigures_right : FuncData} (G_Lfigures_right : Does P w K mg base 6 "_law_figures_right" ["_law_base_here", "_law_pair", "_law_own"] f_Lfigures_right fd_Lfigures_right sp_Lfigures_right) : FnD P w K mg base 7 f fd ["_law_base_here", "_law_kind_here", "_law_rows", "_law_own"] sp_Lby_corners :=
  fn_d F sc_Lby_corners len fun cdv A outer s H E hr => ⟨rd_Lby_corners, (have nd := sc_Lby_corners.nd
  (jss_cons
  (js_set 4 nd rfl (by first | exact Or.inl rfl | exact Or.inr rfl) je_tnew) (jss_cons
  (js_for PassesOwn.never rfl (ji_seq (je_f G_Lcorners hr (ja_cons (je_len T.n_len (ja_cons (je_var 2) ja_nil)) ja_nil))) (jg_name 5 nd rfl (by first | exact Or.inl rfl | exact Or.inr rfl)) (jss_cons
  (js_set 6 nd rfl (by first | exact Or.inl rfl | exact Or.inr rfl) (je_f G_Lcame hr (ja_cons (je_var 0) (ja_cons (je_var 1) (ja_cons (je_lc [("_law_row_here", 7), ("_law_end", 8)] rfl nd (ji_zip T.n_zip (ja_cons (je_var 2) (ja_cons (je_wk (je_var 5)) ja_nil))) (blkOk_by (N := ["_law_base_here", "_law_kind_here", "_law_rows", "_law_own", "_law_found", "_law_ends", "_law_one", "_law_row_here", "_law_end"]) (sc := defScope s_Lby_corners) (by decide +kernel)) (by decide) (fun _ _ _ _ _ => (jg_tup rfl (jgs_cons (jg_name 7 nd rfl (by first | exact Or.inl rfl | exact Or.inr rfl)) (jgs_cons (jg_name 8 nd rfl (by first | exact Or.inl rfl | exact Or.inr rfl)) jgs_nil)))) (fun _ _ _ _ _ => jts_nil) (fun _ _ _ _ _ => (je_ix (je_f G_Lspan hr (ja_cons (je_var 0) (ja_cons (je_var 7) ja_nil))) (je_var 8)))) ja_nil))))) (jss_one
  (js_tput hr (je_var 4) (je_var 5) (je_f G_Lfigures_right hr (ja_cons (je_var 0) (ja_cons (je_tup (ja_cons (je_var 6) (ja_cons (je_var 6) ja_nil))) (ja_cons (je_var 3) ja_nil)))))))) (jss_one
  (js_ret (je_var 4)))))), Vs4 len vc⟩
theorem ok_Lodd {f : Addr} {fd : FuncData} (F : Fun K "_law_odd" "_law_odd" s_Lodd f fd) (T : Tx w K mg) (vc : goal_Lodd) (len : ∀ ds S P, sp_Lodd ds S P → ds.length = 2)
    {f_Ltake : Addr} {fd_Ltake : FuncData} (G_Ltake : Does P w K mg base 1 "_law_take" ["_law_box_here", "_law_size"] f_Ltake fd_Ltake sp_Ltake) : FnD P w K mg base 2 f fd ["_law_box_here", "_law_pair"] sp_Lodd :=
  fn_d F sc_Lodd len fun cdv A outer s H E hr => ⟨rd_Lodd, (have nd := sc_Lodd.nd
  (jss_cons
  (js_par 2 3 rfl nd rfl rfl (by decide) rfl rfl (ja_cons (je_f G_Ltake hr (ja_cons (je_var 0) (ja_cons je_int ja_nil))) (ja_cons (je_f G_Ltake hr (ja_cons (je_var 0) (ja_cons je_int ja_nil))) ja_nil)) (by rfl)) (jss_cons
  (js_set 4 nd rfl (by first | exact Or.inl rfl | exact Or.inr rfl) (je_lstM (ja_cons (je_listC T.n_list (ja_cons (je_var 1) ja_nil)) (ja_cons (je_sl (je_var 1) jo_none (jo_some je_int)) (ja_cons (je_add (je_var 1) (je_sl (je_var 1) jo_none (jo_some je_int))) (ja_cons (je_add (je_add (je_sl (je_var 1) jo_none (jo_some (je_var 3))) (je_tup (ja_cons (je_listC T.n_list (ja_cons (je_ix (je_var 1) (je_var 3)) ja_nil)) ja_nil))) (je_sl (je_var 1) (jo_some (je_add (je_var 3) je_int)) jo_none)) ja_nil)))))) (jss_cons
  (js_expr (je_append (je_var 4) (je_add (je_add (je_sl (je_var 1) jo_none (jo_some (je_var 3))) (je_tup (ja_cons (je_add (je_ix (je_var 1) (je_var 3)) (je_tup (ja_cons je_int ja_nil))) ja_nil))) (je_sl (je_var 1) (jo_some (je_add (je_var 3) je_int)) jo_none)))) (jss_cons
  (js_expr (je_append (je_var 4) (je_add (je_add (je_sl (je_var 1) jo_none (jo_some (je_var 3))) (je_tup (ja_cons (je_ifE (jt_ne hr (je_ix (je_var 1) (je_var 3)) (je_tup ja_nil)) (je_sl (je_ix (je_var 1) (je_var 3)) jo_none (jo_some (je_neg je_int))) (je_tup (ja_cons je_int ja_nil))) ja_nil))) (je_sl (je_var 1) (jo_some (je_add (je_var 3) je_int)) jo_none)))) (jss_cons
  (js_set 5 nd rfl (by first | exact Or.inl rfl | exact Or.inr rfl) (je_tupC T.n_tuple (ja_cons (je_lc [("_law_end", 6)] rfl nd (ji_seq (je_ix (je_var 1) (je_var 3))) (blkOk_by (N := ["_law_box_here", "_law_pair", "_law_way", "_law_at", "_law_some", "_law_few", "_law_end"]) (sc := defScope s_Lodd) (by decide +kernel)) (by decide) (fun _ _ _ _ _ => (jg_name 6 nd rfl (by first | exact Or.inl rfl | exact Or.inr rfl))) (fun _ _ _ _ _ => jts_nil) (fun _ _ _ _ _ => (je_ix (je_lst (ja_cons (je_eq hr (je_var 6) je_int) (ja_cons je_int (ja_cons (je_neg je_int) (ja_cons je_str (ja_cons je_non ja_nil)))))) (je_f G_Ltake hr (ja_cons (je_var 0) (ja_cons je_int ja_nil)))))) ja_nil))) (jss_cons
  (js_expr (je_append (je_var 4) (je_add (je_add (je_sl (je_var 1) jo_none (jo_some (je_var 3))) (je_tup (ja_cons (je_ifE (jt_ne hr (je_var 5) (je_tup ja_nil)) (je_var 5) (je_tup (ja_cons je_non ja_nil))) ja_nil))) (je_sl (je_var 1) (jo_some (je_add (je_var 3) je_int)) jo_none)))) (jss_one
  (js_ret (je_ix (je_add (je_var 4) (je_lst (ja_cons je_non (ja_cons (je_tup ja_nil) (ja_cons (je_lst ja_nil) (ja_cons je_bl (ja_cons je_str (ja_cons (je_tup (ja_cons (je_tup ja_nil) ja_nil)) (ja_cons (je_tup (ja_cons je_int (ja_cons je_int ja_nil))) ja_nil))))))))) (je_ifE (jt_lt (je_var 2) je_int) (je_var 2) (je_add je_int (je_f G_Ltake hr (ja_cons (je_var 0) (ja_cons je_int ja_nil))))))))))))))), Vs2 len vc⟩
theorem ok_Lright {f : Addr} {fd : FuncData} (F : Fun K "_law_right" "_law_right" s_Lright f fd) (T : Tx w K mg) (vc : goal_Lright) (len : ∀ ds S P, sp_Lright ds S P → ds.length = 1)
    {f_Lbase : Addr} {fd_Lbase : FuncData} (G_Lbase : Does P w K mg base 3 "_law_base" ["_law_box_here"] f_Lbase fd_Lbase sp_Lbase)
    {f_Lkind : Addr} {fd_Lkind : FuncData} (G_Lkind : Does P w K mg base 3 "_law_kind" ["_law_box_here", "_law_words"] f_Lkind fd_Lkind sp_Lkind)
    {f_Lchoosing : Addr} {fd_Lchoosing : FuncData} (G_Lchoosing : Does P w K mg base 1 "_law_choosing" [] f_Lchoosing fd_Lchoosing sp_Lchoosing)
    {f_Lsources : Addr} {fd_Lsources : FuncData} (G_Lsources : Does P w K mg base 5 "_law_sources" ["_law_box_here", "_law_base_here", "_law_kind_here", "_law_many_here"] f_Lsources fd_Lsources sp_Lsources)
    {f_Lmost : Addr} {fd_Lmost : FuncData} (G_Lmost : Does P w K mg base 3 "_law_most" ["_law_box_here", "_law_base_here"] f_Lmost fd_Lmost sp_Lmost)
    {f_Lfigures : Addr} {fd_Lfigures : FuncData} (G_Lfigures : Does P w K mg base 2 "_law_figures" ["_law_box_here", "_law_most_here", "_law_many_here"] f_Lfigures fd_Lfigures sp_Lfigures)
    {f_Ltake : Addr} {fd_Ltake : FuncData} (G_Ltake : Does P w K mg base 1 "_law_take" ["_law_box_here", "_law_size"] f_Ltake fd_Ltake sp_Ltake)
    {f_Lby_corners : Addr} {fd_Lby_corners : FuncData} (G_Lby_corners : Does P w K mg base 7 "_law_by_corners" ["_law_base_here", "_law_kind_here", "_law_rows", "_law_own"] f_Lby_corners fd_Lby_corners sp_Lby_corners)
    {f_Lsame : Addr} {fd_Lsame : FuncData} (G_Lsame : Does P w K mg base 6 "_law_same" ["_law_found", "_law_due"] f_Lsame fd_Lsame sp_Lsame)
    {f_shows_held : Addr} {fd_shows_held : FuncData} (G_shows_held : Does P w K mg base 7 "shows_held" ["base", "kind", "rows", "own", "thing"] f_shows_held fd_shows_held sp_shows_held)
    {f_held_by : Addr} {fd_held_by : FuncData} (G_held_by : Does P w K mg base 8 "held_by" ["base", "kind", "rows", "own"] f_held_by fd_held_by sp_held_by)
    {f_Lof : Addr} {fd_Lof : FuncData} (G_Lof : Does P w K mg base 2 "_law_of" ["_law_box_here", "_law_some"] f_Lof fd_Lof sp_Lof)
    {f_Lodd : Addr} {fd_Lodd : FuncData} (G_Lodd : Does P w K mg base 2 "_law_odd" ["_law_box_here", "_law_pair"] f_Lodd fd_Lodd sp_Lodd) : FnD P w K mg base 9 f fd ["_law_box_here"] sp_Lright :=
  fn_d F sc_Lright len fun cdv A outer s H E hr => ⟨rd_Lright, (have nd := sc_Lright.nd
  (jss_cons
  (js_set 1 nd rfl (by first | exact Or.inl rfl | exact Or.inr rfl) (je_f G_Lbase hr (ja_cons (je_var 0) ja_nil))) (jss_cons
  (js_for PassesOwn.never rfl (ji_range1 T.n_range (ja_cons je_int ja_nil)) (jg_name 2 nd rfl (by first | exact Or.inl rfl | exact Or.inr rfl)) (jss_cons
  (js_set 3 nd rfl (by first | exact Or.inl rfl | exact Or.inr rfl) (je_f G_Lkind hr (ja_cons (je_var 0) (ja_cons (je_f0 G_Lchoosing hr) ja_nil)))) (jss_cons
  (js_par 4 5 rfl nd rfl rfl (by decide) rfl rfl (ja_cons (je_f G_Lsources hr (ja_cons (je_var 0) (ja_cons (je_var 1) (ja_cons (je_var 3) (ja_cons je_int ja_nil))))) (ja_cons (je_f G_Lmost hr (ja_cons (je_var 0) (ja_cons (je_var 1) ja_nil))) ja_nil)) (by rfl)) (jss_cons
  (js_set 6 nd rfl (by first | exact Or.inl rfl | exact Or.inr rfl) (je_tup (ja_cons (je_f G_Ltake hr (ja_cons (je_var 0) (ja_cons je_int ja_nil))) (ja_cons (je_var 5) (ja_cons (je_f G_Lfigures hr (ja_cons (je_var 0) (ja_cons (je_var 5) (ja_cons (je_f G_Ltake hr (ja_cons (je_var 0) (ja_cons je_int ja_nil))) ja_nil)))) ja_nil))))) (jss_cons
  (js_asg (je_tup (ja_cons (je_f G_Lby_corners hr (ja_cons (je_var 1) (ja_cons (je_var 3) (ja_cons (je_var 4) (ja_cons (je_var 6) ja_nil))))) (ja_cons (je_lstM ja_nil) ja_nil))) (jg_tup rfl (jgs_cons (jg_name 7 nd rfl (by first | exact Or.inl rfl | exact Or.inr rfl)) (jgs_cons (jg_name 8 nd rfl (by first | exact Or.inl rfl | exact Or.inr rfl)) jgs_nil)))) (jss_cons
  (js_for PassesOwn.never rfl (ji_keysT (je_frzT (je_var 7))) (jg_name 9 nd rfl (by first | exact Or.inl rfl | exact Or.inr rfl)) (jss_one
  (js_for PassesOwn.never rfl (ji_keysT (je_frzT (je_var 7))) (jg_name 10 nd rfl (by first | exact Or.inl rfl | exact Or.inr rfl)) (jss_cons
  (js_set 11 nd rfl (by first | exact Or.inl rfl | exact Or.inr rfl) (je_eq hr (je_lc [("_law_figure", 12)] rfl nd (ji_seq (je_tget hr (je_var 7) (je_var 9))) (blkOk_by (N := ["_law_box_here", "_law_base_here", "_law_turn", "_law_kind_here", "_law_rows", "_law_most_here", "_law_own", "_law_known", "_law_told", "_law_one", "_law_other", "_law_due", "_law_figure", "_law_again", "_law_pair", "_law_odd_here", "_law_kept"]) (sc := defScope s_Lright) (by decide +kernel)) (by decide) (fun _ _ _ _ _ => (jg_name 12 nd rfl (by first | exact Or.inl rfl | exact Or.inr rfl))) (fun _ _ _ _ _ => (jts_one (jt_in (je_var 12) (je_tget hr (je_var 7) (je_var 10))))) (fun _ _ _ _ _ => (je_var 12))) (je_lst ja_nil))) (jss_cons
  (js_if (jt_not (jt_val (je_f G_Lsame hr (ja_cons (je_f G_shows_held hr (ja_cons (je_var 1) (ja_cons (je_var 3) (ja_cons (je_var 4) (ja_cons (je_var 6) (ja_cons (je_wk (je_tup (ja_cons (je_var 9) (ja_cons (je_var 10) ja_nil)))) ja_nil)))))) (ja_cons (je_var 11) ja_nil))))) (jss_one
  (js_ret je_bl)) jss_nil) (jss_one
  (js_expr (je_append (je_var 8) (je_var 11))))))))) (jss_cons
  (js_if (jt_ne hr (je_any T.n_any (ja_cons (je_var 8) ja_nil)) (je_notN (je_f G_held_by hr (ja_cons (je_var 1) (ja_cons (je_var 3) (ja_cons (je_var 4) (ja_cons (je_var 6) ja_nil))))) je_non)) (jss_one
  (js_ret je_bl)) jss_nil) (jss_one
  (js_for PassesOwn.never rfl (ji_range1 T.n_range (ja_cons je_int ja_nil)) (jg_name 13 nd rfl (by first | exact Or.inl rfl | exact Or.inr rfl)) (jss_cons
  (js_set 14 nd rfl (by first | exact Or.inl rfl | exact Or.inr rfl) (je_wk (je_tup (ja_cons (je_f G_Lof hr (ja_cons (je_var 0) (ja_cons (je_listT T.n_list rfl (ja_cons (je_var 7) ja_nil)) ja_nil))) (ja_cons (je_f G_Lof hr (ja_cons (je_var 0) (ja_cons (je_listT T.n_list rfl (ja_cons (je_var 7) ja_nil)) ja_nil))) ja_nil))))) (jss_cons
  (js_set 15 nd rfl (by first | exact Or.inl rfl | exact Or.inr rfl) (je_f G_Lodd hr (ja_cons (je_var 0) (ja_cons (je_var 14) ja_nil)))) (jss_cons
  (js_set 16 nd rfl (by first | exact Or.inl rfl | exact Or.inr rfl) (je_repr hr T.n_repr (ja_cons (je_var 15) ja_nil))) (jss_one
  (js_if (jt_w (jw_or (jt_notB (je_f G_shows_held hr (ja_cons (je_var 1) (ja_cons (je_var 3) (ja_cons (je_var 4) (ja_cons (je_var 6) (ja_cons (je_var 15) ja_nil)))))) je_bl) (jw_or1 (jt_ne hr (je_repr hr T.n_repr (ja_cons (je_var 15) ja_nil)) (je_var 16))))) (jss_one
  (js_ret je_bl)) jss_nil)))))))))))))) (jss_one
  (js_ret je_bl))))), Vs1 len vc⟩
theorem ok_law {f : Addr} {fd : FuncData} (F : Fun K "law" "law" s_law f fd) (T : Tx w K mg) (vc : goal_law) (len : ∀ ds S P, sp_law ds S P → ds.length = 1)
    {f_Lright : Addr} {fd_Lright : FuncData} (G_Lright : Does P w K mg base 9 "_law_right" ["_law_box_here"] f_Lright fd_Lright sp_Lright)
    {f_Lbox : Addr} {fd_Lbox : FuncData} (G_Lbox : Does P w K mg base 2 "_law_box" ["_law_script", "_law_k"] f_Lbox fd_Lbox sp_Lbox) : FnD P w K mg base 10 f fd ["_law_script"] sp_law :=
  fn_d F sc_law len fun cdv A outer s H E hr => ⟨rd_law, (have nd := sc_law.nd
  (jss_one
  (js_ret (je_all T.n_all (ja_cons (je_lc [("_law_k", 1)] rfl nd (ji_range1 T.n_range (ja_cons (je_add je_int (je_min2 T.n_min (ja_cons je_int (ja_cons (je_len T.n_len (ja_cons (je_var 0) ja_nil)) ja_nil)))) ja_nil)) (blkOk_by (N := ["_law_script", "_law_k"]) (sc := defScope s_law) (by decide +kernel)) (by decide) (fun _ _ _ _ _ => (jg_name 1 nd rfl (by first | exact Or.inl rfl | exact Or.inr rfl))) (fun _ _ _ _ _ => jts_nil) (fun _ _ _ _ _ => (je_f G_Lright hr (ja_cons (je_f G_Lbox hr (ja_cons (je_var 0) (ja_cons (je_var 1) ja_nil))) ja_nil)))) ja_nil))))), Vs1 len vc⟩
end
theorem all_mk {l : PySem.W.OpenLaw} {w : World} {K : PySem.W.Frag} {h : Heap} {mg : Str → Option Value} {fa : Addr} (X : K.In h) (G : h.Ns mainGlobals mg) (hfa : mg "law" = some (.ref fa)) (c : HD.Says HDR.hdP HDR.hdF HDR.hdT w K)
    : ∃ fd : FuncData, (∀ (s : Shared) (v : Value), BindsTo s fd ⟨[v], []⟩ [("_law_script", v)]) ∧ ∀ base : Heap, K.In base → base.Ns mainGlobals mg → DG.FnG l.prog w K mg base CX0 10 fa fd ["_law_script"] (spLaw K) := by
  have a_common : PySem.W.nsIn K mainGlobals "common" = some (some (.ref (He.fAd K ("common", none)))) := of_decide_eq_true (c.p 0 0 rfl)
  have a_frac : PySem.W.nsIn K mainGlobals "frac" = some (some (.ref (He.fAd K ("frac", none)))) := of_decide_eq_true (c.p 0 1 rfl)
  have a_plus : PySem.W.nsIn K mainGlobals "plus" = some (some (.ref (He.fAd K ("plus", none)))) := of_decide_eq_true (c.p 0 2 rfl)
  have a_minus : PySem.W.nsIn K mainGlobals "minus" = some (some (.ref (He.fAd K ("minus", none)))) := of_decide_eq_true (c.p 0 3 rfl)
  have a_times : PySem.W.nsIn K mainGlobals "times" = some (some (.ref (He.fAd K ("times", none)))) := of_decide_eq_true (c.p 0 4 rfl)
  have a_over : PySem.W.nsIn K mainGlobals "over" = some (some (.ref (He.fAd K ("over", none)))) := of_decide_eq_true (c.p 0 5 rfl)
  have a_is_below : PySem.W.nsIn K mainGlobals "is_below" = some (some (.ref (He.fAd K ("is_below", none)))) := of_decide_eq_true (c.p 0 6 rfl)
  have a_lesser : PySem.W.nsIn K mainGlobals "lesser" = some (some (.ref (He.fAd K ("lesser", none)))) := of_decide_eq_true (c.p 0 7 rfl)
  have a_greater : PySem.W.nsIn K mainGlobals "greater" = some (some (.ref (He.fAd K ("greater", none)))) := of_decide_eq_true (c.p 0 8 rfl)
  have a_power : PySem.W.nsIn K mainGlobals "power" = some (some (.ref (He.fAd K ("power", none)))) := of_decide_eq_true (c.p 0 9 rfl)
  have a_known_to : PySem.W.nsIn K mainGlobals "known_to" = some (some (.ref (He.fAd K ("known_to", none)))) := of_decide_eq_true (c.p 0 10 rfl)
  have a_whole_of : PySem.W.nsIn K mainGlobals "whole_of" = some (some (.ref (He.fAd K ("whole_of", none)))) := of_decide_eq_true (c.p 0 11 rfl)
  have a_worth_of : PySem.W.nsIn K mainGlobals "worth_of" = some (some (.ref (He.fAd K ("worth_of", none)))) := of_decide_eq_true (c.p 0 12 rfl)
  have a_tail_of : PySem.W.nsIn K mainGlobals "tail_of" = some (some (.ref (He.fAd K ("tail_of", none)))) := of_decide_eq_true (c.p 0 13 rfl)
  have a_span_of : PySem.W.nsIn K mainGlobals "span_of" = some (some (.ref (He.fAd K ("span_of", none)))) := of_decide_eq_true (c.p 0 14 rfl)
  have a_many_of : PySem.W.nsIn K mainGlobals "many_of" = some (some (.ref (He.fAd K ("many_of", none)))) := of_decide_eq_true (c.p 0 15 rfl)
  have a_weighed : PySem.W.nsIn K mainGlobals "weighed" = some (some (.ref (He.fAd K ("weighed", none)))) := of_decide_eq_true (c.p 0 16 rfl)
  have a_applied : PySem.W.nsIn K mainGlobals "applied" = some (some (.ref (He.fAd K ("applied", none)))) := of_decide_eq_true (c.p 0 17 rfl)
  have a_corners_of : PySem.W.nsIn K mainGlobals "corners_of" = some (some (.ref (He.fAd K ("corners_of", none)))) := of_decide_eq_true (c.p 0 18 rfl)
  have a_numbers_at : PySem.W.nsIn K mainGlobals "numbers_at" = some (some (.ref (He.fAd K ("numbers_at", none)))) := of_decide_eq_true (c.p 0 19 rfl)
  have a_reach_of : PySem.W.nsIn K mainGlobals "reach_of" = some (some (.ref (He.fAd K ("reach_of", none)))) := of_decide_eq_true (c.p 0 20 rfl)
  have a_raised : PySem.W.nsIn K mainGlobals "raised" = some (some (.ref (He.fAd K ("raised", none)))) := of_decide_eq_true (c.p 0 21 rfl)
  have a_figures_between : PySem.W.nsIn K mainGlobals "figures_between" = some (some (.ref (He.fAd K ("figures_between", none)))) := of_decide_eq_true (c.p 0 22 rfl)
  have a_right_figures : PySem.W.nsIn K mainGlobals "right_figures" = some (some (.ref (He.fAd K ("right_figures", none)))) := of_decide_eq_true (c.p 0 23 rfl)
  have a_number_at : PySem.W.nsIn K mainGlobals "number_at" = some (some (.ref (He.fAd K ("number_at", none)))) := of_decide_eq_true (c.p 0 24 rfl)
  have a_ends_of : PySem.W.nsIn K mainGlobals "ends_of" = some (some (.ref (He.fAd K ("ends_of", none)))) := of_decide_eq_true (c.p 1 0 rfl)
  have a_held_by : PySem.W.nsIn K mainGlobals "held_by" = some (some (.ref (He.fAd K ("held_by", none)))) := of_decide_eq_true (c.p 1 1 rfl)
  have a_are_ends : PySem.W.nsIn K mainGlobals "are_ends" = some (some (.ref (He.fAd K ("are_ends", none)))) := of_decide_eq_true (c.p 1 2 rfl)
  have a_shows_held : PySem.W.nsIn K mainGlobals "shows_held" = some (some (.ref (He.fAd K ("shows_held", none)))) := of_decide_eq_true (c.p 1 3 rfl)
  have a_Lcell_at : PySem.W.nsIn K mainGlobals "_law_cell_at" = some (some (.ref (He.fAd K ("_law_cell_at", none)))) := of_decide_eq_true (c.p 1 4 rfl)
  have a_Lbox : PySem.W.nsIn K mainGlobals "_law_box" = some (some (.ref (He.fAd K ("_law_box", none)))) := of_decide_eq_true (c.p 1 5 rfl)
  have a_Ltake : PySem.W.nsIn K mainGlobals "_law_take" = some (some (.ref (He.fAd K ("_law_take", none)))) := of_decide_eq_true (c.p 1 6 rfl)
  have a_Lof : PySem.W.nsIn K mainGlobals "_law_of" = some (some (.ref (He.fAd K ("_law_of", none)))) := of_decide_eq_true (c.p 1 7 rfl)
  have a_Lsame : PySem.W.nsIn K mainGlobals "_law_same" = some (some (.ref (He.fAd K ("_law_same", none)))) := of_decide_eq_true (c.p 1 8 rfl)
  have a_Lbase : PySem.W.nsIn K mainGlobals "_law_base" = some (some (.ref (He.fAd K ("_law_base", none)))) := of_decide_eq_true (c.p 1 9 rfl)
  have a_Lmost : PySem.W.nsIn K mainGlobals "_law_most" = some (some (.ref (He.fAd K ("_law_most", none)))) := of_decide_eq_true (c.p 1 10 rfl)
  have a_Lfigures : PySem.W.nsIn K mainGlobals "_law_figures" = some (some (.ref (He.fAd K ("_law_figures", none)))) := of_decide_eq_true (c.p 1 11 rfl)
  have a_Lrow : PySem.W.nsIn K mainGlobals "_law_row" = some (some (.ref (He.fAd K ("_law_row", none)))) := of_decide_eq_true (c.p 1 12 rfl)
  have a_Lfrac : PySem.W.nsIn K mainGlobals "_law_frac" = some (some (.ref (He.fAd K ("_law_frac", none)))) := of_decide_eq_true (c.p 1 13 rfl)
  have a_Lplus : PySem.W.nsIn K mainGlobals "_law_plus" = some (some (.ref (He.fAd K ("_law_plus", none)))) := of_decide_eq_true (c.p 1 14 rfl)
  have a_Lless : PySem.W.nsIn K mainGlobals "_law_less" = some (some (.ref (He.fAd K ("_law_less", none)))) := of_decide_eq_true (c.p 1 15 rfl)
  have a_Ltimes : PySem.W.nsIn K mainGlobals "_law_times" = some (some (.ref (He.fAd K ("_law_times", none)))) := of_decide_eq_true (c.p 1 16 rfl)
  have a_Lbelow : PySem.W.nsIn K mainGlobals "_law_below" = some (some (.ref (He.fAd K ("_law_below", none)))) := of_decide_eq_true (c.p 1 17 rfl)
  have a_Lpower : PySem.W.nsIn K mainGlobals "_law_power" = some (some (.ref (He.fAd K ("_law_power", none)))) := of_decide_eq_true (c.p 1 18 rfl)
  have a_Lworth : PySem.W.nsIn K mainGlobals "_law_worth" = some (some (.ref (He.fAd K ("_law_worth", none)))) := of_decide_eq_true (c.p 1 19 rfl)
  have a_Lspan : PySem.W.nsIn K mainGlobals "_law_span" = some (some (.ref (He.fAd K ("_law_span", none)))) := of_decide_eq_true (c.p 1 20 rfl)
  have a_Lover : PySem.W.nsIn K mainGlobals "_law_over" = some (some (.ref (He.fAd K ("_law_over", none)))) := of_decide_eq_true (c.p 1 21 rfl)
  have a_Lkind : PySem.W.nsIn K mainGlobals "_law_kind" = some (some (.ref (He.fAd K ("_law_kind", none)))) := of_decide_eq_true (c.p 1 22 rfl)
  have a_Lmany : PySem.W.nsIn K mainGlobals "_law_many" = some (some (.ref (He.fAd K ("_law_many", none)))) := of_decide_eq_true (c.p 1 23 rfl)
  have a_Lcame : PySem.W.nsIn K mainGlobals "_law_came" = some (some (.ref (He.fAd K ("_law_came", none)))) := of_decide_eq_true (c.p 1 24 rfl)
  have a_Lsources : PySem.W.nsIn K mainGlobals "_law_sources" = some (some (.ref (He.fAd K ("_law_sources", none)))) := of_decide_eq_true (c.p 2 0 rfl)
  have a_Lchoosing : PySem.W.nsIn K mainGlobals "_law_choosing" = some (some (.ref (He.fAd K ("_law_choosing", none)))) := of_decide_eq_true (c.p 2 1 rfl)
  have a_Lholds : PySem.W.nsIn K mainGlobals "_law_holds" = some (some (.ref (He.fAd K ("_law_holds", none)))) := of_decide_eq_true (c.p 2 2 rfl)
  have a_Lfigures_right : PySem.W.nsIn K mainGlobals "_law_figures_right" = some (some (.ref (He.fAd K ("_law_figures_right", none)))) := of_decide_eq_true (c.p 2 3 rfl)
  have a_Lcorners : PySem.W.nsIn K mainGlobals "_law_corners" = some (some (.ref (He.fAd K ("_law_corners", none)))) := of_decide_eq_true (c.p 2 4 rfl)
  have a_Lby_corners : PySem.W.nsIn K mainGlobals "_law_by_corners" = some (some (.ref (He.fAd K ("_law_by_corners", none)))) := of_decide_eq_true (c.p 2 5 rfl)
  have a_Lodd : PySem.W.nsIn K mainGlobals "_law_odd" = some (some (.ref (He.fAd K ("_law_odd", none)))) := of_decide_eq_true (c.p 2 6 rfl)
  have a_Lright : PySem.W.nsIn K mainGlobals "_law_right" = some (some (.ref (He.fAd K ("_law_right", none)))) := of_decide_eq_true (c.p 2 7 rfl)
  have a_law : PySem.W.nsIn K mainGlobals "law" = some (some (.ref (He.fAd K ("law", none)))) := of_decide_eq_true (c.p 2 8 rfl)
  have z_abs : PySem.W.nsIn K mainGlobals "abs" = some none := of_decide_eq_true (c.p 2 9 rfl)
  have z_all : PySem.W.nsIn K mainGlobals "all" = some none := of_decide_eq_true (c.p 2 10 rfl)
  have z_any : PySem.W.nsIn K mainGlobals "any" = some none := of_decide_eq_true (c.p 2 11 rfl)
  have z_bool : PySem.W.nsIn K mainGlobals "bool" = some none := of_decide_eq_true (c.p 2 12 rfl)
  have z_dict : PySem.W.nsIn K mainGlobals "dict" = some none := of_decide_eq_true (c.p 2 13 rfl)
  have z_enumerate : PySem.W.nsIn K mainGlobals "enumerate" = some none := of_decide_eq_true (c.p 2 14 rfl)
  have z_int : PySem.W.nsIn K mainGlobals "int" = some none := of_decide_eq_true (c.p 2 15 rfl)
  have z_isinstance : PySem.W.nsIn K mainGlobals "isinstance" = some none := of_decide_eq_true (c.p 2 16 rfl)
  have z_len : PySem.W.nsIn K mainGlobals "len" = some none := of_decide_eq_true (c.p 2 17 rfl)
  have z_list : PySem.W.nsIn K mainGlobals "list" = some none := of_decide_eq_true (c.p 2 18 rfl)
  have z_max : PySem.W.nsIn K mainGlobals "max" = some none := of_decide_eq_true (c.p 2 19 rfl)
  have z_min : PySem.W.nsIn K mainGlobals "min" = some none := of_decide_eq_true (c.p 2 20 rfl)
  have z_range : PySem.W.nsIn K mainGlobals "range" = some none := of_decide_eq_true (c.p 2 21 rfl)
  have z_repr : PySem.W.nsIn K mainGlobals "repr" = some none := of_decide_eq_true (c.p 2 22 rfl)
  have z_str : PySem.W.nsIn K mainGlobals "str" = some none := of_decide_eq_true (c.p 2 23 rfl)
  have z_tuple : PySem.W.nsIn K mainGlobals "tuple" = some none := of_decide_eq_true (c.p 2 24 rfl)
  have z_zip : PySem.W.nsIn K mainGlobals "zip" = some none := of_decide_eq_true (c.p 3 0 rfl)
  have g_BARE_KINDS : PySem.W.nsIn K mainGlobals "BARE_KINDS" = some (some (.ref (He.ga K "BARE_KINDS"))) := of_decide_eq_true (c.p 3 1 rfl)
  obtain ⟨e_BARE_KINDS, m_BARE_KINDS, D_BARE_KINDS⟩ := c.t 0 rfl
  have w_BARE_KINDS_0 : PySem.W.nsIn K (He.ga K "BARE_KINDS") "sum" = some none := of_decide_eq_true (c.p 3 2 rfl)
  have w_BARE_KINDS_1 : PySem.W.nsIn K (He.ga K "BARE_KINDS") "loose" = some none := of_decide_eq_true (c.p 3 3 rfl)
  have w_BARE_KINDS_2 : PySem.W.nsIn K (He.ga K "BARE_KINDS") "moved" = some none := of_decide_eq_true (c.p 3 4 rfl)
  have w_BARE_KINDS_3 : PySem.W.nsIn K (He.ga K "BARE_KINDS") "told" = some none := of_decide_eq_true (c.p 3 5 rfl)
  obtain ⟨q_BARE_KINDS_4, w_BARE_KINDS_4⟩ : ∃ q : Tok, PySem.W.nsIn K (He.ga K "BARE_KINDS") "times" = some (some (.int 2 q)) := HD.lit_int (c.p 3 6 rfl)
  have w_BARE_KINDS_5 : PySem.W.nsIn K (He.ga K "BARE_KINDS") "over" = some none := of_decide_eq_true (c.p 3 7 rfl)
  obtain ⟨q_BARE_KINDS_6, w_BARE_KINDS_6⟩ : ∃ q : Tok, PySem.W.nsIn K (He.ga K "BARE_KINDS") "least" = some (some (.int 2 q)) := HD.lit_int (c.p 3 8 rfl)
  obtain ⟨q_BARE_KINDS_7, w_BARE_KINDS_7⟩ : ∃ q : Tok, PySem.W.nsIn K (He.ga K "BARE_KINDS") "most" = some (some (.int 2 q)) := HD.lit_int (c.p 3 9 rfl)
  obtain ⟨q_BARE_KINDS_8, w_BARE_KINDS_8⟩ : ∃ q : Tok, PySem.W.nsIn K (He.ga K "BARE_KINDS") "choose" = some (some (.int 3 q)) := HD.lit_int (c.p 3 10 rfl)
  obtain ⟨A_NOUGHT, o_NOUGHT, i_NOUGHT, m_NOUGHT, g_NOUGHT, h_NOUGHT, u_NOUGHT, u2_NOUGHT, y_NOUGHT, v_NOUGHT⟩ := HD.gt_ok (c.p 3 11 rfl)
  have e := hfa.symm.trans (PySem.W.mg_of X G a_law)
  cases e
  have T : Tx w K mg := ⟨PySem.W.mg_none_of X G z_abs, PySem.W.mg_none_of X G z_all, PySem.W.mg_none_of X G z_any, PySem.W.mg_none_of X G z_bool, PySem.W.mg_none_of X G z_dict, PySem.W.mg_none_of X G z_enumerate, PySem.W.mg_none_of X G z_int, PySem.W.mg_none_of X G z_isinstance, PySem.W.mg_none_of X G z_len, PySem.W.mg_none_of X G z_list, PySem.W.mg_none_of X G z_max, PySem.W.mg_none_of X G z_min, PySem.W.mg_none_of X G z_range, PySem.W.mg_none_of X G z_repr, PySem.W.mg_none_of X G z_str, PySem.W.mg_none_of X G z_tuple, PySem.W.mg_none_of X G z_zip, ⟨_, PySem.W.mg_of X G g_BARE_KINDS, _, _, _, rfl, D_BARE_KINDS, by
    intro z hz
    simp only [List.mem_cons, List.not_mem_nil, or_false] at hz
    rcases hz with rfl | rfl | rfl | rfl | rfl | rfl | rfl | rfl | rfl
    · exact ⟨_, w_BARE_KINDS_0, rfl⟩
    · exact ⟨_, w_BARE_KINDS_1, rfl⟩
    · exact ⟨_, w_BARE_KINDS_2, rfl⟩
    · exact ⟨_, w_BARE_KINDS_3, rfl⟩
    · exact ⟨_, w_BARE_KINDS_4, _, rfl, _, rfl⟩
    · exact ⟨_, w_BARE_KINDS_5, rfl⟩
    · exact ⟨_, w_BARE_KINDS_6, _, rfl, _, rfl⟩
    · exact ⟨_, w_BARE_KINDS_7, _, rfl, _, rfl⟩
    · exact ⟨_, w_BARE_KINDS_8, _, rfl, _, rfl⟩
    ⟩, ⟨_, PySem.W.mg_of X G g_NOUGHT, _, rfl, _, _, _, h_NOUGHT, u_NOUGHT, u2_NOUGHT, y_NOUGHT, v_NOUGHT⟩⟩
  have F_common : Fun K "common" "common" s_common (He.fAd K ("common", none)) (HD.fdo K (He.fAd K ("common", none))) := c.f0 0 0 rfl
  have k_common := F_common.kp
  have B_common := F_common.binds (ps := ["one", "other"]) fun _ _ _ _ _ _ us hl => us_2 us hl fun _ _ => rfl
  have F_frac : FunD K "frac" "frac" (defArgs s_frac) (defBody s_frac) (defScope s_frac) [.int 1] [] (He.fAd K ("frac", none)) (HD.fdo K (He.fAd K ("frac", none))) := c.f1 0 1 rfl
  have k_frac := F_frac.kp
  have B_frac := bindsAll (ps := ["top", "bottom"]) F_frac 2 (by simp) rfl fun T kV doc pm an cdv ct us its hl h2 => match us, its, hl, h2 with | [_, _], [_], _, _ => ⟨_, rfl, rfl⟩
  have F_plus : Fun K "plus" "plus" s_plus (He.fAd K ("plus", none)) (HD.fdo K (He.fAd K ("plus", none))) := c.f0 0 2 rfl
  have k_plus := F_plus.kp
  have B_plus := F_plus.binds (ps := ["one", "other"]) fun _ _ _ _ _ _ us hl => us_2 us hl fun _ _ => rfl
  have F_minus : Fun K "minus" "minus" s_minus (He.fAd K ("minus", none)) (HD.fdo K (He.fAd K ("minus", none))) := c.f0 0 3 rfl
  have k_minus := F_minus.kp
  have B_minus := F_minus.binds (ps := ["one", "other"]) fun _ _ _ _ _ _ us hl => us_2 us hl fun _ _ => rfl
  have F_times : Fun K "times" "times" s_times (He.fAd K ("times", none)) (HD.fdo K (He.fAd K ("times", none))) := c.f0 0 4 rfl
  have k_times := F_times.kp
  have B_times := F_times.binds (ps := ["one", "other"]) fun _ _ _ _ _ _ us hl => us_2 us hl fun _ _ => rfl
  have F_over : Fun K "over" "over" s_over (He.fAd K ("over", none)) (HD.fdo K (He.fAd K ("over", none))) := c.f0 0 5 rfl
  have k_over := F_over.kp
  have B_over := F_over.binds (ps := ["one", "other"]) fun _ _ _ _ _ _ us hl => us_2 us hl fun _ _ => rfl
  have F_is_below : Fun K "is_below" "is_below" s_is_below (He.fAd K ("is_below", none)) (HD.fdo K (He.fAd K ("is_below", none))) := c.f0 0 6 rfl
  have k_is_below := F_is_below.kp
  have B_is_below := F_is_below.binds (ps := ["one", "other"]) fun _ _ _ _ _ _ us hl => us_2 us hl fun _ _ => rfl
  have F_lesser : Fun K "lesser" "lesser" s_lesser (He.fAd K ("lesser", none)) (HD.fdo K (He.fAd K ("lesser", none))) := c.f0 0 7 rfl
  have k_lesser := F_lesser.kp
  have B_lesser := F_lesser.binds (ps := ["one", "other"]) fun _ _ _ _ _ _ us hl => us_2 us hl fun _ _ => rfl
  have F_greater : Fun K "greater" "greater" s_greater (He.fAd K ("greater", none)) (HD.fdo K (He.fAd K ("greater", none))) := c.f0 0 8 rfl
  have k_greater := F_greater.kp
  have B_greater := F_greater.binds (ps := ["one", "other"]) fun _ _ _ _ _ _ us hl => us_2 us hl fun _ _ => rfl
  have F_power : Fun K "power" "power" s_power (He.fAd K ("power", none)) (HD.fdo K (He.fAd K ("power", none))) := c.f0 0 9 rfl
  have k_power := F_power.kp
  have B_power := F_power.binds (ps := ["base", "many"]) fun _ _ _ _ _ _ us hl => us_2 us hl fun _ _ => rfl
  have F_known_to : Fun K "known_to" "known_to" s_known_to (He.fAd K ("known_to", none)) (HD.fdo K (He.fAd K ("known_to", none))) := c.f0 0 10 rfl
  have k_known_to := F_known_to.kp
  have B_known_to := F_known_to.binds (ps := ["row"]) fun _ _ _ _ _ _ us hl => us_1 us hl fun _ => rfl
  have F_whole_of : Fun K "whole_of" "whole_of" s_whole_of (He.fAd K ("whole_of", none)) (HD.fdo K (He.fAd K ("whole_of", none))) := c.f0 0 11 rfl
  have k_whole_of := F_whole_of.kp
  have B_whole_of := F_whole_of.binds (ps := ["base", "figures"]) fun _ _ _ _ _ _ us hl => us_2 us hl fun _ _ => rfl
  have F_worth_of : Fun K "worth_of" "worth_of" s_worth_of (He.fAd K ("worth_of", none)) (HD.fdo K (He.fAd K ("worth_of", none))) := c.f0 0 12 rfl
  have k_worth_of := F_worth_of.kp
  have B_worth_of := F_worth_of.binds (ps := ["base", "row"]) fun _ _ _ _ _ _ us hl => us_2 us hl fun _ _ => rfl
  have F_tail_of : Fun K "tail_of" "tail_of" s_tail_of (He.fAd K ("tail_of", none)) (HD.fdo K (He.fAd K ("tail_of", none))) := c.f0 0 13 rfl
  have k_tail_of := F_tail_of.kp
  have B_tail_of := F_tail_of.binds (ps := ["base", "row"]) fun _ _ _ _ _ _ us hl => us_2 us hl fun _ _ => rfl
  have F_span_of : Fun K "span_of" "span_of" s_span_of (He.fAd K ("span_of", none)) (HD.fdo K (He.fAd K ("span_of", none))) := c.f0 0 14 rfl
  have k_span_of := F_span_of.kp
  have B_span_of := F_span_of.binds (ps := ["base", "row"]) fun _ _ _ _ _ _ us hl => us_2 us hl fun _ _ => rfl
  have F_many_of : Fun K "many_of" "many_of" s_many_of (He.fAd K ("many_of", none)) (HD.fdo K (He.fAd K ("many_of", none))) := c.f0 0 15 rfl
  have k_many_of := F_many_of.kp
  have B_many_of := F_many_of.binds (ps := ["kind"]) fun _ _ _ _ _ _ us hl => us_1 us hl fun _ => rfl
  have F_weighed : Fun K "weighed" "weighed" s_weighed (He.fAd K ("weighed", none)) (HD.fdo K (He.fAd K ("weighed", none))) := c.f0 0 16 rfl
  have k_weighed := F_weighed.kp
  have B_weighed := F_weighed.binds (ps := ["weights", "numbers", "by"]) fun _ _ _ _ _ _ us hl => us_3 us hl fun _ _ _ => rfl
  have F_applied : Fun K "applied" "applied" s_applied (He.fAd K ("applied", none)) (HD.fdo K (He.fAd K ("applied", none))) := c.f0 0 17 rfl
  have k_applied := F_applied.kp
  have B_applied := F_applied.binds (ps := ["base", "kind", "numbers"]) fun _ _ _ _ _ _ us hl => us_3 us hl fun _ _ _ => rfl
  have F_corners_of : Fun K "corners_of" "corners_of" s_corners_of (He.fAd K ("corners_of", none)) (HD.fdo K (He.fAd K ("corners_of", none))) := c.f0 0 18 rfl
  have k_corners_of := F_corners_of.kp
  have B_corners_of := F_corners_of.binds (ps := ["many"]) fun _ _ _ _ _ _ us hl => us_1 us hl fun _ => rfl
  have F_numbers_at : Fun K "numbers_at" "numbers_at" s_numbers_at (He.fAd K ("numbers_at", none)) (HD.fdo K (He.fAd K ("numbers_at", none))) := c.f0 0 19 rfl
  have k_numbers_at := F_numbers_at.kp
  have B_numbers_at := F_numbers_at.binds (ps := ["spans", "ends"]) fun _ _ _ _ _ _ us hl => us_2 us hl fun _ _ => rfl
  have F_reach_of : Fun K "reach_of" "reach_of" s_reach_of (He.fAd K ("reach_of", none)) (HD.fdo K (He.fAd K ("reach_of", none))) := c.f0 0 20 rfl
  have k_reach_of := F_reach_of.kp
  have B_reach_of := F_reach_of.binds (ps := ["base", "kind", "rows"]) fun _ _ _ _ _ _ us hl => us_3 us hl fun _ _ _ => rfl
  have F_raised : Fun K "raised" "raised" s_raised (He.fAd K ("raised", none)) (HD.fdo K (He.fAd K ("raised", none))) := c.f0 0 21 rfl
  have k_raised := F_raised.kp
  have B_raised := F_raised.binds (ps := ["number"]) fun _ _ _ _ _ _ us hl => us_1 us hl fun _ => rfl
  have F_figures_between : Fun K "figures_between" "figures_between" s_figures_between (He.fAd K ("figures_between", none)) (HD.fdo K (He.fAd K ("figures_between", none))) := c.f0 0 22 rfl
  have k_figures_between := F_figures_between.kp
  have B_figures_between := F_figures_between.binds (ps := ["base", "own", "least", "most"]) fun _ _ _ _ _ _ us hl => us_4 us hl fun _ _ _ _ => rfl
  have F_right_figures : Fun K "right_figures" "right_figures" s_right_figures (He.fAd K ("right_figures", none)) (HD.fdo K (He.fAd K ("right_figures", none))) := c.f0 0 23 rfl
  have k_right_figures := F_right_figures.kp
  have B_right_figures := F_right_figures.binds (ps := ["base", "kind", "rows", "own"]) fun _ _ _ _ _ _ us hl => us_4 us hl fun _ _ _ _ => rfl
  have F_number_at : Fun K "number_at" "number_at" s_number_at (He.fAd K ("number_at", none)) (HD.fdo K (He.fAd K ("number_at", none))) := c.f0 0 24 rfl
  have k_number_at := F_number_at.kp
  have B_number_at := F_number_at.binds (ps := ["base", "kind", "rows", "ends"]) fun _ _ _ _ _ _ us hl => us_4 us hl fun _ _ _ _ => rfl
  have F_ends_of : Fun K "ends_of" "ends_of" s_ends_of (He.fAd K ("ends_of", none)) (HD.fdo K (He.fAd K ("ends_of", none))) := c.f0 1 0 rfl
  have k_ends_of := F_ends_of.kp
  have B_ends_of := F_ends_of.binds (ps := ["base", "kind", "rows"]) fun _ _ _ _ _ _ us hl => us_3 us hl fun _ _ _ => rfl
  have F_held_by : Fun K "held_by" "held_by" s_held_by (He.fAd K ("held_by", none)) (HD.fdo K (He.fAd K ("held_by", none))) := c.f0 1 1 rfl
  have k_held_by := F_held_by.kp
  have B_held_by := F_held_by.binds (ps := ["base", "kind", "rows", "own"]) fun _ _ _ _ _ _ us hl => us_4 us hl fun _ _ _ _ => rfl
  have F_are_ends : Fun K "are_ends" "are_ends" s_are_ends (He.fAd K ("are_ends", none)) (HD.fdo K (He.fAd K ("are_ends", none))) := c.f0 1 2 rfl
  have k_are_ends := F_are_ends.kp
  have B_are_ends := F_are_ends.binds (ps := ["many", "thing"]) fun _ _ _ _ _ _ us hl => us_2 us hl fun _ _ => rfl
  have F_shows_held : Fun K "shows_held" "shows_held" s_shows_held (He.fAd K ("shows_held", none)) (HD.fdo K (He.fAd K ("shows_held", none))) := c.f0 1 3 rfl
  have k_shows_held := F_shows_held.kp
  have B_shows_held := F_shows_held.binds (ps := ["base", "kind", "rows", "own", "thing"]) fun _ _ _ _ _ _ us hl => us_5 us hl fun _ _ _ _ _ => rfl
  have F_Lcell_at : Fun K "_law_cell_at" "_law_cell_at" s_Lcell_at (He.fAd K ("_law_cell_at", none)) (HD.fdo K (He.fAd K ("_law_cell_at", none))) := c.f0 1 4 rfl
  have k_Lcell_at := F_Lcell_at.kp
  have B_Lcell_at := F_Lcell_at.binds (ps := ["_law_script", "_law_k"]) fun _ _ _ _ _ _ us hl => us_2 us hl fun _ _ => rfl
  have F_Lbox : Fun K "_law_box" "_law_box" s_Lbox (He.fAd K ("_law_box", none)) (HD.fdo K (He.fAd K ("_law_box", none))) := c.f0 1 5 rfl
  have k_Lbox := F_Lbox.kp
  have B_Lbox := F_Lbox.binds (ps := ["_law_script", "_law_k"]) fun _ _ _ _ _ _ us hl => us_2 us hl fun _ _ => rfl
  have F_Ltake : Fun K "_law_take" "_law_take" s_Ltake (He.fAd K ("_law_take", none)) (HD.fdo K (He.fAd K ("_law_take", none))) := c.f0 1 6 rfl
  have k_Ltake := F_Ltake.kp
  have B_Ltake := F_Ltake.binds (ps := ["_law_box_here", "_law_size"]) fun _ _ _ _ _ _ us hl => us_2 us hl fun _ _ => rfl
  have F_Lof : Fun K "_law_of" "_law_of" s_Lof (He.fAd K ("_law_of", none)) (HD.fdo K (He.fAd K ("_law_of", none))) := c.f0 1 7 rfl
  have k_Lof := F_Lof.kp
  have B_Lof := F_Lof.binds (ps := ["_law_box_here", "_law_some"]) fun _ _ _ _ _ _ us hl => us_2 us hl fun _ _ => rfl
  have F_Lsame : Fun K "_law_same" "_law_same" s_Lsame (He.fAd K ("_law_same", none)) (HD.fdo K (He.fAd K ("_law_same", none))) := c.f0 1 8 rfl
  have k_Lsame := F_Lsame.kp
  have B_Lsame := F_Lsame.binds (ps := ["_law_found", "_law_due"]) fun _ _ _ _ _ _ us hl => us_2 us hl fun _ _ => rfl
  have F_Lbase : Fun K "_law_base" "_law_base" s_Lbase (He.fAd K ("_law_base", none)) (HD.fdo K (He.fAd K ("_law_base", none))) := c.f0 1 9 rfl
  have k_Lbase := F_Lbase.kp
  have B_Lbase := F_Lbase.binds (ps := ["_law_box_here"]) fun _ _ _ _ _ _ us hl => us_1 us hl fun _ => rfl
  have F_Lmost : Fun K "_law_most" "_law_most" s_Lmost (He.fAd K ("_law_most", none)) (HD.fdo K (He.fAd K ("_law_most", none))) := c.f0 1 10 rfl
  have k_Lmost := F_Lmost.kp
  have B_Lmost := F_Lmost.binds (ps := ["_law_box_here", "_law_base_here"]) fun _ _ _ _ _ _ us hl => us_2 us hl fun _ _ => rfl
  have F_Lfigures : Fun K "_law_figures" "_law_figures" s_Lfigures (He.fAd K ("_law_figures", none)) (HD.fdo K (He.fAd K ("_law_figures", none))) := c.f0 1 11 rfl
  have k_Lfigures := F_Lfigures.kp
  have B_Lfigures := F_Lfigures.binds (ps := ["_law_box_here", "_law_most_here", "_law_many_here"]) fun _ _ _ _ _ _ us hl => us_3 us hl fun _ _ _ => rfl
  have F_Lrow : Fun K "_law_row" "_law_row" s_Lrow (He.fAd K ("_law_row", none)) (HD.fdo K (He.fAd K ("_law_row", none))) := c.f0 1 12 rfl
  have k_Lrow := F_Lrow.kp
  have B_Lrow := F_Lrow.binds (ps := ["_law_box_here", "_law_base_here", "_law_many_here"]) fun _ _ _ _ _ _ us hl => us_3 us hl fun _ _ _ => rfl
  have F_Lfrac : Fun K "_law_frac" "_law_frac" s_Lfrac (He.fAd K ("_law_frac", none)) (HD.fdo K (He.fAd K ("_law_frac", none))) := c.f0 1 13 rfl
  have k_Lfrac := F_Lfrac.kp
  have B_Lfrac := F_Lfrac.binds (ps := ["_law_top", "_law_under"]) fun _ _ _ _ _ _ us hl => us_2 us hl fun _ _ => rfl
  have F_Lplus : Fun K "_law_plus" "_law_plus" s_Lplus (He.fAd K ("_law_plus", none)) (HD.fdo K (He.fAd K ("_law_plus", none))) := c.f0 1 14 rfl
  have k_Lplus := F_Lplus.kp
  have B_Lplus := F_Lplus.binds (ps := ["_law_one", "_law_other"]) fun _ _ _ _ _ _ us hl => us_2 us hl fun _ _ => rfl
  have F_Lless : Fun K "_law_less" "_law_less" s_Lless (He.fAd K ("_law_less", none)) (HD.fdo K (He.fAd K ("_law_less", none))) := c.f0 1 15 rfl
  have k_Lless := F_Lless.kp
  have B_Lless := F_Lless.binds (ps := ["_law_one", "_law_other"]) fun _ _ _ _ _ _ us hl => us_2 us hl fun _ _ => rfl
  have F_Ltimes : Fun K "_law_times" "_law_times" s_Ltimes (He.fAd K ("_law_times", none)) (HD.fdo K (He.fAd K ("_law_times", none))) := c.f0 1 16 rfl
  have k_Ltimes := F_Ltimes.kp
  have B_Ltimes := F_Ltimes.binds (ps := ["_law_one", "_law_other"]) fun _ _ _ _ _ _ us hl => us_2 us hl fun _ _ => rfl
  have F_Lbelow : Fun K "_law_below" "_law_below" s_Lbelow (He.fAd K ("_law_below", none)) (HD.fdo K (He.fAd K ("_law_below", none))) := c.f0 1 17 rfl
  have k_Lbelow := F_Lbelow.kp
  have B_Lbelow := F_Lbelow.binds (ps := ["_law_one", "_law_other"]) fun _ _ _ _ _ _ us hl => us_2 us hl fun _ _ => rfl
  have F_Lpower : Fun K "_law_power" "_law_power" s_Lpower (He.fAd K ("_law_power", none)) (HD.fdo K (He.fAd K ("_law_power", none))) := c.f0 1 18 rfl
  have k_Lpower := F_Lpower.kp
  have B_Lpower := F_Lpower.binds (ps := ["_law_base_here", "_law_size"]) fun _ _ _ _ _ _ us hl => us_2 us hl fun _ _ => rfl
  have F_Lworth : Fun K "_law_worth" "_law_worth" s_Lworth (He.fAd K ("_law_worth", none)) (HD.fdo K (He.fAd K ("_law_worth", none))) := c.f0 1 19 rfl
  have k_Lworth := F_Lworth.kp
  have B_Lworth := F_Lworth.binds (ps := ["_law_base_here", "_law_row_here"]) fun _ _ _ _ _ _ us hl => us_2 us hl fun _ _ => rfl
  have F_Lspan : Fun K "_law_span" "_law_span" s_Lspan (He.fAd K ("_law_span", none)) (HD.fdo K (He.fAd K ("_law_span", none))) := c.f0 1 20 rfl
  have k_Lspan := F_Lspan.kp
  have B_Lspan := F_Lspan.binds (ps := ["_law_base_here", "_law_row_here"]) fun _ _ _ _ _ _ us hl => us_2 us hl fun _ _ => rfl
  have F_Lover : Fun K "_law_over" "_law_over" s_Lover (He.fAd K ("_law_over", none)) (HD.fdo K (He.fAd K ("_law_over", none))) := c.f0 1 21 rfl
  have k_Lover := F_Lover.kp
  have B_Lover := F_Lover.binds (ps := ["_law_one", "_law_other"]) fun _ _ _ _ _ _ us hl => us_2 us hl fun _ _ => rfl
  have F_Lkind : Fun K "_law_kind" "_law_kind" s_Lkind (He.fAd K ("_law_kind", none)) (HD.fdo K (He.fAd K ("_law_kind", none))) := c.f0 1 22 rfl
  have k_Lkind := F_Lkind.kp
  have B_Lkind := F_Lkind.binds (ps := ["_law_box_here", "_law_words"]) fun _ _ _ _ _ _ us hl => us_2 us hl fun _ _ => rfl
  have F_Lmany : Fun K "_law_many" "_law_many" s_Lmany (He.fAd K ("_law_many", none)) (HD.fdo K (He.fAd K ("_law_many", none))) := c.f0 1 23 rfl
  have k_Lmany := F_Lmany.kp
  have B_Lmany := F_Lmany.binds (ps := ["_law_kind_here"]) fun _ _ _ _ _ _ us hl => us_1 us hl fun _ => rfl
  have F_Lcame : Fun K "_law_came" "_law_came" s_Lcame (He.fAd K ("_law_came", none)) (HD.fdo K (He.fAd K ("_law_came", none))) := c.f0 1 24 rfl
  have k_Lcame := F_Lcame.kp
  have B_Lcame := F_Lcame.binds (ps := ["_law_base_here", "_law_kind_here", "_law_some"]) fun _ _ _ _ _ _ us hl => us_3 us hl fun _ _ _ => rfl
  have F_Lsources : Fun K "_law_sources" "_law_sources" s_Lsources (He.fAd K ("_law_sources", none)) (HD.fdo K (He.fAd K ("_law_sources", none))) := c.f0 2 0 rfl
  have k_Lsources := F_Lsources.kp
  have B_Lsources := F_Lsources.binds (ps := ["_law_box_here", "_law_base_here", "_law_kind_here", "_law_many_here"]) fun _ _ _ _ _ _ us hl => us_4 us hl fun _ _ _ _ => rfl
  have F_Lchoosing : Fun K "_law_choosing" "_law_choosing" s_Lchoosing (He.fAd K ("_law_choosing", none)) (HD.fdo K (He.fAd K ("_law_choosing", none))) := c.f0 2 1 rfl
  have k_Lchoosing := F_Lchoosing.kp
  have B_Lchoosing := F_Lchoosing.binds (ps := []) fun _ _ _ _ _ _ us hl => match us, hl with | [], _ => rfl
  have F_Lholds : Fun K "_law_holds" "_law_holds" s_Lholds (He.fAd K ("_law_holds", none)) (HD.fdo K (He.fAd K ("_law_holds", none))) := c.f0 2 2 rfl
  have k_Lholds := F_Lholds.kp
  have B_Lholds := F_Lholds.binds (ps := ["_law_base_here", "_law_row_here", "_law_pair"]) fun _ _ _ _ _ _ us hl => us_3 us hl fun _ _ _ => rfl
  have F_Lfigures_right : Fun K "_law_figures_right" "_law_figures_right" s_Lfigures_right (He.fAd K ("_law_figures_right", none)) (HD.fdo K (He.fAd K ("_law_figures_right", none))) := c.f0 2 3 rfl
  have k_Lfigures_right := F_Lfigures_right.kp
  have B_Lfigures_right := F_Lfigures_right.binds (ps := ["_law_base_here", "_law_pair", "_law_own"]) fun _ _ _ _ _ _ us hl => us_3 us hl fun _ _ _ => rfl
  have F_Lcorners : Fun K "_law_corners" "_law_corners" s_Lcorners (He.fAd K ("_law_corners", none)) (HD.fdo K (He.fAd K ("_law_corners", none))) := c.f0 2 4 rfl
  have k_Lcorners := F_Lcorners.kp
  have B_Lcorners := F_Lcorners.binds (ps := ["_law_many_here"]) fun _ _ _ _ _ _ us hl => us_1 us hl fun _ => rfl
  have F_Lby_corners : Fun K "_law_by_corners" "_law_by_corners" s_Lby_corners (He.fAd K ("_law_by_corners", none)) (HD.fdo K (He.fAd K ("_law_by_corners", none))) := c.f0 2 5 rfl
  have k_Lby_corners := F_Lby_corners.kp
  have B_Lby_corners := F_Lby_corners.binds (ps := ["_law_base_here", "_law_kind_here", "_law_rows", "_law_own"]) fun _ _ _ _ _ _ us hl => us_4 us hl fun _ _ _ _ => rfl
  have F_Lodd : Fun K "_law_odd" "_law_odd" s_Lodd (He.fAd K ("_law_odd", none)) (HD.fdo K (He.fAd K ("_law_odd", none))) := c.f0 2 6 rfl
  have k_Lodd := F_Lodd.kp
  have B_Lodd := F_Lodd.binds (ps := ["_law_box_here", "_law_pair"]) fun _ _ _ _ _ _ us hl => us_2 us hl fun _ _ => rfl
  have F_Lright : Fun K "_law_right" "_law_right" s_Lright (He.fAd K ("_law_right", none)) (HD.fdo K (He.fAd K ("_law_right", none))) := c.f0 2 7 rfl
  have k_Lright := F_Lright.kp
  have B_Lright := F_Lright.binds (ps := ["_law_box_here"]) fun _ _ _ _ _ _ us hl => us_1 us hl fun _ => rfl
  have F_law : Fun K "law" "law" s_law (He.fAd K ("law", none)) (HD.fdo K (He.fAd K ("law", none))) := c.f0 2 8 rfl
  have k_law := F_law.kp
  have B_law := F_law.binds (ps := ["_law_script"]) fun _ _ _ _ _ _ us hl => us_1 us hl fun _ => rfl
  refine ⟨_, HD.law_binds F_law fun _ _ _ _ _ _ s v => .of_eq rfl, fun base _ _ => ?_⟩
  have G_common : Does l.prog w K mg base 1 "common" ["one", "other"] _ _ sp_common := ⟨PySem.W.mg_of X G a_common, k_common, B_common, ok_common F_common T vc_common len_common  ⟩
  have G_frac : Does l.prog w K mg base 2 "frac" ["top", "bottom"] _ _ sp_frac := ⟨PySem.W.mg_of X G a_frac, k_frac, B_frac, ok_frac F_frac T vc_frac len_frac G_common ⟩
  have G_plus : Does l.prog w K mg base 3 "plus" ["one", "other"] _ _ sp_plus := ⟨PySem.W.mg_of X G a_plus, k_plus, B_plus, ok_plus F_plus T vc_plus len_plus G_frac ⟩
  have G_minus : Does l.prog w K mg base 3 "minus" ["one", "other"] _ _ sp_minus := ⟨PySem.W.mg_of X G a_minus, k_minus, B_minus, ok_minus F_minus T vc_minus len_minus G_frac ⟩
  have G_times : Does l.prog w K mg base 3 "times" ["one", "other"] _ _ sp_times := ⟨PySem.W.mg_of X G a_times, k_times, B_times, ok_times F_times T vc_times len_times G_frac ⟩
  have G_over : Does l.prog w K mg base 3 "over" ["one", "other"] _ _ sp_over := ⟨PySem.W.mg_of X G a_over, k_over, B_over, ok_over F_over T vc_over len_over G_frac ⟩
  have G_is_below : Does l.prog w K mg base 1 "is_below" ["one", "other"] _ _ sp_is_below := ⟨PySem.W.mg_of X G a_is_below, k_is_below, B_is_below, ok_is_below F_is_below T vc_is_below len_is_below  ⟩
  have G_lesser : Does l.prog w K mg base 2 "lesser" ["one", "other"] _ _ sp_lesser := ⟨PySem.W.mg_of X G a_lesser, k_lesser, B_lesser, ok_lesser F_lesser T vc_lesser len_lesser G_is_below ⟩
  have G_greater : Does l.prog w K mg base 2 "greater" ["one", "other"] _ _ sp_greater := ⟨PySem.W.mg_of X G a_greater, k_greater, B_greater, ok_greater F_greater T vc_greater len_greater G_is_below ⟩
  have G_power : Does l.prog w K mg base 1 "power" ["base", "many"] _ _ sp_power := ⟨PySem.W.mg_of X G a_power, k_power, B_power, ok_power F_power T vc_power len_power  ⟩
  have G_known_to : Does l.prog w K mg base 1 "known_to" ["row"] _ _ sp_known_to := ⟨PySem.W.mg_of X G a_known_to, k_known_to, B_known_to, ok_known_to F_known_to T vc_known_to len_known_to  ⟩
  have G_whole_of : Does l.prog w K mg base 1 "whole_of" ["base", "figures"] _ _ sp_whole_of := ⟨PySem.W.mg_of X G a_whole_of, k_whole_of, B_whole_of, ok_whole_of F_whole_of T vc_whole_of len_whole_of  ⟩
  have G_worth_of : Does l.prog w K mg base 4 "worth_of" ["base", "row"] _ _ sp_worth_of := ⟨PySem.W.mg_of X G a_worth_of, k_worth_of, B_worth_of, ok_worth_of F_worth_of T vc_worth_of len_worth_of G_times G_power G_known_to G_whole_of ⟩
  have G_tail_of : Does l.prog w K mg base 4 "tail_of" ["base", "row"] _ _ sp_tail_of := ⟨PySem.W.mg_of X G a_tail_of, k_tail_of, B_tail_of, ok_tail_of F_tail_of T vc_tail_of len_tail_of G_times G_power G_known_to G_frac ⟩
  have G_span_of : Does l.prog w K mg base 5 "span_of" ["base", "row"] _ _ sp_span_of := ⟨PySem.W.mg_of X G a_span_of, k_span_of, B_span_of, ok_span_of F_span_of T vc_span_of len_span_of G_worth_of G_tail_of G_plus G_minus ⟩
  have G_many_of : Does l.prog w K mg base 1 "many_of" ["kind"] _ _ sp_many_of := ⟨PySem.W.mg_of X G a_many_of, k_many_of, B_many_of, ok_many_of F_many_of T vc_many_of len_many_of  ⟩
  have G_weighed : Does l.prog w K mg base 4 "weighed" ["weights", "numbers", "by"] _ _ sp_weighed := ⟨PySem.W.mg_of X G a_weighed, k_weighed, B_weighed, ok_weighed F_weighed T vc_weighed len_weighed G_plus G_times G_over ⟩
  have G_applied : Does l.prog w K mg base 5 "applied" ["base", "kind", "numbers"] _ _ sp_applied := ⟨PySem.W.mg_of X G a_applied, k_applied, B_applied, ok_applied F_applied T vc_applied len_applied G_weighed G_times G_power G_over G_greater G_lesser ⟩
  have G_corners_of : Does l.prog w K mg base 1 "corners_of" ["many"] _ _ sp_corners_of := ⟨PySem.W.mg_of X G a_corners_of, k_corners_of, B_corners_of, ok_corners_of F_corners_of T vc_corners_of len_corners_of  ⟩
  have G_numbers_at : Does l.prog w K mg base 1 "numbers_at" ["spans", "ends"] _ _ sp_numbers_at := ⟨PySem.W.mg_of X G a_numbers_at, k_numbers_at, B_numbers_at, ok_numbers_at F_numbers_at T vc_numbers_at len_numbers_at  ⟩
  have G_reach_of : Does l.prog w K mg base 6 "reach_of" ["base", "kind", "rows"] _ _ sp_reach_of := ⟨PySem.W.mg_of X G a_reach_of, k_reach_of, B_reach_of, ok_reach_of F_reach_of T vc_reach_of len_reach_of G_span_of G_corners_of G_applied G_numbers_at G_lesser G_greater ⟩
  have G_raised : Does l.prog w K mg base 1 "raised" ["number"] _ _ sp_raised := ⟨PySem.W.mg_of X G a_raised, k_raised, B_raised, ok_raised F_raised T vc_raised len_raised  ⟩
  have G_figures_between : Does l.prog w K mg base 5 "figures_between" ["base", "own", "least", "most"] _ _ sp_figures_between := ⟨PySem.W.mg_of X G a_figures_between, k_figures_between, B_figures_between, ok_figures_between F_figures_between T vc_figures_between len_figures_between G_power G_known_to G_frac G_worth_of G_raised G_minus G_times G_plus ⟩
  have G_right_figures : Does l.prog w K mg base 7 "right_figures" ["base", "kind", "rows", "own"] _ _ sp_right_figures := ⟨PySem.W.mg_of X G a_right_figures, k_right_figures, B_right_figures, ok_right_figures F_right_figures T vc_right_figures len_right_figures G_reach_of G_figures_between ⟩
  have G_number_at : Does l.prog w K mg base 6 "number_at" ["base", "kind", "rows", "ends"] _ _ sp_number_at := ⟨PySem.W.mg_of X G a_number_at, k_number_at, B_number_at, ok_number_at F_number_at T vc_number_at len_number_at G_applied G_numbers_at G_span_of ⟩
  have G_ends_of : Does l.prog w K mg base 7 "ends_of" ["base", "kind", "rows"] _ _ sp_ends_of := ⟨PySem.W.mg_of X G a_ends_of, k_ends_of, B_ends_of, ok_ends_of F_ends_of T vc_ends_of len_ends_of G_corners_of G_many_of G_number_at G_is_below ⟩
  have G_held_by : Does l.prog w K mg base 8 "held_by" ["base", "kind", "rows", "own"] _ _ sp_held_by := ⟨PySem.W.mg_of X G a_held_by, k_held_by, B_held_by, ok_held_by F_held_by T vc_held_by len_held_by G_right_figures G_ends_of ⟩
  have G_are_ends : Does l.prog w K mg base 1 "are_ends" ["many", "thing"] _ _ sp_are_ends := ⟨PySem.W.mg_of X G a_are_ends, k_are_ends, B_are_ends, ok_are_ends F_are_ends T vc_are_ends len_are_ends  ⟩
  have G_shows_held : Does l.prog w K mg base 7 "shows_held" ["base", "kind", "rows", "own", "thing"] _ _ sp_shows_held := ⟨PySem.W.mg_of X G a_shows_held, k_shows_held, B_shows_held, ok_shows_held F_shows_held T vc_shows_held len_shows_held G_are_ends G_many_of G_number_at G_is_below G_figures_between ⟩
  have G_Lcell_at : Does l.prog w K mg base 1 "_law_cell_at" ["_law_script", "_law_k"] _ _ sp_Lcell_at := ⟨PySem.W.mg_of X G a_Lcell_at, k_Lcell_at, B_Lcell_at, ok_Lcell_at F_Lcell_at T vc_Lcell_at len_Lcell_at  ⟩
  have G_Lbox : Does l.prog w K mg base 2 "_law_box" ["_law_script", "_law_k"] _ _ sp_Lbox := ⟨PySem.W.mg_of X G a_Lbox, k_Lbox, B_Lbox, ok_Lbox F_Lbox T vc_Lbox len_Lbox G_Lcell_at ⟩
  have G_Ltake : Does l.prog w K mg base 1 "_law_take" ["_law_box_here", "_law_size"] _ _ sp_Ltake := ⟨PySem.W.mg_of X G a_Ltake, k_Ltake, B_Ltake, ok_Ltake F_Ltake T vc_Ltake len_Ltake  ⟩
  have G_Lof : Does l.prog w K mg base 2 "_law_of" ["_law_box_here", "_law_some"] _ _ sp_Lof := ⟨PySem.W.mg_of X G a_Lof, k_Lof, B_Lof, ok_Lof F_Lof T vc_Lof len_Lof G_Ltake ⟩
  have G_Lsame : Does l.prog w K mg base 6 "_law_same" ["_law_found", "_law_due"] _ _ sp_Lsame := ⟨PySem.W.mg_of X G a_Lsame, k_Lsame, B_Lsame, ok_Lsame F_Lsame T vc_Lsame len_Lsame z_Lsame (PySem.W.mg_of X G a_Lsame) k_Lsame B_Lsame  6⟩
  have G_Lbase : Does l.prog w K mg base 3 "_law_base" ["_law_box_here"] _ _ sp_Lbase := ⟨PySem.W.mg_of X G a_Lbase, k_Lbase, B_Lbase, ok_Lbase F_Lbase T vc_Lbase len_Lbase G_Lof ⟩
  have G_Lmost : Does l.prog w K mg base 3 "_law_most" ["_law_box_here", "_law_base_here"] _ _ sp_Lmost := ⟨PySem.W.mg_of X G a_Lmost, k_Lmost, B_Lmost, ok_Lmost F_Lmost T vc_Lmost len_Lmost G_Lof G_Ltake ⟩
  have G_Lfigures : Does l.prog w K mg base 2 "_law_figures" ["_law_box_here", "_law_most_here", "_law_many_here"] _ _ sp_Lfigures := ⟨PySem.W.mg_of X G a_Lfigures, k_Lfigures, B_Lfigures, ok_Lfigures F_Lfigures T vc_Lfigures len_Lfigures G_Ltake ⟩
  have G_Lrow : Does l.prog w K mg base 4 "_law_row" ["_law_box_here", "_law_base_here", "_law_many_here"] _ _ sp_Lrow := ⟨PySem.W.mg_of X G a_Lrow, k_Lrow, B_Lrow, ok_Lrow F_Lrow T vc_Lrow len_Lrow G_Lmost G_Lfigures G_Ltake ⟩
  have G_Lfrac : Does l.prog w K mg base 1 "_law_frac" ["_law_top", "_law_under"] _ _ sp_Lfrac := ⟨PySem.W.mg_of X G a_Lfrac, k_Lfrac, B_Lfrac, ok_Lfrac F_Lfrac T vc_Lfrac len_Lfrac  ⟩
  have G_Lplus : Does l.prog w K mg base 2 "_law_plus" ["_law_one", "_law_other"] _ _ sp_Lplus := ⟨PySem.W.mg_of X G a_Lplus, k_Lplus, B_Lplus, ok_Lplus F_Lplus T vc_Lplus len_Lplus G_Lfrac ⟩
  have G_Lless : Does l.prog w K mg base 2 "_law_less" ["_law_one", "_law_other"] _ _ sp_Lless := ⟨PySem.W.mg_of X G a_Lless, k_Lless, B_Lless, ok_Lless F_Lless T vc_Lless len_Lless G_Lfrac ⟩
  have G_Ltimes : Does l.prog w K mg base 2 "_law_times" ["_law_one", "_law_other"] _ _ sp_Ltimes := ⟨PySem.W.mg_of X G a_Ltimes, k_Ltimes, B_Ltimes, ok_Ltimes F_Ltimes T vc_Ltimes len_Ltimes G_Lfrac ⟩
  have G_Lbelow : Does l.prog w K mg base 1 "_law_below" ["_law_one", "_law_other"] _ _ sp_Lbelow := ⟨PySem.W.mg_of X G a_Lbelow, k_Lbelow, B_Lbelow, ok_Lbelow F_Lbelow T vc_Lbelow len_Lbelow  ⟩
  have G_Lpower : Does l.prog w K mg base 1 "_law_power" ["_law_base_here", "_law_size"] _ _ sp_Lpower := ⟨PySem.W.mg_of X G a_Lpower, k_Lpower, B_Lpower, ok_Lpower F_Lpower T vc_Lpower len_Lpower  ⟩
  have G_Lworth : Does l.prog w K mg base 3 "_law_worth" ["_law_base_here", "_law_row_here"] _ _ sp_Lworth := ⟨PySem.W.mg_of X G a_Lworth, k_Lworth, B_Lworth, ok_Lworth F_Lworth T vc_Lworth len_Lworth G_Lplus G_Ltimes G_Lpower ⟩
  have G_Lspan : Does l.prog w K mg base 4 "_law_span" ["_law_base_here", "_law_row_here"] _ _ sp_Lspan := ⟨PySem.W.mg_of X G a_Lspan, k_Lspan, B_Lspan, ok_Lspan F_Lspan T vc_Lspan len_Lspan G_Ltimes G_Lpower G_Lfrac G_Lworth G_Lplus G_Lless ⟩
  have G_Lover : Does l.prog w K mg base 2 "_law_over" ["_law_one", "_law_other"] _ _ sp_Lover := ⟨PySem.W.mg_of X G a_Lover, k_Lover, B_Lover, ok_Lover F_Lover T vc_Lover len_Lover G_Lfrac ⟩
  have G_Lkind : Does l.prog w K mg base 3 "_law_kind" ["_law_box_here", "_law_words"] _ _ sp_Lkind := ⟨PySem.W.mg_of X G a_Lkind, k_Lkind, B_Lkind, ok_Lkind F_Lkind T vc_Lkind len_Lkind G_Lof G_Ltake G_Lfrac ⟩
  have G_Lmany : Does l.prog w K mg base 1 "_law_many" ["_law_kind_here"] _ _ sp_Lmany := ⟨PySem.W.mg_of X G a_Lmany, k_Lmany, B_Lmany, ok_Lmany F_Lmany T vc_Lmany len_Lmany  ⟩
  have G_Lcame : Does l.prog w K mg base 3 "_law_came" ["_law_base_here", "_law_kind_here", "_law_some"] _ _ sp_Lcame := ⟨PySem.W.mg_of X G a_Lcame, k_Lcame, B_Lcame, ok_Lcame F_Lcame T vc_Lcame len_Lcame G_Lplus G_Ltimes G_Lover G_Lpower G_Lbelow ⟩
  have G_Lsources : Does l.prog w K mg base 5 "_law_sources" ["_law_box_here", "_law_base_here", "_law_kind_here", "_law_many_here"] _ _ sp_Lsources := ⟨PySem.W.mg_of X G a_Lsources, k_Lsources, B_Lsources, ok_Lsources F_Lsources T vc_Lsources len_Lsources G_Lmany G_Lrow ⟩
  have G_Lchoosing : Does l.prog w K mg base 1 "_law_choosing" [] _ _ sp_Lchoosing := ⟨PySem.W.mg_of X G a_Lchoosing, k_Lchoosing, B_Lchoosing, ok_Lchoosing F_Lchoosing T vc_Lchoosing len_Lchoosing  ⟩
  have G_Lholds : Does l.prog w K mg base 5 "_law_holds" ["_law_base_here", "_law_row_here", "_law_pair"] _ _ sp_Lholds := ⟨PySem.W.mg_of X G a_Lholds, k_Lholds, B_Lholds, ok_Lholds F_Lholds T vc_Lholds len_Lholds G_Lspan G_Lbelow ⟩
  have G_Lfigures_right : Does l.prog w K mg base 6 "_law_figures_right" ["_law_base_here", "_law_pair", "_law_own"] _ _ sp_Lfigures_right := ⟨PySem.W.mg_of X G a_Lfigures_right, k_Lfigures_right, B_Lfigures_right, ok_Lfigures_right F_Lfigures_right T vc_Lfigures_right len_Lfigures_right G_Lholds ⟩
  have G_Lcorners : Does l.prog w K mg base 1 "_law_corners" ["_law_many_here"] _ _ sp_Lcorners := ⟨PySem.W.mg_of X G a_Lcorners, k_Lcorners, B_Lcorners, ok_Lcorners F_Lcorners T vc_Lcorners len_Lcorners  ⟩
  have G_Lby_corners : Does l.prog w K mg base 7 "_law_by_corners" ["_law_base_here", "_law_kind_here", "_law_rows", "_law_own"] _ _ sp_Lby_corners := ⟨PySem.W.mg_of X G a_Lby_corners, k_Lby_corners, B_Lby_corners, ok_Lby_corners F_Lby_corners T vc_Lby_corners len_Lby_corners G_Lcorners G_Lcame G_Lspan G_Lfigures_right ⟩
  have G_Lodd : Does l.prog w K mg base 2 "_law_odd" ["_law_box_here", "_law_pair"] _ _ sp_Lodd := ⟨PySem.W.mg_of X G a_Lodd, k_Lodd, B_Lodd, ok_Lodd F_Lodd T vc_Lodd len_Lodd G_Ltake ⟩
  have G_Lright : Does l.prog w K mg base 9 "_law_right" ["_law_box_here"] _ _ sp_Lright := ⟨PySem.W.mg_of X G a_Lright, k_Lright, B_Lright, ok_Lright F_Lright T vc_Lright len_Lright G_Lbase G_Lkind G_Lchoosing G_Lsources G_Lmost G_Lfigures G_Ltake G_Lby_corners G_Lsame G_shows_held G_held_by G_Lof G_Lodd ⟩
  have G_law : Does l.prog w K mg base 10 "law" ["_law_script"] _ _ sp_law := ⟨PySem.W.mg_of X G a_law, k_law, B_law, ok_law F_law T vc_law len_law G_Lright G_Lbox ⟩
  exact G_law.ok.imp law_up
end K14
open PySem PySem.W PyProof.Rows
set_option maxHeartbeats 0 in
theorem PySem.Challenge.cw_firstfigures_k14_pairs_that_show_it_or_n_holds : PySem.Challenge.rw_firstfigures_k14_pairs_that_show_it_or_n.Holds := by
  w_on; o_law
  refine HandSHeadRun.head_any (r := HDR.hdR) (q := HDR.hdV) (H := HDR.hdK) (ob := HDR.hdO) (M := 20000) (loose := HDR.hdN) (d := HandSHeadRun.topDef HDR.hdR.prog 65) (kwd := []) HDR.hdO_eq (by kernel_rfl) (fun s => by kernel_rfl) HDR.hdE (by kernel_rfl) (by kernel_rfl) (by kernel_rfl) (by rfl) (by first | assumption | decide +kernel) (by decide +kernel) ⟨rfl, rfl, rfl, rfl, rfl, by decide +kernel⟩ ?hw ?hc
  case hw => w_witness2
  case hc =>
    refine HD.walk_of (l := PySem.Challenge.rw_firstfigures_k14_pairs_that_show_it_or_n) (n := 63) (k := 10) (x := "_law_script") (CX := fun _ => L2.CX0) (sp := fun _ K => DL.spLaw K) rfl (by decide) (by kernel_rfl) ⟨⟨rfl, by decide, by decide⟩, rfl⟩ ?F (fun _ _ _ a ns hl _ hS => ⟨a, ns, rfl, hS, hl, fun _ => rfl⟩) (fun _ _ _ _ _ h => h)
    intro w mg fa h Y G hmg0
    obtain ⟨K, KX, c⟩ := Y
    have hmg : mg "law" = some (.ref fa) := by
      have e : (HandSHeadRun.topDef HDR.hdR.prog 65).name = ("law" : PySem.Str) := by kernel_rfl
      rw [← e]
      exact hmg0
    exact ⟨K, KX, K14.all_mk KX G hmg c⟩
